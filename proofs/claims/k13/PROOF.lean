import PyProof.Rows.All
import HandS.CallSlots
import HandS.Conv
import HandS.DictComp
import HandS.EndBits
import HandS.Exc
import HandS.ExcField
import HandS.ExcIs
import HandS.Flow
import HandS.ForMost
import HandS.IsInst
import HandS.More
import HandS.Style
import HandS.TryMany
import HandS.TupAny
import HandS.Wide
import HandS.WordsExc
import HandS.Zip
import KE.DataEq
import KE.DataFind
import KE.DataMinMax
import KE.GoesEnum
import KE.GoesMore
import KE.KExcSuper
import KE.SortData
import OpenK.AllK
import PyProof.EqAt
import PyProof.EqKinds
import PyProof.TupleCall
import PySem.Challenge.RW_lampwalks_k13_roads_crossed_by_own_parti
import Wide.All
import Wide.FinOn
set_option Elab.async false
set_option linter.all false
set_option maxRecDepth 100000
/-! an error class under a base whose __init__ says super().__init__('refused'); self.what = what -/
namespace PySem
namespace ErrX
open PySem.W PySem.Calls PyProof.Rows PySem.HandSPX
def iA (p1 p2 : Pos) : Arguments := { posonlyargs := [], args := [{ arg := "self", annotation := none, pos := p1 }, { arg := "what", annotation := none, pos := p2 }], vararg := none, kwonlyargs := [], kw_defaults := [], kwarg := none, defaults := [] }
def iB (q1 q2 q3 q4 q5 q6 q7 q8 q9 q10 : Pos) : List Stmt := [.Expr (.Call (.Attribute (.Call (.Name "super" q1) [] [] q2) "__init__" q3) [.Constant (.str "refused") 0 q4] [] q5) q6, .Assign [.Attribute (.Name "self" q7) "what" q8] (.Name "what" q9) q10]
def iS : Scope := { kind := .function, names := [(PySem.Str.ofString "self", .local), (PySem.Str.ofString "what", .local), (PySem.Str.ofString "__class__", .free), (PySem.Str.ofString "super", .globalImplicit)], isGenerator := false, isCoroutine := false, more := [] }
structure InitTxt (prog : Program) (K : Frag) (D fI : Addr) : Prop where
  fn : ∃ (oc : Value) (od : Option Addr) (kV doc pm : Value) (an : Option Addr) (cda cc : Addr) (ct : Value) (osl : Array (Option Value)) (p1 p2 q1 q2 q3 q4 q5 q6 q7 q8 q9 q10 : Pos) (ccl : Value) (cdd : Option Addr) (vs : Array Value) (ccs : Array (Option Value)) (file : Str) (tf : Tok) (cl : Value) (cld : Option Addr) (csl : Array (Option Value)) (cdD : ClassData),
    K.lookup fI = some ⟨oc, od, .func (ksFn "__init__" "Refused.__init__" (iA p1 p2) (iB q1 q2 q3 q4 q5 q6 q7 q8 q9 q10) iS .none kV doc pm an (.ref cda) ct cc), osl⟩ ∧ codeIn K (.ref cda) "Refused.__init__" = true ∧
    K.lookup cda = some ⟨ccl, cdd, .fields vs, ccs⟩ ∧ vs[2]? = some (.str file tf) ∧ ((prog.main.file : Str) == file) = true ∧
    K.lookup cc = some ⟨cl, cld, .cell (some (.ref D)), csl⟩ ∧ clsIn K D = some cdD ∧ (q3.endLine == q5.line) = true
  nsu : nsIn K mainGlobals "super" = some none
  tp : nsIn K cStatics "thirdparty.any" = some none
  top : (prog.main.scope.names.lookup ("super" : Str)).isSome = false
structure ErrTxt (prog : Program) (K : Frag) (C D fI : Addr) : Prop where
  init : InitTxt prog K D fI
  cls : ∃ nm q N bs bm sn sub ab col dd k0 k1 k2 k3 k5, K.lookup C = some (excClassObj nm q C N bs bm true sn sub ab col dd k0 k1 k2 k3 k5 "ValueError.__new__") ∧ refsVE bm = true
  sa : findIn K (.ref C) "__setattr__" = some (some (.builtin "object.__setattr__"))
  ga : findIn K (.ref C) "__getattribute__" = some (some (.builtin "BaseException.__getattribute__"))
  gg : findIn K (.ref C) "__getattr__" = some none
  noN : findIn K (.ref C) "what" = some none
  iC : findIn K (.ref C) "__init__" = some (some (.ref fI))
  tC : typeIn K (.ref fI) = some (.type "function")
  kC : keepIn K (.ref C) = true
  exC : subIn K (.ref C) (.type "BaseException") = some true
  veC : subIn K (.ref C) (.type "ValueError") = some true
  tyC : typeIn K (.ref C) = some (.type "type")
  hdC : hasDictIn K C = true
  sup : ks_superIn K C D "__init__" = some (some (.builtin "ValueError.__init__"))
  mro : mroIn K C (.ref D) = some true
/-- what __init__ leaves of a fresh exception at x -/
structure InitEnd (h h' : Heap) (x C dx : Addr) (v : Value) : Prop where
  keep : ∀ b o, b ≠ x → h.get? b = some o → h'.get? b = some o
  obj : ∃ t1, h'.get? x = some { cls := .ref C, dict := some dx, data := .fields #[.ref t1, .none, .none, .none, .bool false, .none] }
  dbig : h.objs.size ≤ dx
  dne : dx ≠ x
  ns : h'.Ns1 dx (fun y => if y = "what" then some v else none)
structure OwnMade (h h' : Heap) (e C d : Addr) (v : Value) : Prop where
  keep : ∀ b o, h.get? b = some o → h'.get? b = some o
  new : h.objs.size ≤ e
  obj : ∃ oe vs, h'.get? e = some oe ∧ oe.cls = .ref C ∧ oe.dict = some d ∧ oe.data = .fields vs ∧ vs[1]? = some .none
  dbig : h.objs.size ≤ d
  dne : d ≠ e
  ns : h'.Ns1 d (fun y => if y = "what" then some v else none)
section
variable {prog : Program} {w : World} {A : Around} {E : Value → Shared → Prop} {R : Result → Shared → Prop} {s : Shared} {K : Frag} {mg : Str → Option Value} {C D fI : Addr}
/-- ValueError's __init__, bound, called -/
theorem call_ve {u e t0 : Addr} {rest : List Value} {Q : Value → Shared → Prop} {h : Heap} {g : Array GenState} {d : Drawn} {t : Nat} {os : OsState} {nm q : Str} {N : Addr} {bs bm : List Value} {hdct : Bool} {sn : List Str} {sub : List Value} {ab : Bool} {col : Option Bool} {dd : Option Addr} {k0 k1 k2 k3 k5 : Option Value}
    (hC : h.get? C = some (excClassObj nm q C N bs bm hdct sn sub ab col dd k0 k1 k2 k3 k5 "ValueError.__new__")) (he : h.get? e = some (excO C t0)) (hu : h.get? u = some (kxs_mw "ValueError.__init__" e)) (hrest : rest.length ≤ sizeLine)
    (hq : ∀ h' t1, (∀ b o, b ≠ e → h.get? b = some o → h'.get? b = some o) → h'.get? e = some (excO C t1) → Q .none ⟨h', g, d, t, os⟩) :
    wpAny (model prog w) A (call (.ref u) rest) Q E ⟨h, g, d, t, os⟩ := by
  refine wpAny_call (codeAny_of_tree ?_)
  show wpAny _ A.in1 (callAny (.ref u) ⟨rest, []⟩) _ _ _
  simp only [callAny]
  refine wpAny_bind (wpAny_load hu ?_)
  simp only [kxs_mw, show (Value.type "method-wrapper" == Value.type "method" || Value.type "method-wrapper" == Value.type "builtin_function_or_method" || Value.type "method-wrapper" == Value.type "method-wrapper") = true by decide, if_true]
  refine KFB.if_so (by decide) ?_
  refine wpAny_bind (check_bound_init F.excBase_ValueError.toExcCallFacts hC he rfl ?_)
  refine wpAny_bind (wpAny_pure (wpAny_pure ?_))
  refine ⟨Code.quiet_builtin _ (by decide +kernel), codeAny_builtin F.excBase_ValueError.initEntry ?_⟩
  exact exc_init_tree (cls := .ref C) (t0 := t0) (dv := none) (c2 := .none) (c3 := .none) (b4 := .bool false) he hrest fun h' k e' _ => hq h' _ k e'
end
end ErrX
end PySem
set_option Elab.async false
set_option linter.all false
set_option maxRecDepth 100000
namespace PySem
namespace ErrX
open PySem.W PySem.Calls PyProof.Rows PySem.HandSPX
section
variable {prog : Program} {w : World} {A : Around} {E : Value → Shared → Prop} {R : Result → Shared → Prop} {s : Shared} {K : Frag} {mg : Str → Option Value} {C D fI : Addr}
theorem one_size (v : Value) : [v].length ≤ sizeLine := by
  rw [sizeLine_eq]
  exact (by decide : 1 ≤ 16777216)
theorem ldE {M : Model} {s : Shared} {name : Str} {scope : Scope} {L a cc : Addr} {cd : Value} {m : Str → Option Value} {x : Str} {pos : Pos} {v : Value} {Q : Value → Shared → Prop} {A : Around} {E : Value → Shared → Prop} (hn : s.heap.Ns L m) (hv : m x = some v) (h : Q v s)
    (hk : scope.kind = .function := by rfl) (hl : (ksEnv name scope L a cd cc).kindOf x = some .local := by rfl) (hd : (x == ("__debug__" : Str)) = false := by decide) :
    wpAny M A (eval (.Name x pos) (ksEnv name scope L a cd cc)) Q E s := wpAny_Name (wpAny_loadName_local hk hl hn hv h) hd
theorem super_call {q1 q2 q3 q4 q5 : Pos} (hln : (q3.endLine == q5.line) = true) (env : Env) : eval (.Call (.Attribute (.Call (.Name "super" q1) [] [] q2) "__init__" q3) [.Constant (.str "refused") 0 q4] [] q5) env = (do
      let ov ← attributeBase (.Call (.Name "super" q1) [] [] q2) "__init__" env (eval (.Call (.Name "super" q1) [] [] q2) env)
      standAt q3.atName
      let (f, first) ← holding [ov] (getMethod ov "__init__" (do return (← importBound (.Call (.Name "super" q1) [] [] q2) env).getD true))
      callWith q5 f first (backTo q5 (starEach [.Constant (.str "refused") 0 q4] env)) []) := by
  rw [arm_eval_Call]
  unfold methodCall methodCallPos calleeOf
  rw [hln]
  rfl
theorem err_init (T : ErrTxt prog K C D fI) {x t0 : Addr} {v : Value} {mb : Str → Option Value} (X : K.In s.heap) (hlim : s.heap.NoLimit) (hg : s.heap.Ns mainGlobals mg) (hms : mg "super" = none) (hb : s.heap.Ns builtinsNs mb) (hmb : mb "super" = some (.type "super"))
    (hx : s.heap.get? x = some (excO C t0)) (hnx : K.lookup x = none) (hroom : A.depth < recursionLimit)
    (hq : ∀ h' tk dx, InitEnd s.heap h' x C dx v → R (.ok (.ret .none)) { s with heap := h', toks := tk }) :
    codeAny (model prog w) A (.call (.ref fI) ⟨[.ref x, v], []⟩) R s := by
  obtain ⟨oc, od, kV, doc, pm, an, cda, cc, ct, osl, p1, p2, q1, q2, q3, q4, q5, q6, q7, q8, q9, q10, ccl, cdd, vs, ccs, file, tf, cl, cld, csl, cdD, ho, hcd, hcda, hvs, hfile, hcell, hD, hln⟩ := T.init.fn
  obtain ⟨nm, q, N, bs, bm, sn, sub, ab, col, dd, k0, k1, k2, k3, k5, hC, hbm⟩ := T.cls
  have hcl : clsIn K C = some { name := nm, bases := bs, mro := .ref C :: bm, ns := N, qualname := q, hasDict := true, slotNames := sn, subclasses := sub, abstract := ab, collection := col, hasDel := false } := by unfold clsIn; rw [hC] <;> rfl
  have hxC : x ≠ C := fun z => by rw [z, hC] at hnx; cases hnx
  refine ks_codeAny_call_defAt (fd := ksFn "__init__" "Refused.__init__" (iA p1 p2) (iB q1 q2 q3 q4 q5 q6 q7 q8 q9 q10) iS .none kV doc pm an (.ref cda) ct cc) (body := iB q1 q2 q3 q4 q5 q6 q7 q8 q9 q10) (binds := [("self", .ref x), ("what", v)]) hroom (X _ _ ho) rfl hlim (codeRec_of X hcd) rfl (BindsTo.of_eq (by first | rfl | with_unfolding_all rfl)) (by show ∀ x ∈ iS.names, x.2 ≠ .cell; decide) (by intro y hy; simp only [List.mem_cons, List.not_mem_nil, or_false] at hy; rcases hy with rfl | rfl <;> rfl) (fun h₁ hn k => ?_) rfl rfl rfl
  have X₁ : K.In h₁ := X.keeps k
  have hx₁ := k _ _ hx
  have hxL : s.heap.objs.size ≠ x := Nat.ne_of_gt (Heap.lt_size hx)
  obtain ⟨oD, hD1, hD2⟩ : ∃ oD, h₁.get? D = some oD ∧ oD.data = .cls cdD := by
    unfold clsIn at hD
    split at hD
    · rename_i c d cd' sl ho'
      cases hD
      exact ⟨_, X₁ _ _ ho', rfl⟩
    · cases hD
  obtain ⟨hs, g, d, tk, os⟩ := s
  show _root_.PySem.wpAt _ _ _ (execs (iB q1 q2 q3 q4 q5 q6 q7 q8 q9 q10) (ksEnv "Refused.__init__" iS hs.objs.size fI (.ref cda) cc)) _ _ _
  unfold iB
  refine ks_wpAt_execs_cons (ks_wpAt_Expr_any ?_ rfl rfl)
  refine ks_wpAt_MethodCall ?_ (super_call hln _)
  refine ks_wpAt_super_base rfl rfl rfl rfl (X₁ _ _ ho) rfl rfl rfl (X₁ _ _ hcda) rfl hvs hfile T.init.top ?_
  refine ks_loadName_global rfl rfl (loadGlobal_builtin (env := ksEnv "Refused.__init__" iS hs.objs.size fI (.ref cda) cc) (hg.keeps k) hms (hb.keeps k) hmb ⟨rfl, ?_⟩)
  refine wpAny_loadName_free rfl rfl rfl ⟨_, X₁ _ _ hcell, rfl⟩ ?_
  refine wpAny_loadName_local rfl rfl hn (by first | rfl | with_unfolding_all rfl) ?_
  refine ks_wpAny_isType_cls hD1 hD2 ⟨rfl, ?_⟩
  refine ks_wpAny_call_super hD1 hD2 hx₁ rfl (fun c e => by cases e) (looks_mroIn X₁ T.mro) (fun h₂ hso k₂ => ?_)
  have X₂ : K.In h₂ := X₁.keeps k₂
  have hI : Looks (model prog w) h₂ (isInstance (.ref x) (.type "ValueError")) true := by
    have J : InstAt h₂ x (excO C t0) C none := ⟨k₂ _ _ hx₁, rfl, rfl, trivial⟩
    exact J.type.andThen (looks_subIn X₂ T.veC)
  have hsup := T.sup
  unfold ks_superIn at hsup
  rw [hcl] at hsup
  refine kxs_getMethod kxs_ValueError hso (looks_opaque X₂ T.init.tp) (l₀ := .ref C :: bm) (fun A Q E s k q => wpAny_bind ((looks_clsIn X₂ hcl) A _ E s k (wpAny_pure q))) rfl X₂ hsup hI hxC rfl ?_
  have hu₃ : (h₂.push (kxs_mw "ValueError.__init__" x)).get? h₂.objs.size = some (kxs_mw "ValueError.__init__" x) := Heap.get?_push_at rfl rfl
  have k₃ : ∀ b o, h₁.get? b = some o → (h₂.push (kxs_mw "ValueError.__init__" x)).get? b = some o := fun b o e => Heap.get?_push_of_some _ (k₂ b o e)
  have X₃ : K.In (h₂.push (kxs_mw "ValueError.__init__" x)) := X₁.keeps k₃
  refine kxs_callWith (i := "ValueError.__init__") (x := x) rfl (evalArgs_plain (spliced_more (wpAny_Constant_str (spliced_none ⟨hu₃, ?_⟩))))
  refine call_ve (X₃ _ _ hC) (k₃ _ _ hx₁) hu₃ (one_size _) (fun h₄ t1 k₄ e₄ => ?_)
  have k₁₄ : ∀ b o, b ≠ x → hs.get? b = some o → h₄.get? b = some o := fun b o hb e => k₄ b o hb (k₃ b o (k b o e))
  have X₄ : K.In h₄ := fun a o e => k₄ a o (fun z => by rw [z, hnx] at e; cases e) (X₃ a o e)
  obtain ⟨oL, es, ep, eL, rL⟩ := hn
  have hn₄ : h₄.Ns hs.objs.size (fun y => ([(PySem.Str.ofString "self", Value.ref x), (PySem.Str.ofString "what", v)] : List (Str × Value)).reverse.lookup y) := ⟨oL, es, ep, k₄ _ _ hxL (k₃ _ _ eL), rL⟩
  show _root_.PySem.wpAt _ _ _ (execs _ _) _ _ _
  refine wpAt_of_wpAny (wpAny_execs_cons (plainObj_wpAny_Assign_Attribute ?_))
  refine ldE (v := v) hn₄ (by first | rfl | with_unfolding_all rfl | kernel_rfl) (ldE (v := .ref x) hn₄ (by first | rfl | with_unfolding_all rfl | kernel_rfl) ?_)
  refine set_plain X₄ (ox := excO C t1) (od := none) ⟨e₄, rfl, rfl, trivial⟩ T.sa ?_
  refine exc_osa X₄ e₄ hcl (show refsVE (.ref C :: bm) = true from hbm) rfl T.noN (fun h₅ tk₅ dx k₅ dn dne hx₅ hn₅ => ?_)
  show wpAny _ _ (execs _ _) _ _ _
  have z : hs.objs.size < h₄.objs.size := hn₄.lt
  exact wpAny_execs_nil (hq h₅ tk₅ dx ⟨fun b o hb e => k₅ b o hb (k₁₄ b o hb e), ⟨_, hx₅⟩, Nat.le_of_lt (Nat.lt_of_lt_of_le z dn), dne, hn₅⟩)
end
end ErrX
end PySem
set_option Elab.async false
set_option linter.all false
set_option maxRecDepth 100000
namespace PySem
namespace ErrX
open PySem.W PySem.Calls PyProof.Rows PySem.HandSPX
section
variable {prog : Program} {w : World} {A : Around} {E : Value → Shared → Prop} {R : Result → Shared → Prop} {s : Shared} {K : Frag} {mg : Str → Option Value} {C D fI : Addr}
theorem err_made (T : ErrTxt prog K C D fI) {v : Value} {mb : Str → Option Value} (X : K.In s.heap) (hlim : s.heap.NoLimit) (hg : s.heap.Ns mainGlobals mg) (hms : mg "super" = none) (hb : s.heap.Ns builtinsNs mb) (hmb : mb "super" = some (.type "super")) (hroom : A.depth + 1 < recursionLimit)
    (hq : ∀ h' tk e d, OwnMade s.heap h' e C d v → R (.ok (.ret (.ref e))) { s with heap := h', toks := tk }) :
    codeAny (model prog w) A (.call (.ref C) ⟨[v], []⟩) R s := by
  obtain ⟨nm, q, N, bs, bm, sn, sub, ab, col, dd, k0, k1, k2, k3, k5, hC, hbm⟩ := T.cls
  obtain ⟨hp, g, dr, tk, os⟩ := s
  have k : ∀ b o, hp.get? b = some o → ((hp.push (kdv_tup [v])).push (excO C hp.objs.size)).get? b = some o := fun b o e => Heap.get?_push_of_some _ (Heap.get?_push_of_some _ e)
  have hget : ((hp.push (kdv_tup [v])).push (excO C hp.objs.size)).get? (hp.objs.size + 1) = some (excO C hp.objs.size) := by heap_get
  have hnx : K.lookup (hp.objs.size + 1) = none := by
    cases e : K.lookup (hp.objs.size + 1) with
    | none => rfl
    | some o =>
      have z : hp.get? (hp.objs.size + 1) = some o := X _ _ e
      exact absurd (Nat.lt_of_succ_lt (Heap.lt_size z)) (Nat.lt_irrefl _)
  refine call_own F.excBase_ValueError (fun X => refsVE_contains X bm hbm) (X _ _ hC) (looks_findIn X T.iC) (fun self => bind_fn X self T.tC) (one_size v) ?_
  refine err_init (s := ⟨(hp.push (kdv_tup [v])).push (excO C hp.objs.size), g, dr, tk, os⟩) T (X.keeps k) (hlim.keeps k) (hg.keeps k) hms (hb.keeps k) hmb hget hnx ?_ fun h' tk' dx M => ?_
  · show A.depth + 1 < recursionLimit
    exact hroom
  · have old : ∀ b o, hp.get? b = some o → h'.get? b = some o := fun b o e => M.keep b o (Nat.ne_of_lt (Nat.lt_succ_of_lt (Heap.lt_size e))) (k b o e)
    obtain ⟨t1, hx⟩ := M.obj
    have dn := M.dbig
    have z : hp.objs.size + 1 + 1 ≤ dx := by
      first
        | (simpa only [Heap.size_push] using dn)
        | exact dn
        | (have q := dn; rw [Heap.size_push, Heap.size_push] at q; exact q)
    exact ⟨rfl, hq h' tk' (hp.objs.size + 1) dx ⟨old, Nat.le_succ _, ⟨_, _, hx, rfl, rfl, rfl, rfl⟩, Nat.le_trans (Nat.le_trans (Nat.le_succ _) (Nat.le_succ _)) z, M.dne, M.ns⟩⟩
end
end ErrX
end PySem
namespace L2
open PySem PySem.Spec PyProof.Rows
theorem relO_what {v : V} {v' : Value} (r : RelV v v') (f : Str) : RelO (List.lookup f [(PySem.Str.ofString "what", v)]) (if f = PySem.Str.ofString "what" then some v' else none) := by
  by_cases hw : f = PySem.Str.ofString "what"
  · subst hw
    rw [if_pos rfl]
    have q : List.lookup (PySem.Str.ofString "what") [(PySem.Str.ofString "what", v)] = some v := by simp [List.lookup]
    rw [q]
    exact r
  · rw [if_neg hw]
    have qw : (f == PySem.Str.ofString "what") = false := by simpa using hw
    have q2 : List.lookup f [(PySem.Str.ofString "what", v)] = none := by simp [List.lookup, qw]
    rw [q2]
    trivial
section
variable {X : Cx} {C D fI : Addr}
/-- C(e) -/
def tMkErr (C : Addr) (ta : TA) : St → Hp → XK → Prop := fun σ H Q => ta σ H fun vs H1 => ∃ v, vs = [v] ∧ ∀ d, H1 d = none → Q (.ref C) (some d) (upd H1 d (.xd [(PySem.Str.ofString "what", v)]))
theorem pmk_err {x : Str} {a : Expr} {ta : TA} {p pos : Pos} {k : Nat} (T : PySem.ErrX.ErrTxt X.prog X.K C D fI) (gC : X.mg x = some (.ref C)) (ms : X.mg "super" = none) (hr : Room k X.A) (ha : PA X [a] ta) (hg : Gl X x) (hd : (x == ("__debug__" : Str)) = false)
    (he : starEach (a :: []) X.env = (false, eval a X.env) :: starEach [] X.env := by rfl) (hpl : (backTo pos (starEach [] X.env)).any (·.1) = false := by rfl) :
    PMk X (.Call (.Name x p) [a] [] pos) (tMkErr C ta) := by
  intro pins s σ H Q I h
  refine wpAny_Call_Name_kw (ld_glob I hg gC ?_ hd)
  refine PySem.W.callWith_K (h₀ := X.base) I.ok.mod.kin T.kC (thn (ha.run pos pins s σ H _ I h) fun us s1 hh => ?_) he hpl
  obtain ⟨vs, H1, I1, r1, v, ev, q1⟩ := hh
  subst ev
  refine ⟨I1.kIn, ?_⟩
  cases r1 with
  | cons rv rn =>
    rename_i v' us'
    cases rn
    show wpAny _ _ (call (.ref C) [v']) _ _ _
    have hlim := I1.nolimit
    obtain ⟨mb, hb1, hb2⟩ := I1.mod.blt
    have hgl := I1.mod.glob.keeps I1.bk
    have hbl := hb1.keeps I1.bk
    obtain ⟨hp, g, dr, tk, os⟩ := s1
    refine wpAny_call (PySem.ErrX.err_made T I1.kIn hlim hgl ms hbl ((hb2 _ (by decide)).trans (by first | rfl | decide +kernel)) (by have := hr.dp; omega) fun h' tk' e d M => ?_)
    show MkP X pins σ Q (.ref e) ⟨h', g, dr, tk', os⟩
    obtain ⟨oe, fv, hoe, hc, hd, hdat, h1⟩ := M.obj
    have hns := M.ns
    obtain ⟨G', g1, g2⟩ := restrict h' fun b => decide (b ≠ e)
    have gk : ∀ b, b ≠ e → G'.get? b = h'.get? b := fun b hb => g1 b (decide_eq_true hb)
    have ge : G'.get? e = none := g2 e (by simp)
    have old : ∀ b o, hp.get? b = some o → G'.get? b = some o := fun b o q => (gk b (Nat.ne_of_lt (Nat.lt_of_lt_of_le (Heap.lt_size q) M.new))).trans (M.keep b o q)
    have ob : ObjOk X.prog X.w (upd H1 d (.xd [(PySem.Str.ofString "what", v)])) G' d (.xd [(PySem.Str.ofString "what", v)]) :=
      ⟨_, hns.at (fun o q => (gk d M.dne).trans q), fun f => relO_what rv f⟩
    have J : Inv X pins σ (upd H1 d (.xd [(PySem.Str.ofString "what", v)])) ⟨G', g, dr, tk', os⟩ := I1.laid (t' := tk') old M.dbig ob
    refine ⟨e, oe, fv, ⟨G', g, dr, tk', os⟩, _, .ref C, some d, rfl, J, fun b o q => ?_, ge, hoe, ⟨hc, hd⟩, hdat, h1, ?_, rfl, I1.bare, raises_own T.exC T.tyC, q1 d (I1.hok.fresh M.dbig)⟩
    · by_cases hb : b = e
      · have q' : G'.get? b = some o := q
        rw [hb, ge] at q'; cases q'
      · exact (gk b hb).symm.trans q
    · rw [upd_ne (Ne.symm M.dne)]
      exact I1.hok.fresh M.new
end
end L2
set_option Elab.async false
set_option linter.all false
set_option maxRecDepth 100000
/-! several clauses 'except x as n' -/
namespace L2
open PySem PySem.Spec PyProof.Rows
/-- behind a suite the clause's name is empty -/
def Ends.un (D : Ends) (i : Nat) : Ends := { nx := fun σ H => D.nx (σ.set i none) H, rt := D.rt, bk := fun σ H => D.bk (σ.set i none) H, ct := fun σ H => D.ct (σ.set i none) H }
abbrev Clause := Value × Nat × (Addr → Value → Option Addr → TS)
/-- what the clauses wish, one after the other -/
def wCls (K : PySem.W.Frag) (Wout : WX) (D : Ends) : List Clause → WX
  | [] => Wout
  | (c, i, ts) :: r => fun cls d σ H => ∃ b, PySem.W.exmOne K cls c = some b ∧ (b = true → ∀ a, H a = none → ts a cls d (D.un i) (σ.set i (some (.ref a))) H) ∧ (b = false → wCls K Wout D r cls d σ H)
inductive ClsOk' (X : Cx) : List ExceptHandler → List Clause → Prop
  | nil : ClsOk' X [] []
  | cons {x n : Str} {i : Nat} {c : Value} {ts : Addr → Value → Option Addr → TS} {b₀ : Stmt} {suite : List Stmt} {np pos' : Pos} {hds : List ExceptHandler} {l : List Clause} (hi : X.N[i]? = some n) (hln : X.env.kindOf n = some .local) (hc : Names X x c)
      (hsu : ∀ (a : Addr) (oe : Obj) (cls : Value) (d : Option Addr) (pn : List (Addr × Obj)), Zc cls d oe → (∃ vs, oe.data = .fields vs) → PSs (X.suite a ((a, oe) :: pn)) (b₀ :: suite) (ts a cls d)) (r : ClsOk' X hds l) :
      ClsOk' X (.ExceptHandler (some (.Name x np)) (some n) (b₀ :: suite) pos' :: hds) ((c, i, ts) :: l)
section
variable {X : Cx} {body : List Stmt} {h₀ : ExceptHandler} {hds : List ExceptHandler} {l : List Clause} {pos : Pos} {tb : WX → TS} {Wout : WX} {a : Addr} {B : Heap} {σ : St} {H : Hp} {cls : Value} {d : Option Addr}
/-- the clauses asked, one after the other -/
theorem cls_go (ok : X.Ok) (hs : X.stack = X.env :: X.outer) (hf : X.env.frame = some X.env.locals) (hN : X.N.Nodup) (tk : Takes X Wout) {pins pins' : List (Addr × Obj)} {D : Ends} {sI : Shared} {h3 : Heap} {s' : Shared} (J : Inv X pins σ H sI) (nb : ∀ b o, sI.heap.get? b = some o → b ∉ frs X.stack → B.get? b = some o)
    (up : sI.heap.UpToSlots h3) (na : H a = none) (os : s'.os = sI.os) (ag : AllBare s'.gens) (fl3 : HandSPX.FlyingZ B (X.env :: X.outer) a (Zc cls d) h3) : ∀ {hds : List ExceptHandler} {l : List Clause}, ClsOk' X hds l → wCls X.K Wout D l cls d σ H →
    wpAny (model X.prog X.w) X.A (handleBy (.ref a) X.env hds) (SP X pins D) X.xe { s' with heap := h3 } := by
  have J3 : Inv X pins σ H { s' with heap := h3 } := J.landed nb fl3.1 up os ag
  obtain ⟨oe3, vs3, he3, hz3, hd3⟩ := fl3.there
  have notFr : ∀ {h : Heap} {o : Obj} {vs : Array Value}, h.FunFrames B (X.env :: X.outer) → h.get? a = some o → o.data = .fields vs → a ∉ frs (X.env :: X.outer) := fun {h o vs} ff e dd hm => by
    obtain ⟨_, o', e', hnf⟩ := ff.mem hm
    rw [e] at e'; cases e'
    exact hnf _ dd
  have nfr := notFr fl3.2.2.1 he3 hd3
  have nL : a ≠ X.env.locals := fun z => nfr (List.mem_filterMap.mpr ⟨X.env, List.mem_cons_self, by rw [hf, z]⟩)
  have nF : a ∉ X.fs := fun hm => by
    obtain ⟨e, he, q⟩ := List.mem_filterMap.mp hm
    exact nfr (List.mem_filterMap.mpr ⟨e, List.mem_cons_of_mem _ he, q⟩)
  have S3 := J3.suite he3 hd3 na nL nF
  intro hds l hk
  induction hk with
  | nil =>
    intro w
    refine wpAny_handleBy_nil ?_
    obtain ⟨k1, k2, k3, oe, vs, T, oT, ts', he, hz, hd, h1, hr⟩ := id fl3
    unfold PySem.passOn
    refine wpAny_bind (wpAny_field he hd h1 ?_)
    rw [if_neg (show ¬ ((Value.ref T == Value.none) = true) from by simp)]
    have fin : wpAny (model X.prog X.w) X.A (setFlight (.ref a) X.env.frame) (fun _ s4 => wpAny (model X.prog X.w) X.A (throw (.ref a) : Sem Flow) (SP X pins D) X.xe s4) X.xe { s' with heap := h3 } := by
      rw [hf]
      refine HandSPX.setFlight_upZ fl3 fun h4 hh4 up4 => wpAny_throw (tk _ _ ?_)
      exact ⟨a, B, sI, pins, σ, H, cls, d, rfl, J, nb, up.trans up4, .inr (.inr (by rw [hs]; exact hh4)), na, os, ag, w⟩
    first
      | exact wpAny_bind (wpAny_pure (wpAny_bind fin))
      | exact wpAny_bind fin
  | @cons x n i c ts b₀ suite np pos' hds2 l2 hi hln hc hsu r ih =>
    intro w
    obtain ⟨b, hb1, hyes, hno⟩ := w
    refine wpAny_handleBy_cons (codeAny_handlers_test ?_) (by intro q; cases q)
    have LT : PySem.W.Looks (model X.prog X.w) h3 (typeOf (.ref a)) cls := fun A Q E s k q => wpAny_typeOf_ref (k _ _ he3) (by rw [hz3.1]; exact q)
    have LM := PySem.W.exm_one (M := model X.prog X.w) (J3.kIn) LT hb1
    have test : ∀ {Q : Value → Shared → Prop} {E : Value → Shared → Prop}, Q c { s' with heap := h3 } → wpAny (model X.prog X.w) (X.A.mark (some (.ref a))) (eval (.Name x np) X.env) Q E { s' with heap := h3 } := fun {Q E} q => by
      obtain ⟨hg, hdbg, hm | ⟨hm, hv, hnn⟩⟩ := hc
      · exact ld_glob (X := X.suite a ((a, oe3) :: (X.pn ++ pins))) S3 hg hm q hdbg
      · exact ld_blt (X := X.suite a ((a, oe3) :: (X.pn ++ pins))) S3 hg hm hv q hnn hdbg
    refine test (LM.here ?_)
    cases b with
    | true =>
      refine codeAny_handlers_suite_as ?_
      refine HandSPX.lands_againZ fl3 fun h4 fl4 up4 => ?_
      have J4 : Inv X pins σ H { s' with heap := h4 } := J.landed nb fl4.1 (up.trans up4) os ag
      obtain ⟨oe4, vs4, he4, hz4, hd4⟩ := fl4.there
      have S4 := J4.suite he4 hd4 na nL nF
      have hloc : Loc X.env.scope n := .inl hln
      refine store_ok (X := X.suite a ((a, oe4) :: (X.pn ++ pins))) (v := .ref a) S4 hN hi hloc rfl (fun s5 S5 => ?_) (.inr hln)
      refine wpAny_mono ((hsu a oe4 cls d (X.pn ++ pins) hz4 ⟨_, hd4⟩).run [] s5 _ H _ S5 (hyes rfl a na)) (fun f s6 hsp => ?_) (fun _ _ z => False.elim z)
      have end_ : ∀ {σ6 : St} {H6 : Hp} {Q : Shared → Prop}, Inv (X.suite a ((a, oe4) :: (X.pn ++ pins))) [] σ6 H6 s6 → (∀ s7, Inv X pins (σ6.set i none) H6 s7 → Q s7) →
          wpAny (model X.prog X.w) X.A (do bindName X.env n .none; unbindBehindTheSuite X.env n pos') (fun _ s7 => Q s7) X.xe s6 := fun {σ6 H6 Q} S6 hq => gone_ok (S6.unsuite ok) hN hi hln hq
      cases f with
      | next =>
        obtain ⟨σ6, H6, S6, q6⟩ := hsp
        exact end_ S6 fun s7 J7 => ⟨_, _, J7, q6⟩
      | brk =>
        obtain ⟨σ6, H6, S6, q6⟩ := hsp
        exact end_ S6 fun s7 J7 => ⟨_, _, J7, q6⟩
      | cont =>
        obtain ⟨σ6, H6, S6, q6⟩ := hsp
        exact end_ S6 fun s7 J7 => ⟨_, _, J7, q6⟩
      | ret u =>
        obtain ⟨v6, σ6, H6, S6, r6, q6⟩ := hsp
        exact end_ S6 fun s7 J7 => ⟨_, _, _, J7, r6, q6⟩
    | false =>
      show wpAny _ X.A (handleBy (.ref a) X.env hds2) _ _ _
      exact ih (hno rfl)
theorem ps_try_cls (hs : X.stack = X.env :: X.outer) (hf : X.env.frame = some X.env.locals) (hN : X.N.Nodup) (tk : Takes X Wout)
    (hb : ∀ (W : WX) (pn : List (Addr × Obj)) (xe : Value → Shared → Prop), Takes (X.tr pn xe) W → PassesOwn (model X.prog X.w) X.A X.env xe → PSs (X.tr pn xe) body (tb W))
    (hh : ClsOk' X (h₀ :: hds) l) : PS X (.Try body (h₀ :: hds) [] [] pos) (fun D σ H => tb (wCls X.K Wout D l) D σ H) := by
  refine ⟨fun pins s σ H D I h => ?_⟩
  have ok := I.ok
  have hfr : X.A.frames = some (X.env :: X.outer) := by rw [ok.frames, hs]
  refine wpAny_Try_except ?_
  refine wpAny_mono ((hb (wCls X.K Wout D l) (X.pn ++ pins) (fun e s₁ => wpAny (model X.prog X.w) X.A (noteFrame e X.env) (fun _ s₂ => wpAny (model X.prog X.w) X.A (setFlight e none) (fun _ s₃ =>
    wpAny (model X.prog X.w) X.A (handleBy e X.env (h₀ :: hds)) (SP X pins D) X.xe s₃) X.xe s₂) X.xe s₁) (fun u s' xx => ?_) PassesOwn.looking).run [] s σ H D (I.toTry _) h) (fun f s1 hsp => ?_) (fun e s1 he => he)
  · obtain ⟨a, B, sI, pins', σ', H', cls, d, rfl, J', nb, up, sky, na, os, ag, w⟩ := xx
    have J : Inv X pins σ' H' sI := J'.ofTry ok
    have sky' : Sky B (X.env :: X.outer) a (Zc cls d) X.env.locals s'.heap := by rw [← hs]; exact sky
    show wpAny (model X.prog X.w) X.A (noteFrame (.ref a) X.env) _ _ _
    refine Sky.land Zc.steady hfr hf sky' fun h3 fl3 up3 => ?_
    exact cls_go (pins' := pins') ok hs hf hN tk J nb (up.trans up3) na os ag fl3 hh w
  · cases f with
    | next =>
      obtain ⟨σ', H', J', q⟩ := hsp
      exact wpAny_execs_nil ⟨σ', H', J'.ofTry ok, q⟩
    | brk =>
      obtain ⟨σ', H', J', q⟩ := hsp
      exact ⟨σ', H', J'.ofTry ok, q⟩
    | cont =>
      obtain ⟨σ', H', J', q⟩ := hsp
      exact ⟨σ', H', J'.ofTry ok, q⟩
    | ret u =>
      obtain ⟨v, σ', H', J', r, q⟩ := hsp
      exact ⟨v, σ', H', J'.ofTry ok, r, q⟩
end
end L2
set_option Elab.async false
set_option linter.all false
set_option maxRecDepth 100000
namespace PL
open PySem PySem.Spec PyProof.Rows L2

/-! ### values without a heap; what the store holds -/
inductive D where
  | non | bl (b : Bool) | int (i : Int) | str (x : Str)
  | tup (l : List D) | obj (c : Nat) (l : List D) | loc (n : Nat) | scr (l : List Int)
deriving Inhabited

inductive O where
  | lst (l : List D) | dict (t : Bool) (l : List (D × D)) | lock (t : Bool) (l : List (D × D))
deriving Inhabited
abbrev Store := List O

mutual
/-- no place of the store in it -/
def D.pure : D → Bool
  | .tup l => D.pures l
  | .obj _ l => D.pures l
  | .loc _ => false
  | _ => true
def D.pures : List D → Bool
  | [] => true
  | d :: r => d.pure && D.pures r
end
theorem D.pures_iff : ∀ {l : List D}, D.pures l = true ↔ ∀ d ∈ l, d.pure = true
  | [] => by simp [D.pures]
  | d :: r => by simp [D.pures, D.pures_iff (l := r)]
def O.pure : O → Bool
  | .lst l => D.pures l
  | .dict _ l => l.all fun p => p.1.pure && p.2.pure
  | .lock _ l => l.all fun p => p.1.pure && p.2.pure

mutual
/-- data as the library has it -/
def D.py : D → PyData
  | .non => .none
  | .bl b => .bool b
  | .int i => .int i
  | .str x => .str x
  | .tup l => .tuple (D.pys l)
  | .obj _ _ => .none
  | .loc _ => .none
  | .scr _ => .none
def D.pys : List D → List PyData
  | [] => []
  | d :: r => d.py :: D.pys r
end
theorem D.pys_map : ∀ l : List D, D.pys l = l.map D.py
  | [] => rfl
  | d :: r => by rw [D.pys, D.pys_map r]; rfl
mutual
/-- numbers, texts, None, truth values, tuples of these -/
def D.plain : D → Bool
  | .tup l => D.plains l
  | .obj _ _ => false
  | .loc _ => false
  | .scr _ => false
  | _ => true
def D.plains : List D → Bool
  | [] => true
  | d :: r => d.plain && D.plains r
end
theorem D.plains_iff : ∀ {l : List D}, D.plains l = true ↔ ∀ d ∈ l, d.plain = true
  | [] => by simp [D.plains]
  | d :: r => by simp [D.plains, D.plains_iff (l := r)]
mutual
theorem D.plain_py : ∀ d : D, d.plain = true → d.py.plain = true
  | .non, _ => by simp [D.py, PyData.plain]
  | .bl _, _ => by simp [D.py, PyData.plain]
  | .int _, _ => by simp [D.py, PyData.plain]
  | .str _, _ => by simp [D.py, PyData.plain]
  | .tup l, h => by
    simp only [D.plain] at h
    simp only [D.py, PyData.plain]
    exact D.plains_py l h
  | .obj _ _, h => by simp [D.plain] at h
  | .loc _, h => by simp [D.plain] at h
  | .scr _, h => by simp [D.plain] at h
theorem D.plains_py : ∀ l : List D, D.plains l = true → PyData.plainAll (D.pys l) = true
  | [], _ => by simp [D.pys, PyData.plainAll]
  | d :: r, h => by
    simp only [D.plains, Bool.and_eq_true] at h
    simp only [D.pys, PyData.plainAll, Bool.and_eq_true]
    exact ⟨D.plain_py d h.1, D.plains_py r h.2⟩
end
mutual
theorem D.plain_pure : ∀ d : D, d.plain = true → d.pure = true
  | .non, _ => by simp [D.pure]
  | .bl _, _ => by simp [D.pure]
  | .int _, _ => by simp [D.pure]
  | .str _, _ => by simp [D.pure]
  | .tup l, h => by
    simp only [D.plain] at h
    simp only [D.pure]
    exact D.plains_pures l h
  | .obj _ _, h => by simp [D.plain] at h
  | .loc _, h => by simp [D.plain] at h
  | .scr _, h => by simp [D.plain] at h
theorem D.plains_pures : ∀ l : List D, D.plains l = true → D.pures l = true
  | [], _ => by simp [D.pures]
  | d :: r, h => by
    simp only [D.plains, Bool.and_eq_true] at h
    simp only [D.pures, Bool.and_eq_true]
    exact ⟨D.plain_pure d h.1, D.plains_pures r h.2⟩
end

/-! ### what a value of the layer is -/
/-- what is fixed through a law: the written part, the classes of records (address, fields in order) -/
structure G where
  K : PySem.W.Frag
  cls : Nat → Option (Addr × List Str)
  err : Nat → Option Addr

/-- a list that no one writes -/
def SqF (K : PySem.W.Frag) (H : Hp) (a : Addr) (xs : List V) : Prop := (∃ o, H a = some (.frz o (.lst xs))) ∨
    ∃ (o : Obj) (its : Array Value) (n : Nat), K.lookup a = some o ∧ o.cls = .type "list" ∧ o.dict = none ∧ o.data = .seq its n ∧ its.size ≤ sizeLine ∧ Vals xs its.toList
theorem SqF.seq {K : PySem.W.Frag} {H : Hp} {a : Addr} {xs : List V} (h : SqF K H a xs) : SqL K H a xs := h.elim (fun h => .inl (.inr h)) .inr
mutual
inductive VR (g : G) (φ : List Addr) (H : Hp) : V → D → Prop
  | non : VR g φ H .non .non
  | bl (b : Bool) : VR g φ H (.bl b) (.bl b)
  | int (i : Int) : VR g φ H (.int i) (.int i)
  | str (x : Str) : VR g φ H (.str x) (.str x)
  | tup {a : Addr} {xs : List V} {ds : List D} : H a = some (.tup xs) → VRs g φ H xs ds → VR g φ H (.ref a) (.tup ds)
  | obj {a C dx : Addr} {c : Nat} {fs : List Str} {xs : List V} {ds : List D} : g.cls c = some (C, fs) → H a = some (.ins C dx (fs.zip xs)) → fs.length = xs.length → VRs g φ H xs ds → VR g φ H (.ref a) (.obj c ds)
  | loc {a : Addr} {n : Nat} : φ[n]? = some a → VR g φ H (.ref a) (.loc n)
  | scr {a : Addr} {ns : List Int} : SqF g.K H a (ns.map V.int) → VR g φ H (.ref a) (.scr ns)
inductive VRs (g : G) (φ : List Addr) (H : Hp) : List V → List D → Prop
  | nil : VRs g φ H [] []
  | cons {v : V} {vs : List V} {d : D} {ds : List D} : VR g φ H v d → VRs g φ H vs ds → VRs g φ H (v :: vs) (d :: ds)
end

section
variable {g : G} {φ φ' : List Addr} {H H' : Hp}
theorem VRs.length : ∀ {xs : List V} {ds : List D}, VRs g φ H xs ds → xs.length = ds.length
  | _, _, .nil => rfl
  | _, _, .cons _ t => by simp only [List.length_cons, VRs.length t]
theorem VRs.get : ∀ {xs : List V} {ds : List D} {i : Nat} {d : D}, VRs g φ H xs ds → ds[i]? = some d → ∃ x, xs[i]? = some x ∧ VR g φ H x d
  | _, _, _, _, .nil, e => by simp at e
  | _, _, 0, _, .cons r _, e => by simp at e; subst e; exact ⟨_, rfl, r⟩
  | _, _, i + 1, d, .cons _ t, e => by
    obtain ⟨x, h1, h2⟩ := VRs.get (i := i) (d := d) t (by simpa using e)
    exact ⟨x, by simpa using h1, h2⟩
theorem VRs.get' : ∀ {xs : List V} {ds : List D} {i : Nat} {x : V}, VRs g φ H xs ds → xs[i]? = some x → ∃ d, ds[i]? = some d ∧ VR g φ H x d
  | _, _, _, _, .nil, e => by simp at e
  | _, _, 0, _, .cons r _, e => by simp at e; subst e; exact ⟨_, rfl, r⟩
  | _, _, i + 1, d, .cons _ t, e => by
    obtain ⟨x, h1, h2⟩ := VRs.get' (i := i) (x := d) t (by simpa using e)
    exact ⟨x, by simpa using h1, h2⟩
theorem VRs.append : ∀ {xs ys : List V} {ds es : List D}, VRs g φ H xs ds → VRs g φ H ys es → VRs g φ H (xs ++ ys) (ds ++ es)
  | _, _, _, _, .nil, s => s
  | _, _, _, _, .cons r t, s => .cons r (VRs.append t s)
theorem VRs.take : ∀ {xs : List V} {ds : List D} (n : Nat), VRs g φ H xs ds → VRs g φ H (xs.take n) (ds.take n)
  | _, _, 0, _ => .nil
  | _, _, _ + 1, .nil => .nil
  | _, _, n + 1, .cons r t => .cons r (VRs.take n t)
theorem VRs.drop : ∀ {xs : List V} {ds : List D} (n : Nat), VRs g φ H xs ds → VRs g φ H (xs.drop n) (ds.drop n)
  | _, _, 0, r => r
  | _, _, _ + 1, .nil => .nil
  | _, _, n + 1, .cons _ t => VRs.drop n t
theorem VRs.set {x : V} {d : D} (r : VR g φ H x d) : ∀ {xs : List V} {ds : List D} (i : Nat), VRs g φ H xs ds → VRs g φ H (xs.set i x) (ds.set i d)
  | _, _, _, .nil => .nil
  | _, _, 0, .cons _ t => .cons r t
  | _, _, i + 1, .cons q t => .cons q (VRs.set r i t)
theorem VRs.one {x : V} {d : D} (r : VR g φ H x d) : VRs g φ H [x] [d] := .cons r .nil
theorem VRs.reverse : ∀ {xs : List V} {ds : List D}, VRs g φ H xs ds → VRs g φ H xs.reverse ds.reverse
  | _, _, .nil => .nil
  | _, _, .cons r t => by
    rw [List.reverse_cons, List.reverse_cons]
    exact (VRs.reverse t).append (.one r)
theorem VRs.nil_iff {xs : List V} {ds : List D} (r : VRs g φ H xs ds) : xs = [] ↔ ds = [] := by
  cases r <;> simp

/-- the pure part of a value hangs on the tuples and records alone -/
def Rsv (g : G) (H H' : Hp) : Prop := (∀ a xs, H a = some (.tup xs) → H' a = some (.tup xs)) ∧ (∀ c C fs a dx xs, g.cls c = some (C, fs) → H a = some (.ins C dx xs) → H' a = some (.ins C dx xs)) ∧ ∀ a o xs, H a = some (.frz o (.lst xs)) → H' a = some (.frz o (.lst xs))
mutual
theorem VR.mono (k : Rsv g H H') (p : φ <+: φ') : ∀ {x : V} {d : D}, VR g φ H x d → VR g φ' H' x d
  | _, _, .non => .non
  | _, _, .bl b => .bl b
  | _, _, .int i => .int i
  | _, _, .str x => .str x
  | _, _, .tup h t => .tup (k.1 _ _ h) (VRs.mono k p t)
  | _, _, .obj e h l t => .obj e (k.2.1 _ _ _ _ _ _ e h) l (VRs.mono k p t)
  | _, _, .loc h => .loc (by
    obtain ⟨r, rfl⟩ := p
    exact (List.getElem?_append_left (List.getElem?_eq_some_iff.mp h).1).trans h)
  | _, _, .scr h => .scr (h.elim (fun ⟨o, e⟩ => .inl ⟨o, k.2.2 _ _ _ e⟩) .inr)
theorem VRs.mono (k : Rsv g H H') (p : φ <+: φ') : ∀ {xs : List V} {ds : List D}, VRs g φ H xs ds → VRs g φ' H' xs ds
  | _, _, .nil => .nil
  | _, _, .cons h t => .cons (VR.mono k p h) (VRs.mono k p t)
end
mutual
theorem VR.pure : ∀ {x : V} {d : D}, VR g φ H x d → d.pure = true → VR g φ' H x d
  | _, _, .non, _ => .non
  | _, _, .bl b, _ => .bl b
  | _, _, .int i, _ => .int i
  | _, _, .str x, _ => .str x
  | _, _, .tup h t, e => .tup h (VRs.pure t (by simpa [D.pure] using e))
  | _, _, .obj c h l t, e => .obj c h l (VRs.pure t (by simpa [D.pure] using e))
  | _, _, .loc h, e => by simp [D.pure] at e
  | _, _, .scr h, _ => .scr h
theorem VRs.pure : ∀ {xs : List V} {ds : List D}, VRs g φ H xs ds → D.pures ds = true → VRs g φ' H xs ds
  | _, _, .nil, _ => .nil
  | _, _, .cons h t, e => by
    simp only [D.pures, Bool.and_eq_true] at e
    exact .cons (VR.pure h e.1) (VRs.pure t e.2)
end
mutual
theorem VR.dp : ∀ {x : V} {d : D}, VR g φ H x d → d.plain = true → Dp g.K H x d.py
  | _, _, .non, _ => .non
  | _, _, .bl b, _ => .bl b
  | _, _, .int i, _ => .int i
  | _, _, .str x, _ => .str x
  | _, _, .tup h t, e => by
    simp only [D.py]
    exact .tup (.of h) (VRs.dp t (by simpa [D.plain] using e))
  | _, _, .obj c h l t, e => by simp [D.plain] at e
  | _, _, .loc h, e => by simp [D.plain] at e
  | _, _, .scr h, e => by simp [D.plain] at e
theorem VRs.dp : ∀ {xs : List V} {ds : List D}, VRs g φ H xs ds → D.plains ds = true → DpAll g.K H xs (D.pys ds)
  | _, _, .nil, _ => .nil
  | _, _, .cons h t, e => by
    simp only [D.plains, Bool.and_eq_true] at e
    simp only [D.pys]
    exact .cons (VR.dp h e.1) (VRs.dp t e.2)
end

/-! ### the store -/
def kD : D → Option Key
  | .int i => some (.inl i)
  | .str x => some (.inr x)
  | _ => none
def kDs : D → Option (List Key)
  | .tup l => l.mapM kD
  | _ => none
/-- a dict's pairs -/
def DR (g : G) (φ : List Addr) (H : Hp) {κ : Type} (key : D → Option κ) : List (κ × V) → List (D × D) → Prop := Paired fun p q => key q.1 = some p.1 ∧ VR g φ H p.2 q.2
def ObjR (g : G) (φ : List Addr) (H : Hp) (a : Addr) : O → Prop
  | .lst ds => ∃ xs, H a = some (.lst xs) ∧ VRs g φ H xs ds
  | .dict false kvs => ∃ m, H a = some (.dK m) ∧ DR g φ H kD m kvs
  | .dict true kvs => ∃ m, H a = some (.dT m) ∧ DR g φ H kDs m kvs
  | .lock false kvs => ∃ o m, H a = some (.frz o (.dK m)) ∧ DR g φ H kD m kvs
  | .lock true kvs => ∃ o m, H a = some (.frz o (.dT m)) ∧ DR g φ H kDs m kvs
structure Sim (g : G) (φ : List Addr) (S : Store) (H : Hp) : Prop where
  len : φ.length = S.length
  nd : φ.Nodup
  obj : ∀ (n : Nat) (a : Addr) (o : O), φ[n]? = some a → S[n]? = some o → ObjR g φ H a o
/-- what stands in H and is no place of the store stays -/
def Fm (φ : List Addr) (H H' : Hp) : Prop := ∀ a o, H a = some o → a ∉ φ → H' a = some o
structure Good (g : G) (φ : List Addr) (H : Hp) (φ' : List Addr) (S' : Store) (H' : Hp) : Prop where
  pre : φ <+: φ'
  sim : Sim g φ' S' H'
  fm : Fm φ H H'
  new : ∀ a ∈ φ', a ∉ φ → H a = none
  lk : ∀ a o u, H a = some (.frz o u) → H' a = some (.frz o u)

theorem DR.mono {κ : Type} {key : D → Option κ} (k : Rsv g H H') (p : φ <+: φ') : ∀ {m : List (κ × V)} {kvs : List (D × D)}, DR g φ H key m kvs → DR g φ' H' key m kvs
  | _, _, .nil => .nil
  | _, _, .cons ⟨h1, h2⟩ t => .cons ⟨h1, h2.mono k p⟩ (DR.mono k p t)
theorem DR.pure {κ : Type} {key : D → Option κ} : ∀ {m : List (κ × V)} {kvs : List (D × D)}, DR g φ H key m kvs → (kvs.all fun p => p.1.pure && p.2.pure) = true → DR g φ' H key m kvs
  | _, _, .nil, _ => .nil
  | _, _, .cons ⟨h1, h2⟩ t, e => by
    simp only [List.all_cons, Bool.and_eq_true] at e
    exact .cons ⟨h1, h2.pure e.1.2⟩ (DR.pure t (by simpa using e.2))
theorem ObjR.mut {a : Addr} {o : O} (h : ObjR g φ H a o) : ∃ u, H a = some u ∧ (∀ xs, u ≠ .tup xs) ∧ (∀ ob xs, u ≠ .frz ob (.tup xs)) ∧ (∀ C dx fs, u ≠ .ins C dx fs) ∧ ∀ o xs, u ≠ .frz o (.lst xs) := by
  cases o with
  | lst ds => obtain ⟨xs, e, _⟩ := h; exact ⟨_, e, fun _ z => (nomatch z), fun _ _ z => (nomatch z), fun _ _ _ z => (nomatch z), fun _ _ z => (nomatch z)⟩
  | dict t kvs => cases t <;> obtain ⟨m, e, _⟩ := h <;> exact ⟨_, e, fun _ z => (nomatch z), fun _ _ z => (nomatch z), fun _ _ _ z => (nomatch z), fun _ _ z => (nomatch z)⟩
  | lock t kvs => cases t <;> obtain ⟨ob, m, e, _⟩ := h <;> exact ⟨_, e, fun _ z => (nomatch z), fun _ _ z => (nomatch z), fun _ _ _ z => (nomatch z), fun _ _ z => (nomatch z)⟩
variable {S S' : Store}
theorem Sim.at (s : Sim g φ S H) {a : Addr} (h : a ∈ φ) : ∃ (n : Nat) (o : O), φ[n]? = some a ∧ S[n]? = some o ∧ ObjR g φ H a o := by
  obtain ⟨n, hn, e⟩ := List.mem_iff_getElem.mp h
  have e1 : φ[n]? = some a := by rw [List.getElem?_eq_getElem hn, e]
  have hs : n < S.length := by rw [← s.len]; exact hn
  exact ⟨n, S[n], e1, List.getElem?_eq_getElem hs, s.obj n a _ e1 (List.getElem?_eq_getElem hs)⟩
theorem Sim.get (s : Sim g φ S H) {n : Nat} {o : O} (h : S[n]? = some o) : ∃ a, φ[n]? = some a ∧ ObjR g φ H a o := by
  have hn : n < φ.length := by rw [s.len]; exact (List.getElem?_eq_some_iff.mp h).1
  exact ⟨φ[n], List.getElem?_eq_getElem hn, s.obj n _ o (List.getElem?_eq_getElem hn) h⟩
theorem Sim.apart (s : Sim g φ S H) {a : Addr} {u : HO} (e : H a = some u) (hu : (∃ xs, u = .tup xs) ∨ (∃ o xs, u = .frz o (.tup xs)) ∨ (∃ C dx fs, u = .ins C dx fs) ∨ ∃ o xs, u = .frz o (.lst xs)) : a ∉ φ := fun h => by
  obtain ⟨n, o, _, _, r⟩ := s.at h
  obtain ⟨u', e', h1, h2, h3, h4⟩ := r.mut
  rw [e] at e'
  cases e'
  rcases hu with ⟨xs, z⟩ | ⟨o, xs, z⟩ | ⟨C, dx, fs, z⟩ | ⟨o, xs, z⟩
  · exact h1 _ z
  · exact h2 _ _ z
  · exact h3 _ _ _ z
  · exact h4 _ _ z
theorem Sim.rsv (s : Sim g φ S H) (f : Fm φ H H') : Rsv g H H' := by
  exact ⟨fun a xs h => f a _ h (s.apart h (.inl ⟨_, rfl⟩)), fun c C fs a dx xs _ h => f a _ h (s.apart h (.inr (.inr (.inl ⟨_, _, _, rfl⟩)))), fun a o xs h => f a _ h (s.apart h (.inr (.inr (.inr ⟨_, _, rfl⟩))))⟩
theorem Good.rsv (s : Sim g φ S H) (k : Good g φ H φ' S' H') : Rsv g H H' := s.rsv k.fm
theorem Good.refl (s : Sim g φ S H) : Good g φ H φ S H := ⟨List.prefix_refl _, s, fun _ _ e _ => e, fun a h n => absurd h n, fun _ _ _ e => e⟩
theorem Good.trans {φ2 : List Addr} {S2 : Store} {H2 : Hp} (a : Good g φ H φ' S' H') (b : Good g φ' H' φ2 S2 H2) : Good g φ H φ2 S2 H2 := by
  refine ⟨a.pre.trans b.pre, b.sim, fun c o e n => ?_, fun c h n => ?_, fun c o u e => b.lk c o u (a.lk c o u e)⟩
  · refine b.fm c o (a.fm c o e n) fun z => ?_
    have q := a.new c z n
    rw [e] at q; cases q
  · by_cases hc : c ∈ φ'
    · exact a.new c hc n
    · have q := b.new c h hc
      cases e : H c with
      | none => rfl
      | some o => rw [a.fm c o e n] at q; cases q
theorem VR.good {x : V} {d : D} (r : VR g φ H x d) (s : Sim g φ S H) (k : Good g φ H φ' S' H') : VR g φ' H' x d := r.mono (k.rsv s) k.pre
theorem VRs.good {xs : List V} {ds : List D} (r : VRs g φ H xs ds) (s : Sim g φ S H) (k : Good g φ H φ' S' H') : VRs g φ' H' xs ds := r.mono (k.rsv s) k.pre
theorem ObjR.mono {a : Addr} {o : O} (k : Rsv g H H') (p : φ <+: φ') (e : ∀ u, H a = some u → H' a = some u) (h : ObjR g φ H a o) : ObjR g φ' H' a o := by
  cases o with
  | lst ds => obtain ⟨xs, q, r⟩ := h; exact ⟨xs, e _ q, r.mono k p⟩
  | dict t kvs => cases t <;> obtain ⟨m, q, r⟩ := h <;> exact ⟨m, e _ q, r.mono k p⟩
  | lock t kvs => cases t <;> obtain ⟨ob, m, q, r⟩ := h <;> exact ⟨ob, m, e _ q, r.mono k p⟩
theorem ObjR.pure {a : Addr} {o : O} (hp : o.pure = true) (h : ObjR g φ H a o) : ObjR g φ' H a o := by
  cases o with
  | lst ds => obtain ⟨xs, q, r⟩ := h; exact ⟨xs, q, r.pure hp⟩
  | dict t kvs => cases t <;> obtain ⟨m, q, r⟩ := h <;> exact ⟨m, q, r.pure hp⟩
  | lock t kvs => cases t <;> obtain ⟨ob, m, q, r⟩ := h <;> exact ⟨ob, m, q, r.pure hp⟩

/-! ### steps of the heap -/
theorem upd_fm {a : Addr} {o : HO} (h : a ∈ φ ∨ H a = none) : Fm φ H (upd H a o) := fun b u e n => by
  rw [upd_ne ?_]; exact e
  rintro rfl
  rcases h with h | h
  · exact n h
  · rw [h] at e; cases e
/-- a thing that is no place of the store is made -/
theorem Good.made (s : Sim g φ S H) {p : Addr} {o : HO} (hp : H p = none) : Good g φ H φ S (upd H p o) := by
  have f : Fm φ H (upd H p o) := upd_fm (.inr hp)
  refine ⟨List.prefix_refl _, ⟨s.len, s.nd, fun n a ob e1 e2 => ?_⟩, f, fun a h n => absurd h n, fun b o u e => by rw [upd_ne (ne_of_none e hp)]; exact e⟩
  refine (s.obj n a ob e1 e2).mono (s.rsv f) (List.prefix_refl _) fun u q => ?_
  rw [upd_ne (ne_of_none q hp)]; exact q
/-- a new place of the store -/
theorem Good.alloc (s : Sim g φ S H) {p : Addr} {o : HO} {ob : O} (hp : H p = none) (h : ∀ φ' : List Addr, φ <+: φ' → Rsv g H (upd H p o) → ObjR g φ' (upd H p o) p ob) : Good g φ H (φ ++ [p]) (S ++ [ob]) (upd H p o) := by
  have f : Fm φ H (upd H p o) := upd_fm (.inr hp)
  have k := s.rsv f
  have hn : p ∉ φ := fun z => by
    obtain ⟨_, _, _, _, r⟩ := s.at z
    obtain ⟨u, e, _⟩ := r.mut
    rw [hp] at e; cases e
  have pre : φ <+: φ ++ [p] := List.prefix_append _ _
  refine ⟨pre, ⟨by rw [List.length_append, List.length_append, s.len]; rfl, ?_, fun n a o' e1 e2 => ?_⟩, f, fun a ha n => ?_, fun b o u e => by rw [upd_ne (ne_of_none e hp)]; exact e⟩
  · rw [List.nodup_append]
    refine ⟨s.nd, by simp, fun x hx y hy => ?_⟩
    rw [List.mem_singleton.mp hy]
    rintro rfl
    exact hn hx
  · by_cases hl : n < φ.length
    · rw [List.getElem?_append_left hl] at e1
      rw [List.getElem?_append_left (by rw [← s.len]; exact hl)] at e2
      refine (s.obj n a o' e1 e2).mono k pre fun u q => ?_
      rw [upd_ne (ne_of_none q hp)]; exact q
    · have hl2 : n = φ.length := by
        have := (List.getElem?_eq_some_iff.mp e1).1
        rw [List.length_append, List.length_singleton] at this
        omega
      subst hl2
      rw [List.getElem?_append_right (Nat.le_refl _), Nat.sub_self] at e1
      rw [List.getElem?_append_right (by rw [s.len]; exact Nat.le_refl _), s.len, Nat.sub_self] at e2
      cases e1; cases e2
      exact h _ pre k
  · rcases List.mem_append.mp ha with z | z
    · exact absurd z n
    · rw [List.mem_singleton.mp z]; exact hp
theorem Good.alloc_at (s : Sim g φ S H) {p : Addr} : (φ ++ [p])[S.length]? = some p := by
  rw [← s.len, List.getElem?_append_right (Nat.le_refl _), Nat.sub_self]; rfl
/-- a place of the store is written -/
theorem Good.write (s : Sim g φ S H) {n : Nat} {a : Addr} {o : HO} {ob : O} (ha : φ[n]? = some a) (hn : ∀ o u, H a ≠ some (.frz o u)) (h : Rsv g H (upd H a o) → ObjR g φ (upd H a o) a ob) : Good g φ H φ (S.set n ob) (upd H a o) := by
  have hm : a ∈ φ := List.mem_of_getElem? ha
  have f : Fm φ H (upd H a o) := upd_fm (.inl hm)
  have k := s.rsv f
  refine ⟨List.prefix_refl _, ⟨by rw [List.length_set]; exact s.len, s.nd, fun m b o' e1 e2 => ?_⟩, f, fun b h' n' => absurd h' n', fun b o u e => by rw [upd_ne (fun z => hn o u (by rw [← z]; exact e))]; exact e⟩
  by_cases hmn : m = n
  · subst hmn
    rw [ha] at e1; cases e1
    have hl : m < S.length := by rw [← s.len]; exact (List.getElem?_eq_some_iff.mp ha).1
    rw [List.getElem?_set_self hl] at e2
    cases e2
    exact h k
  · rw [List.getElem?_set_ne (Ne.symm hmn)] at e2
    have hne : b ≠ a := fun z => by
      subst z
      obtain ⟨h1, q1⟩ := List.getElem?_eq_some_iff.mp e1
      obtain ⟨h2, q2⟩ := List.getElem?_eq_some_iff.mp ha
      exact hmn ((List.getElem_inj s.nd).mp (q1.trans q2.symm))
    exact (s.obj m b o' e1 e2).mono k (List.prefix_refl _) fun u q => by rw [upd_ne hne]; exact q

/-! ### forgetting what is not needed any more -/
mutual
theorem VR.back {r : List Addr} : ∀ {y : V} {d : D}, VR g (φ ++ r) H y d → ∀ {x : V}, VR g φ H x d → VR g φ H y d
  | _, _, .non, _, _ => .non
  | _, _, .bl b, _, _ => .bl b
  | _, _, .int i, _, _ => .int i
  | _, _, .str x, _, _ => .str x
  | _, _, .tup h t, _, .tup _ t' => .tup h (VRs.back t t')
  | _, _, .obj c h l t, _, .obj _ _ _ t' => .obj c h l (VRs.back t t')
  | _, _, .loc h, _, .loc h' => .loc (by
    rw [List.getElem?_append_left (List.getElem?_eq_some_iff.mp h').1] at h
    exact h)
  | _, _, .scr h, _, _ => .scr h
theorem VRs.back {r : List Addr} : ∀ {ys : List V} {ds : List D}, VRs g (φ ++ r) H ys ds → ∀ {xs : List V}, VRs g φ H xs ds → VRs g φ H ys ds
  | _, _, .nil, _, _ => .nil
  | _, _, .cons h t, _, .cons h' t' => .cons (VR.back h h') (VRs.back t t')
end
theorem DR.back {r : List Addr} {κ : Type} {key : D → Option κ} : ∀ {m' : List (κ × V)} {kvs : List (D × D)}, DR g (φ ++ r) H key m' kvs → ∀ {m : List (κ × V)}, DR g φ H key m kvs → DR g φ H key m' kvs
  | _, _, .nil, _, _ => .nil
  | _, _, .cons h t, _, .cons h' t' => .cons ⟨h.1, h.2.back h'.2⟩ (DR.back t t')
/-- old places stay or hold pure things -/
def Kept (S S' : Store) : Prop := S.length ≤ S'.length ∧ ∀ (n : Nat) (o : O), n < S.length → S'[n]? = some o → S[n]? = some o ∨ o.pure = true
open Classical in
noncomputable def compact (S : Store) (r : D × Store) : D × Store :=
  if Kept S r.2 then
    if r.1.pure = true then (r.1, r.2.take S.length)
    else match r.1 with
      | .loc m => if m < S.length then (r.1, r.2.take S.length) else match r.2[m]? with
        | some o => if o.pure = true then (.loc S.length, r.2.take S.length ++ [o]) else r
        | none => r
      | _ => r
  else r
theorem Sim.cut (s : Sim g φ S H) (k : Good g φ H φ' S' H') (h : Kept S S') : Good g φ H φ (S'.take S.length) H' := by
  obtain ⟨r, rfl⟩ := k.pre
  refine ⟨List.prefix_refl _, ⟨by rw [List.length_take, s.len]; exact (Nat.min_eq_left h.1).symm, s.nd, fun n a o e1 e2 => ?_⟩, k.fm, fun a h' n' => absurd h' n', k.lk⟩
  have hn : n < S.length := by rw [← s.len]; exact (List.getElem?_eq_some_iff.mp e1).1
  rw [List.getElem?_take_of_lt hn] at e2
  have e1' : (φ ++ r)[n]? = some a := by rw [List.getElem?_append_left (by rw [s.len]; exact hn)]; exact e1
  have r' := k.sim.obj n a o e1' e2
  rcases h.2 n o hn e2 with q | q
  · have r0 := s.obj n a o e1 q
    have kk := k.rsv s
    cases o with
    | lst ds =>
      obtain ⟨xs, h1, h2⟩ := r0
      obtain ⟨ys, h3, h4⟩ := r'
      refine ⟨ys, h3, ?_⟩
      exact VRs.back h4 (h2.mono kk (List.prefix_refl _))
    | dict t kvs =>
      cases t <;> obtain ⟨m, h1, h2⟩ := r0 <;> obtain ⟨m', h3, h4⟩ := r' <;> exact ⟨m', h3, DR.back h4 (h2.mono kk (List.prefix_refl _))⟩
    | lock t kvs =>
      cases t <;> obtain ⟨o, m, h1, h2⟩ := r0 <;> obtain ⟨o', m', h3, h4⟩ := r' <;> exact ⟨o', m', h3, DR.back h4 (h2.mono kk (List.prefix_refl _))⟩
  · exact r'.pure q
theorem compact_good (s : Sim g φ S H) {d : D} {x : V} (k : Good g φ H φ' S' H') (r : VR g φ' H' x d) : ∃ φc, Good g φ H φc (compact S (d, S')).2 H' ∧ VR g φc H' x (compact S (d, S')).1 := by
  unfold compact
  by_cases hk : Kept S S'
  · rw [if_pos hk]
    have kc := s.cut k hk
    by_cases hp : d.pure = true
    · rw [if_pos hp]
      exact ⟨φ, kc, r.pure hp⟩
    · rw [if_neg hp]
      cases d with
      | loc m =>
        dsimp only
        cases r with
        | loc e =>
          rename_i a
          obtain ⟨rr, hpre⟩ := k.pre
          by_cases hm : m < S.length
          · rw [if_pos hm]
            refine ⟨φ, kc, .loc ?_⟩
            rw [← hpre, List.getElem?_append_left (by rw [s.len]; exact hm)] at e
            exact e
          · rw [if_neg hm]
            cases ho : S'[m]? with
            | none => exact ⟨φ', k, .loc e⟩
            | some o =>
              dsimp only
              by_cases hpo : o.pure = true
              · rw [if_pos hpo]
                have hn : a ∉ φ := fun z => by
                  obtain ⟨n, hl, q⟩ := List.mem_iff_getElem.mp z
                  have e2 : φ'[n]? = some a := by rw [← hpre, List.getElem?_append_left hl, List.getElem?_eq_getElem hl, q]
                  obtain ⟨h1, q1⟩ := List.getElem?_eq_some_iff.mp e
                  obtain ⟨h2, q2⟩ := List.getElem?_eq_some_iff.mp e2
                  have : m = n := (List.getElem_inj k.sim.nd).mp (q1.trans q2.symm)
                  have hl' : n < S.length := by rw [← s.len]; exact hl
                  omega
                refine ⟨φ ++ [a], ⟨List.prefix_append _ _, ⟨?_, ?_, fun n b o' e1 e2 => ?_⟩, k.fm, fun b hb n => ?_, k.lk⟩, .loc ?_⟩
                · have := kc.sim.len
                  rw [List.length_append, List.length_append, ← this]; rfl
                · rw [List.nodup_append]
                  refine ⟨s.nd, by simp, fun x hx y hy => ?_⟩
                  rw [List.mem_singleton.mp hy]
                  rintro rfl
                  exact hn hx
                · have hlen := kc.sim.len
                  by_cases hl : n < φ.length
                  · rw [List.getElem?_append_left hl] at e1
                    rw [List.getElem?_append_left (by rw [← hlen]; exact hl)] at e2
                    exact (kc.sim.obj n b o' e1 e2).mono ⟨fun _ _ h => h, fun _ _ _ _ _ _ _ h => h, fun _ _ _ h => h⟩ (List.prefix_append _ _) fun _ q => q
                  · have hl2 : n = φ.length := by
                      have := (List.getElem?_eq_some_iff.mp e1).1
                      rw [List.length_append, List.length_singleton] at this
                      omega
                    subst hl2
                    rw [List.getElem?_append_right (Nat.le_refl _), Nat.sub_self] at e1
                    rw [List.getElem?_append_right (by rw [hlen]; exact Nat.le_refl _), hlen, Nat.sub_self] at e2
                    cases e1; cases e2
                    exact (k.sim.obj m a o e ho).pure hpo
                · rcases List.mem_append.mp hb with z | z
                  · exact absurd z n
                  · rw [List.mem_singleton.mp z]
                    exact k.new a (List.mem_of_getElem? e) hn
                · rw [← s.len, List.getElem?_append_right (Nat.le_refl _), Nat.sub_self]; rfl
              · rw [if_neg hpo]
                exact ⟨φ', k, .loc e⟩
      | _ => exact ⟨φ', k, r⟩
  · rw [if_neg hk]
    exact ⟨φ', k, r⟩
end
end PL
set_option Elab.async false
set_option linter.all false
set_option maxRecDepth 100000
namespace PL
open PySem PySem.Spec PyProof.Rows L2

/-! ### the small language: expressions by slots -/
inductive BOp where
  | add | sub | mul | fdiv | mod | pow
deriving DecidableEq
inductive COp where
  | lt | le | gt | ge | eq | ne | isin | notin | isnone | notnone
deriving DecidableEq
inductive Ty where
  | int | bool | tuple | str | cls (c : Nat)
deriving DecidableEq
inductive Bif where
  | len | int | max | min | sum | all | any | sorted | tuple | list
deriving DecidableEq
inductive Mth where
  | append | extend | pop | get
deriving DecidableEq
inductive ITg where
  | nm (i : Nat) | tup (l : List ITg)
mutual
inductive IE where
  | dead
  | slot (i : Nat)
  | cst (d : D)
  | glob (x : String)
  | bin (o : BOp) (a b : IE)
  | neg (a : IE)
  | not (a : IE)
  | cmp (o : COp) (a b : IE)
  | chn (a : IE) (r : ICh)
  | and (a b : IE)
  | or (a b : IE)
  | ite (t a b : IE)
  | tup (es : IEs)
  | lst (es : IEs)
  | dict (t : Bool) (ps : IPs)
  | idx (a i : IE)
  | slc (a : IE) (lo hi : Option IE)
  | fld (a : IE) (c k : Nat)
  | isa (a : IE) (t : Ty)
  | call (f : String) (es : IEs) (kn : List String) (pm : List Nat)
  | bif (f : Bif) (es : IEs)
  | meth (m : Mth) (a : IE) (es : IEs)
  | mk (c : Nat) (es : IEs)
  | comp (elt : IE) (tg : ITg) (it : IIt) (cs : IEs) (own : List Nat)
inductive IEs where
  | nil | cons (e : IE) (r : IEs)
inductive IPs where
  | nil | cons (k v : IE) (r : IPs)
/-- the rest of a chain of comparisons -/
inductive ICh where
  | last (o : COp) (c : IE) | more (o : COp) (c : IE) (r : ICh)
inductive IIt where
  | val (e : IE) | range1 (e : IE) | range2 (a b : IE) | enum (e : IE) | zip (a b : IE) | items (i : Nat) | keys (i : Nat)
end

inductive IS where
  | set (i : Nat) (e : IE)
  | unp (tg : ITg) (e : IE)
  | par (is : List Nat) (es : IEs)
  | put (a i v : IE)
  | aug (i : Nat) (o : BOp) (e : IE)
  | expr (e : IE)
  | ret (e : IE)
  | retN
  | ite (t : IE) (a b : List IS)
  | for_ (tg : ITg) (it : IIt) (body : List IS)
  | while_ (t : IE) (body : List IS)
  | brk | cont | pass
  | raise (c : Nat) (e : IE)
  | tryW (body : List IS) (hs : List (List Nat × Nat × Bool × Str))
structure IFun where
  np : Nat
  ns : Nat
  body : List IS

/-! ### what an evaluation gives -/
structure Ex where
  c : Nat
  what : D
inductive R (α : Type) where
  | val (a : α) (S : Store) | exc (e : Ex) (S : Store)
def bnd {α β : Type} (r : Option (R α)) (f : α → Store → Option (R β)) : Option (R β) := match r with
  | some (.val a S) => f a S
  | some (.exc e S) => some (.exc e S)
  | none => none
@[simp] theorem bnd_val {α β : Type} (a : α) (S : Store) (f : α → Store → Option (R β)) : bnd (some (.val a S)) f = f a S := rfl
@[simp] theorem bnd_none {α β : Type} (f : α → Store → Option (R β)) : bnd none f = none := rfl
@[simp] theorem bnd_exc {α β : Type} (e : Ex) (S : Store) (f : α → Store → Option (R β)) : bnd (some (.exc e S)) f = some (.exc e S) := rfl
def ofO (r : Option (D × Store)) : Option (R D) := r.map fun p => .val p.1 p.2
abbrev Env := List (Option D)

def line : Nat := 16777216

/-! ### operations on values -/
def b2n (b : Bool) : Int := if b then 1 else 0
/-- a list that is read: what stands at a place -/
def lstAt (S : Store) (n : Nat) : Option (List D) := match S[n]? with
  | some (.lst l) => some l
  | _ => none
def dictAt (S : Store) (n : Nat) : Option (Bool × List (D × D)) := match S[n]? with
  | some (.dict t l) => some (t, l)
  | some (.lock t l) => some (t, l)
  | _ => none
/-- as the library's data: a plain value, or a list of plain values -/
def rdPy (S : Store) : D → Option PyData
  | .loc n => match lstAt S n with
    | some l => if D.plains l then some (.list (D.pys l)) else none
    | none => none
  | d => if d.plain then some d.py else none
def bigEnough : Nat := 60
open Classical in
noncomputable def binD (o : BOp) (x y : D) (S : Store) : Option (D × Store) := match o, x, y with
  | .add, .int i, .int j => some (.int (i + j), S)
  | .sub, .int i, .int j => some (.int (i - j), S)
  | .mul, .int i, .int j => if L2.CMul i j ∨ L2.CMulW i j then some (.int (i * j), S) else none
  | .fdiv, .int i, .int j => if L2.CDivW i j then some (.int (i / j), S) else none
  | .mod, .int i, .int j => if 0 < j then some (.int (i % j), S) else none
  | .pow, .int i, .int j => if L2.CPow i j then some (.int (i ^ j.toNat), S) else none
  | .add, .tup l, .tup m => if l.length + m.length ≤ line then some (.tup (l ++ m), S) else none
  | .add, .loc a, .loc b => match lstAt S a, lstAt S b with
    | some l, some m => if l.length + m.length ≤ line then some (.loc S.length, S ++ [.lst (l ++ m)]) else none
    | _, _ => none
  | _, _, _ => none
def truthD (S : Store) : D → Option Bool
  | .non => some false
  | .bl b => some b
  | .int i => some (i != 0)
  | .str x => if x.length ≤ line then some ((x.length : Int) != 0) else none
  | .tup l => some (!l.isEmpty)
  | .loc n => match S[n]? with
    | some (.lst l) => some (!l.isEmpty)
    | some (.dict false l) => some (!l.isEmpty)
    | _ => none
  | .obj _ _ => none
  | .scr l => some (!l.isEmpty)
def cmpOk (x y : PyData) : Bool := PySem.W.alike x y && (match x with | .none => false | _ => true) && decide (x.depth ≤ bigEnough) && decide (y.depth ≤ bigEnough)
def eqOk (x y : PyData) : Bool := decide (x.depth ≤ bigEnough) && decide (y.depth ≤ bigEnough)
def ordD (f : PyData → PyData → Bool) (S : Store) (x y : D) : Option Bool := match rdPy S x, rdPy S y with
  | some p, some q => if cmpOk p q then some (f p q) else none
  | _, _ => none
/-- the key of a dict -/
def keyOk (t : Bool) (d : D) : Bool := if t then (kDs d).isSome else (kD d).isSome
def keyEq (a b : D) : Bool := PyData.eqv a.py b.py
def inD (S : Store) (x : D) (c : D) : Option Bool := match c with
  | .tup l => if x.plain && D.plains l && decide (x.py.depth ≤ bigEnough) && decide (PyData.depthAll (D.pys l) ≤ bigEnough) then some ((D.pys l).any fun z => PyData.eqv z x.py) else none
  | .loc n => match S[n]? with
    | some (.lst l) => if x.plain && D.plains l && decide (x.py.depth ≤ bigEnough) && decide (PyData.depthAll (D.pys l) ≤ bigEnough) then some ((D.pys l).any fun z => PyData.eqv z x.py) else none
    | some (.dict t l) => if keyOk t x then some (l.any fun p => keyEq p.1 x) else none
    | some (.lock t l) => if keyOk t x then some (l.any fun p => keyEq p.1 x) else none
    | _ => none
  | _ => none
def eqD (S : Store) (x y : D) : Option Bool := match x, y with
  | .loc a, .loc b => match S[a]?, S[b]? with
    | some (.dict false l), some (.dict false []) => some l.isEmpty
    | some (.lst l), some (.lst m) => if D.plains l && D.plains m && eqOk (.list (D.pys l)) (.list (D.pys m)) then some (PyData.eqvAll (D.pys l) (D.pys m)) else none
    | _, _ => none
  | x, y => if x.plain && y.plain && eqOk x.py y.py then some (PyData.eqv x.py y.py) else none
def cmpD (o : COp) (x y : D) (S : Store) : Option Bool := match o with
  | .lt => ordD PySem.W.dataLt S x y
  | .le => ordD (fun p q => !PySem.W.dataLt q p) S x y
  | .gt => ordD (fun p q => PySem.W.dataLt q p) S x y
  | .ge => ordD (fun p q => !PySem.W.dataLt p q) S x y
  | .eq => eqD S x y
  | .ne => (eqD S x y).map (!·)
  | .isin => inD S x y
  | .notin => (inD S x y).map (!·)
  | .isnone => match x, y with
    | .loc _, .non => some false
    | .non, .non => some true
    | _, .non => some false
    | _, _ => none
  | .notnone => match x, y with
    | .non, .non => some false
    | _, .non => some true
    | _, _ => none
/-- an item by its place -/
def atD (l : List D) (i : Int) : Option D := L2.atI l i
def findK (l : List (D × D)) (k : D) : Option D := (l.find? fun p => keyEq p.1 k).map (·.2)
def putK (l : List (D × D)) (k v : D) : List (D × D) := if l.any fun p => keyEq p.1 k then l.map fun p => if keyEq p.1 k then (p.1, v) else p else l ++ [(k, v)]
def dropK (l : List (D × D)) (k : D) : List (D × D) := l.filter fun p => !keyEq p.1 k
def idxD (a i : D) (S : Store) : Option (D × Store) := match a, i with
  | .tup l, .int k => (atD l k).map fun d => (d, S)
  | .str z, .int k => if z.length ≤ line then (L2.atI z.cps.toList k).map fun c => (.str ⟨#[c]⟩, S) else none
  | .scr l, .int k => (L2.atI l k).map fun i => (.int i, S)
  | .loc n, i => match S[n]?, i with
    | some (.lst l), .int k => (atD l k).map fun d => (d, S)
    | some (.dict t l), k => if keyOk t k then (findK l k).map fun d => (d, S) else none
    | some (.lock t l), k => if keyOk t k then (findK l k).map fun d => (d, S) else none
    | _, _ => none
  | _, _ => none
/-- a slice -/
def cutD (l : List D) (lo hi : Option Int) : List D := (l.drop (HT.sIx l.length 0 lo)).take (HT.sIx l.length l.length hi - HT.sIx l.length 0 lo)
def slcD (a : D) (lo hi : Option Int) (S : Store) : Option (D × Store) := match a with
  | .tup l => some (.tup (cutD l lo hi), S)
  | .loc n => (lstAt S n).map fun l => (.loc S.length, S ++ [.lst (cutD l lo hi)])
  | _ => none
def isaD (S : Store) (t : Ty) : D → Option Bool
  | .int _ => some (t == .int)
  | .bl _ => some (t == .int || t == .bool)
  | .str _ => some (t == .str)
  | .non => some false
  | .tup _ => some (t == .tuple)
  | .obj c _ => some (t == .cls c)
  | .loc _ => none
  | .scr _ => none
def intsOf : List D → Option (List Int)
  | [] => some []
  | .int i :: r => (intsOf r).map (i :: ·)
  | _ :: _ => none
def bls : List D → Option (List Bool)
  | [] => some []
  | .bl b :: r => (bls r).map (b :: ·)
  | _ :: _ => none
/-- the items of a list or tuple -/
def seqOf (S : Store) : D → Option (List D)
  | .tup l => some l
  | .loc n => lstAt S n
  | _ => none
/-- data that may be sorted, or of which the least is asked -/
def sortOk (l : List D) : Prop := D.plains l = true ∧ PySem.W.AllAlike (D.pys l) ∧ PySem.W.Sortable (D.pys l) ∧ PyData.depthAll (D.pys l) ≤ bigEnough ∧ l.length ≤ line
def sortKeysOk (l : List (D × D)) : Prop := ∃ ks : List Int, l.map (·.1) = ks.map D.int ∧ ks.length < 64
def sortD (l : List D) : List D := l.mergeSort (PySem.W.dataLe false D.py)
def leastOk (l : List D) : Prop := D.plains l = true ∧ PySem.W.AlikeAll (D.pys l) ∧ PyData.depthAll (D.pys l) ≤ bigEnough
def leastD (x : D) (l : List D) : D := l.foldl (fun a y => if PySem.W.dataLt y.py a.py then y else a) x
def mostD (x : D) (l : List D) : D := l.foldl (fun a y => if PySem.W.dataLt a.py y.py then y else a) x
open Classical in
/-- the built-in functions by name -/
noncomputable def bifD (f : Bif) (xs : List D) (S : Store) : Option (D × Store) := match f, xs with
  | .len, [.tup l] => some (.int l.length, S)
  | .len, [.scr l] => some (.int l.length, S)
  | .len, [.str z] => if z.length ≤ line then some (.int z.length, S) else none
  | .len, [.loc n] => match S[n]? with
    | some (.lst l) => some (.int l.length, S)
    | some (.dict false l) => some (.int l.length, S)
    | some (.lock false l) => some (.int l.length, S)
    | _ => none
  | .int, [.int i] => some (.int i, S)
  | .int, [.bl b] => some (.int (b2n b), S)
  | .max, [.int i, .int j] => some (.int (if j > i then j else i), S)
  | .min, [.int i, .int j] => some (.int (if j < i then j else i), S)
  | .min, [.loc n] => match lstAt S n with
    | some (x :: l) => if leastOk (x :: l) then some (leastD x l, S) else none
    | _ => none
  | .max, [.loc n] => match lstAt S n with
    | some (x :: l) => if leastOk (x :: l) then some (mostD x l, S) else none
    | _ => none
  | .sum, [.loc n] => ((lstAt S n).bind intsOf).map fun ns => (.int ns.sum, S)
  | .all, [.loc n] => ((lstAt S n).bind bls).map fun bs => (.bl (bs.all id), S)
  | .any, [.loc n] => ((lstAt S n).bind bls).map fun bs => (.bl (bs.any id), S)
  | .sorted, [.loc n] => match lstAt S n with
    | some l => if sortOk l then some (.loc S.length, S ++ [.lst (sortD l)]) else none
    | none => match S[n]? with
      | some (.dict false l) => if sortKeysOk l then some (.loc S.length, S ++ [.lst (sortD (l.map (·.1)))]) else none
      | _ => none
  | .tuple, [.tup l] => some (.tup l, S)
  | .tuple, [.loc n] => (lstAt S n).map fun l => (.tup l, S)
  | .list, [.tup l] => some (.loc S.length, S ++ [.lst l])
  | .list, [.loc n] => (lstAt S n).map fun l => (.loc S.length, S ++ [.lst l])
  | _, _ => none
/-- methods by name -/
def methD (m : Mth) (a : D) (xs : List D) (S : Store) : Option (D × Store) := match m, a, xs with
  | .append, .loc n, [x] => (lstAt S n).bind fun l => if l.length < line then some (.non, S.set n (.lst (l ++ [x]))) else none
  | .extend, .loc n, [.loc b] => (lstAt S n).bind fun l => (lstAt S b).bind fun m => if l.length + m.length ≤ line then some (.non, S.set n (.lst (l ++ m))) else none
  | .pop, .loc n, [] => (lstAt S n).bind fun l => l.getLast?.map fun x => (x, S.set n (.lst l.dropLast))
  | .pop, .loc n, [k] => match S[n]? with
    | some (.dict false l) => if keyOk false k then (findK l k).map fun v => (v, S.set n (.dict false (dropK l k))) else none
    | _ => none
  | .get, .loc n, [k] => (dictAt S n).bind fun p => if keyOk p.1 k then some ((findK p.2 k).getD .non, S) else none
  | .get, .loc n, [k, v] => (dictAt S n).bind fun p => if keyOk p.1 k then some ((findK p.2 k).getD v, S) else none
  | _, _, _ => none
/-- a[i] = v -/
def putD (a i v : D) (S : Store) : Option Store := match a with
  | .loc n => match S[n]?, i with
    | some (.lst l), .int k => (L2.ixN l.length k).map fun j => S.set n (.lst (l.set j v))
    | some (.dict t l), k => if keyOk t k && decide (l.length < line) then some (S.set n (.dict t (putK l k v))) else none
    | _, _ => none
  | _ => none

def IEs.isNil : IEs → Bool
  | .nil => true
  | _ => false
/-- what a method is asked of, ahead of its arguments -/
def recvOk (S : Store) (m : Mth) (n0 : Bool) : D → Bool
  | .loc n => match S[n]?, m with
    | some (.lst _), .append => true
    | some (.lst _), .extend => true
    | some (.lst _), .pop => n0
    | some (.dict _ _), .pop => !n0
    | some (.dict _ _), .get => true
    | some (.lock _ _), .get => true
    | _, _ => false
  | _ => false
def permD (kn : List String) (pm : List Nat) (ds : List D) : Option (List D) := match kn with
  | [] => some ds
  | kn => if ds.length = kn.length then pm.mapM fun i => ds[i]? else none
/-! ### evaluation -/
structure Ix where
  call : String → List D → Store → Option (R D)
  room : Nat
  glob : String → Option D
  ar : Nat → Option Nat
def wipeE (env : Env) : List Nat → Env
  | [] => env
  | v :: vs => (wipeE env vs).set v none
mutual
def bindT : ITg → D → Env → Option Env
  | .nm i, d, env => some (env.set i (some d))
  | .tup ts, .tup ds, env => bindTs ts ds env
  | _, _, _ => none
def bindTs : List ITg → List D → Env → Option Env
  | [], [], env => some env
  | t :: ts, d :: ds, env => (bindT t d env).bind fun env' => bindTs ts ds env'
  | _, _, _ => none
end
def packI (i : Int) (d : D) : D := .tup [.int i, d]
def enumD : Int → List D → List D
  | _, [] => []
  | i, d :: r => packI i d :: enumD (i + 1) r
def zipD : List D → List D → List D
  | a :: r, b :: s => .tup [a, b] :: zipD r s
  | _, _ => []
def rangeD (lo hi : Int) : List D := (List.range (hi - lo).toNat).map fun (k : Nat) => .int (lo + k)
def okRange (i : Int) : Bool := decide (-(2 ^ 62) ≤ i) && decide (i < 2 ^ 62)
/-- what is walked: the items, the place of a list or a dict that must stay -/
inductive Src where
  | free | list (n : Nat) (l : List D) | two (a b : Option (Nat × List D)) | dict (n : Nat) (t : Bool) (l : List (D × D))
def Src.ok (S : Store) : Src → Prop
  | .free => True
  | .list n l => S[n]? = some (.lst l)
  | .two a b => (∀ p, a = some p → S[p.1]? = some (.lst p.2)) ∧ ∀ p, b = some p → S[p.1]? = some (.lst p.2)
  | .dict n t l => S[n]? = some (.lock t l)
open Classical in
/-- a dict that was walked is free again -/
noncomputable def unlk (S : Store) (src : Src) : Option Store := if src.ok S then match src with
  | .dict n t l => some (S.set n (.dict t l))
  | _ => some S
  else none
open Classical in
/-- the items of what stands at a value (S₀ the store ahead of it) -/
noncomputable def itemsOf (S₀ : Store) (d : D) (S : Store) : Option ((List D × Src) × Store) := match d with
  | .tup l => some ((l, .free), S)
  | .loc n => match lstAt S n with
    | some l => if S₀.length ≤ n ∧ D.pures l = true ∧ Kept S₀ S then some ((l, .free), S.take S₀.length) else some ((l, .list n l), S)
    | none => none
  | _ => none
open Classical in
/-- a comprehension's turns -/
noncomputable def compI (f : D → Store → Option (Option D × Store)) (src : Src) : List D → List D → Store → Option (List D × Store)
  | [], acc, S => if src.ok S then some (acc, S) else none
  | d :: r, acc, S => if src.ok S then match f d S with
      | some (some x, S') => if acc.length < line then compI f src r (acc ++ [x]) S' else none
      | some (none, S') => compI f src r acc S'
      | none => none
    else none
/-- what is left behind a value -/
noncomputable def cmpR (S : Store) (r : Option (R D)) : Option (R D) := match r with
  | some (.val d S1) => some (.val (compact S (d, S1)).1 (compact S (d, S1)).2)
  | r => r
/-- a test, what it made forgotten -/
noncomputable def tstR (S : Store) (r : Option (R D)) : Option (R Bool) := match r with
  | some (.val d S1) => (truthD S1 d).map fun b => .val b (compact S (.bl b, S1)).2
  | some (.exc e S1) => some (.exc e S1)
  | none => none

open Classical in
mutual
noncomputable def evE (ix : Ix) : IE → Env → Store → Option (R D)
  | .dead, _, _ => none
  | .slot i, env, S => match env[i]? with
    | some (some d) => some (.val d S)
    | _ => none
  | .cst d, _, S => some (.val d S)
  | .glob x, _, S => (ix.glob x).map fun d => .val d S
  | .bin o a b, env, S => bnd (evE ix a env S) fun x S1 => bnd (evE ix b env S1) fun y S2 => ofO (binD o x y S2)
  | .neg a, env, S => bnd (evE ix a env S) fun x S1 => match x with
    | .int i => some (.val (.int (-i)) S1)
    | _ => none
  | .not a, env, S => bnd (evE ix a env S) fun x S1 => match truthD S1 x with
    | some b => some (.val (.bl !b) S1)
    | none => none
  | .cmp o a b, env, S => bnd (evE ix a env S) fun x S1 => bnd (evE ix b env S1) fun y S2 => match cmpD o x y S2 with
    | some c => some (.val (.bl c) S2)
    | none => none
  | .chn a r, env, S => bnd (evE ix a env S) fun x S1 => evCh ix x r env S1
  | .and a b, env, S => bnd (evE ix a env S) fun x S1 => match truthD S1 x with
    | some true => evE ix b env S1
    | some false => some (.val x S1)
    | none => none
  | .or a b, env, S => bnd (evE ix a env S) fun x S1 => match truthD S1 x with
    | some true => some (.val x S1)
    | some false => evE ix b env S1
    | none => none
  | .ite t a b, env, S => bnd (evE ix t env S) fun x S1 => match truthD S1 x with
    | some true => evE ix a env S1
    | some false => evE ix b env S1
    | none => none
  | .tup es, env, S => bnd (evEs ix es env S) fun ds S1 => if ds.length ≤ line then some (.val (.tup ds) S1) else none
  | .lst es, env, S => bnd (evEs ix es env S) fun ds S1 => if ds.length ≤ line then some (.val (.loc S1.length) (S1 ++ [.lst ds])) else none
  | .dict t ps, env, S => match ps with
    | .nil => some (.val (.loc S.length) (S ++ [.dict t []]))
    | ps => if t = false then bnd (evPs ix ps env (S ++ [.dict false []])) fun l S1 => match S1[S.length]? with
        | some (.dict false []) => if l.length ≤ 15 ∧ l.all (fun p => keyOk false p.1) then some (.val (.loc S.length) (S1.set S.length (.dict false (l.foldl (fun acc p => putK acc p.1 p.2) [])))) else none
        | _ => none
      else none
  | .idx a i, env, S => bnd (evE ix a env S) fun x S1 => bnd (evE ix i env S1) fun y S2 => ofO (idxD x y S2)
  | .slc a lo hi, env, S => bnd (evE ix a env S) fun x S1 => bnd (evO ix lo env S1) fun l S2 => bnd (evO ix hi env S2) fun h S3 => ofO (slcD x l h S3)
  | .fld a c k, env, S => bnd (evE ix a env S) fun x S1 => match x with
    | .obj c' ds => if c' = c then (ds[k]?).map fun d => .val d S1 else none
    | _ => none
  | .isa a t, env, S => bnd (evE ix a env S) fun x S1 => (isaD S1 t x).map fun b => .val (.bl b) S1
  | .call f es kn pm, env, S => bnd (evEs ix es env S) fun ds S1 => match permD kn pm ds with
    | some ds => ix.call f ds S1
    | none => none
  | .bif f es, env, S => bnd (evEs ix es env S) fun ds S1 => ofO (bifD f ds S1)
  | .meth m a es, env, S => bnd (evE ix a env S) fun x S1 => if recvOk S1 m es.isNil x then bnd (evEs ix es env S1) fun ds S2 => ofO (methD m x ds S2) else none
  | .mk c es, env, S => bnd (evEs ix es env S) fun ds S1 => if 2 ≤ ix.room ∧ ix.ar c = some ds.length then some (.val (.obj c ds) S1) else none
  | .comp elt tg it cs own, env, S => bnd (evIt ix it env S) fun src S1 =>
    let env1 := wipeE env own
    ((compI (fun d S => match bindT tg d env1 with
      | some env2 => match evTs ix cs env2 S with
        | some (.val true S2) => match cmpR S2 (evE ix elt env2 S2) with
          | some (.val x S3) => some (some x, S3)
          | _ => none
        | some (.val false S2) => some (none, S2)
        | _ => none
      | none => none) src.2 src.1 [] S1).bind fun r => (unlk r.2 src.2).map fun S2 => (r.1, S2)).map fun r => .val (.loc r.2.length) (r.2 ++ [.lst r.1])
noncomputable def evEs (ix : Ix) : IEs → Env → Store → Option (R (List D))
  | .nil, _, S => some (.val [] S)
  | .cons e r, env, S => bnd (evE ix e env S) fun x S1 => bnd (evEs ix r env S1) fun xs S2 => some (.val (x :: xs) S2)
noncomputable def evPs (ix : Ix) : IPs → Env → Store → Option (R (List (D × D)))
  | .nil, _, S => some (.val [] S)
  | .cons k v r, env, S => bnd (evE ix k env S) fun x S1 => bnd (evE ix v env S1) fun y S2 => bnd (evPs ix r env S2) fun ps S3 => some (.val ((x, y) :: ps) S3)
noncomputable def evO (ix : Ix) : Option IE → Env → Store → Option (R (Option Int))
  | none, _, S => some (.val none S)
  | some e, env, S => bnd (evE ix e env S) fun x S1 => match x with
    | .int i => some (.val (some i) S1)
    | _ => none
/-- the tests of a comprehension, one after the other -/
noncomputable def evTs (ix : Ix) : IEs → Env → Store → Option (R Bool)
  | .nil, _, S => some (.val true S)
  | .cons e r, env, S => match tstR S (evE ix e env S) with
    | some (.val true S1) => evTs ix r env S1
    | r => r
noncomputable def evCh (ix : Ix) (x : D) : ICh → Env → Store → Option (R D)
  | .last o c, env, S => bnd (evE ix c env S) fun y S1 => match cmpD o x y S1 with
    | some b => some (.val (.bl b) S1)
    | none => none
  | .more o c r, env, S => bnd (evE ix c env S) fun y S1 => match cmpD o x y S1 with
    | some true => evCh ix y r env S1
    | some false => some (.val (.bl false) S1)
    | none => none
noncomputable def evIt (ix : Ix) : IIt → Env → Store → Option (R (List D × Src))
  | .val e, env, S => bnd (evE ix e env S) fun d S1 => (itemsOf S (compact S (d, S1)).1 (compact S (d, S1)).2).map fun p => .val p.1 p.2
  | .range1 e, env, S => bnd (evE ix e env S) fun d S1 => match d with
    | .int i => if okRange i then some (.val (rangeD 0 i, .free) (compact S (d, S1)).2) else none
    | _ => none
  | .range2 a b, env, S => bnd (evE ix a env S) fun d S1 => bnd (evE ix b env S1) fun e S2 => match d, e with
    | .int i, .int j => if okRange i && okRange j then some (.val (rangeD i j, .free) (compact S (d, S2)).2) else none
    | _, _ => none
  | .enum e, env, S => bnd (evE ix e env S) fun d S1 => (itemsOf S (compact S (d, S1)).1 (compact S (d, S1)).2).map fun p => .val (enumD 0 p.1.1, p.1.2) p.2
  | .zip a b, env, S => bnd (evE ix a env S) fun x S1 => bnd (evE ix b env S1) fun y S2 => match x, y with
    | .tup l, .tup m => some (.val (zipD l m, .free) (compact S (.tup [x, y], S2)).2)
    | .loc n, .loc m => match lstAt S2 n, lstAt S2 m with
      | some l, some l' => if D.pures l = true ∧ D.pures l' = true ∧ Kept S S2 then some (.val (zipD l l', .two (if n < S.length then some (n, l) else none) (if m < S.length then some (m, l') else none)) (S2.take S.length)) else none
      | _, _ => none
    | _, _ => none
  | .items i, env, S => match env[i]? with
    | some (some (.loc n)) => match S[n]? with
      | some (.dict false l) => some (.val (l.map (fun p => .tup [p.1, p.2]), .dict n false l) (S.set n (.lock false l)))
      | _ => none
    | _ => none
  | .keys i, env, S => match env[i]? with
    | some (some (.loc n)) => match S[n]? with
      | some (.dict false l) => some (.val (l.map (·.1), .dict n false l) (S.set n (.lock false l)))
      | _ => none
    | _ => none
end

/-! ### statements -/
inductive SR where
  | nx (env : Env) (S : Store) | rt (d : D) (S : Store) | bk (env : Env) (S : Store) | ct (env : Env) (S : Store) | ex (e : Ex) (env : Env) (S : Store)
/-- behind an expression -/
def sbnd {α : Type} (r : Option (R α)) (env : Env) (f : α → Store → Option SR) : Option SR := match r with
  | some (.val a S) => f a S
  | some (.exc e S) => some (.ex e env S)
  | none => none
@[simp] theorem sbnd_val {α : Type} (a : α) (S : Store) (env : Env) (f : α → Store → Option SR) : sbnd (some (.val a S)) env f = f a S := rfl
@[simp] theorem sbnd_none {α : Type} (env : Env) (f : α → Store → Option SR) : sbnd none env f = none := rfl
@[simp] theorem sbnd_exc {α : Type} (e : Ex) (S : Store) (env : Env) (f : α → Store → Option SR) : sbnd (some (.exc e S)) env f = some (.ex e env S) := rfl
/-- one statement behind another -/
def snx (r : Option SR) (f : Env → Store → Option SR) : Option SR := match r with
  | some (.nx env S) => f env S
  | r => r
@[simp] theorem snx_nx (env : Env) (S : Store) (f : Env → Store → Option SR) : snx (some (.nx env S)) f = f env S := rfl
@[simp] theorem snx_rt (d : D) (S : Store) (f : Env → Store → Option SR) : snx (some (.rt d S)) f = some (.rt d S) := rfl
@[simp] theorem snx_bk (env : Env) (S : Store) (f : Env → Store → Option SR) : snx (some (.bk env S)) f = some (.bk env S) := rfl
@[simp] theorem snx_ct (env : Env) (S : Store) (f : Env → Store → Option SR) : snx (some (.ct env S)) f = some (.ct env S) := rfl
@[simp] theorem snx_ex (e : Ex) (env : Env) (S : Store) (f : Env → Store → Option SR) : snx (some (.ex e env S)) f = some (.ex e env S) := rfl
@[simp] theorem snx_none (f : Env → Store → Option SR) : snx none f = none := rfl
open Classical in
/-- a for loop's turns: f is a turn -/
noncomputable def forI (f : D → Env → Store → Option SR) (src : Src) : List D → Env → Store → Option SR
  | [], env, S => if src.ok S then some (.nx env S) else none
  | d :: r, env, S => if src.ok S then match f d env S with
      | some (.nx env' S') => forI f src r env' S'
      | some (.ct env' S') => forI f src r env' S'
      | some (.bk env' S') => some (.nx env' S')
      | r' => r'
    else none
/-- behind a loop -/
noncomputable def unlS (src : Src) (r : Option SR) : Option SR := match r with
  | some (.nx env S) => (unlk S src).map fun S' => .nx env S'
  | some (.rt d S) => (unlk S src).map fun S' => .rt d S'
  | some (.bk env S) => (unlk S src).map fun S' => .bk env S'
  | some (.ct env S) => (unlk S src).map fun S' => .ct env S'
  | r => r
/-- a while loop's turns, at most so many -/
def whileI (t : Env → Store → Option (R Bool)) (b : Env → Store → Option SR) : Nat → Env → Store → Option SR
  | 0, _, _ => none
  | n + 1, env, S => sbnd (t env S) env fun c S1 => if c = true then match b env S1 with
      | some (.nx env' S') => whileI t b n env' S'
      | some (.ct env' S') => whileI t b n env' S'
      | some (.bk env' S') => some (.nx env' S')
      | r => r
    else some (.nx env S1)
def turns : Nat := 1000000000
def parE : List Nat → List D → Env → Option Env
  | [], [], env => some env
  | i :: is, d :: ds, env => parE is ds (env.set i (some d))
  | _, _, _ => none
/-- the clauses of a try, each of which gives (a word, what the exception bears) back -/
def hndW : List (List Nat × Nat × Bool × Str) → Ex → Env → Store → Option SR
  | [], e, env, S => some (.ex e env S)
  | (ids, i, ls, w) :: r, e, env, S => if e.c ∈ ids then if env.length ≤ i then none else some (if ls then .rt (.loc S.length) (S ++ [.lst [.str w, e.what]]) else .rt (.tup [.str w, e.what]) S) else hndW r e env S
open Classical in
mutual
noncomputable def exS (ix : Ix) : IS → Env → Store → Option SR
  | .set i e, env, S => sbnd (cmpR S (evE ix e env S)) env fun d S1 => some (.nx (env.set i (some d)) S1)
  | .unp tg e, env, S => sbnd (cmpR S (evE ix e env S)) env fun d S1 => (bindT tg d env).map fun env' => .nx env' S1
  | .par is es, env, S => sbnd (evEs ix es env S) env fun ds S1 => (parE is ds env).map fun env' => .nx env' S1
  | .put a i v, env, S => sbnd (evE ix v env S) env fun z S1 => sbnd (evE ix a env S1) env fun x S2 => sbnd (evE ix i env S2) env fun y S3 => (putD x y z S3).map fun S4 => .nx env (compact S (.non, S4)).2
  | .aug i o e, env, S => match env[i]? with
    | some (some (.int n)) => sbnd (cmpR S (evE ix e env S)) env fun y S1 => match o, y with
      | .add, .int m => some (.nx (env.set i (some (.int (n + m)))) S1)
      | .sub, .int m => some (.nx (env.set i (some (.int (n - m)))) S1)
      | _, _ => none
    | _ => none
  | .expr e, env, S => sbnd (evE ix e env S) env fun _ S1 => some (.nx env (compact S (.non, S1)).2)
  | .ret e, env, S => sbnd (cmpR S (evE ix e env S)) env fun d S1 => some (.rt d S1)
  | .retN, _, S => some (.rt .non S)
  | .ite t a b, env, S => sbnd (tstR S (evE ix t env S)) env fun c S1 => if c = true then exSs ix a env S1 else exSs ix b env S1
  | .for_ tg it body, env, S => sbnd (evIt ix it env S) env fun src S1 => forI (fun d env S => match bindT tg d env with
      | some env' => exSs ix body env' S
      | none => none) src.2 src.1 env S1 |> unlS src.2
  | .while_ t body, env, S => whileI (fun env S => tstR S (evE ix t env S)) (fun env S => exSs ix body env S) turns env S
  | .brk, env, S => some (.bk env S)
  | .cont, env, S => some (.ct env S)
  | .pass, env, S => some (.nx env S)
  | .raise c e, env, S => sbnd (evEs ix (.cons e .nil) env S) env fun ds S1 => match ds with
    | [d] => some (.ex ⟨c, d⟩ env S1)
    | _ => none
  | .tryW body hs, env, S => match exSs ix body env S with
    | some (.ex e env1 S1) => hndW hs e env1 S1
    | r => r
noncomputable def exSs (ix : Ix) : List IS → Env → Store → Option SR
  | [], env, S => some (.nx env S)
  | s :: r, env, S => snx (exS ix s env S) fun env' S' => exSs ix r env' S'
end
/-- a def's result, what it made forgotten -/
noncomputable def finR (S : Store) (r : Option SR) : Option (R D) := match r with
  | some (.nx _ S1) => some (.val .non (compact S (.non, S1)).2)
  | some (.rt d S1) => some (.val (compact S (d, S1)).1 (compact S (d, S1)).2)
  | some (.ex e _ S1) => some (.exc ⟨e.c, (compact S (e.what, S1)).1⟩ (compact S (e.what, S1)).2)
  | _ => none
structure Prog where
  fn : String → Option IFun
  glob : String → Option D
  ar : Nat → Option Nat
  kws : List (String × List String × List Nat)
noncomputable def callN (P : Prog) : Nat → String → List D → Store → Option (R D)
  | 0, _, _, _ => none
  | k + 1, f, ds, S => match P.fn f with
    | some F => if ds.length = F.np then finR S (exSs ⟨callN P k, k, P.glob, P.ar⟩ F.body (ds.map some ++ List.replicate (F.ns - F.np) none) S) else none
    | none => none
end PL
set_option Elab.async false
set_option linter.all false
set_option maxRecDepth 100000
namespace PL
open PySem PySem.Spec PyProof.Rows L2
abbrev St := L2.St

/-! ### readings: a run of the small language, on the layer's heap -/
/-- an exception's object by its class and what it bears -/
def ExR (g : G) (φ : List Addr) (H : Hp) (cls : Value) (dd : Option Addr) (e : Ex) : Prop :=
  ∃ C a v, g.err e.c = some C ∧ cls = .ref C ∧ dd = some a ∧ H a = some (.xd [(Str.ofString "what", v)]) ∧ VR g φ H v e.what
structure EnvR (g : G) (φ : List Addr) (H : Hp) (σ : St) (env : Env) : Prop where
  len : σ.length = env.length
  val : ∀ (i : Nat) (d : D), env[i]? = some (some d) → ∃ x, σ[i]? = some (some x) ∧ VR g φ H x d
def Post (g : G) (W : WX) (φ : List Addr) (H : Hp) (σ : St) {α β : Type} (rel : List Addr → Hp → β → α → Prop) (r : Option (R α)) (Q : β → Hp → Prop) : Prop := match r with
  | none => False
  | some (.val d S') => ∀ φ' H' x, Good g φ H φ' S' H' → rel φ' H' x d → Q x H'
  | some (.exc e S') => ∀ φ' H' cls dd, Good g φ H φ' S' H' → ExR g φ' H' cls dd e → W cls dd σ H'
/-- from where a reading goes on -/
def Start (g : G) (σ : St) (H : Hp) (P : List Addr → Env → Store → Prop) : Prop := ∃ φ env S, Sim g φ S H ∧ EnvR g φ H σ env ∧ P φ env S

section
variable {g : G} {W : WX} {φ φ' : List Addr} {H H' : Hp} {σ : St} {S S' : Store} {env : Env} {α β γ δ : Type} {rel : List Addr → Hp → β → α → Prop} {rel2 : List Addr → Hp → δ → γ → Prop}
theorem EnvR.good (e : EnvR g φ H σ env) (s : Sim g φ S H) (k : Good g φ H φ' S' H') : EnvR g φ' H' σ env :=
  ⟨e.len, fun i d h => let ⟨x, h1, h2⟩ := e.val i d h; ⟨x, h1, h2.good s k⟩⟩
theorem Post.from {r : Option (R α)} {Q : β → Hp → Prop} (p : Post g W φ H σ rel r Q) (k : Good g φ H φ' S' H') : Post g W φ' H' σ rel r Q := by
  cases r with
  | none => exact p
  | some r =>
    cases r with
    | val d S2 => exact fun φ2 H2 x k2 rx => p φ2 H2 x (k.trans k2) rx
    | exc e S2 => exact fun φ2 H2 c d k2 rx => p φ2 H2 c d (k.trans k2) rx
theorem Post.imp {r : Option (R α)} {Q Q' : β → Hp → Prop} (p : Post g W φ H σ rel r Q) (h : ∀ x H, Q x H → Q' x H) : Post g W φ H σ rel r Q' := by
  cases r with
  | none => exact p
  | some r =>
    cases r with
    | val d S2 => exact fun φ2 H2 x k2 rx => h _ _ (p φ2 H2 x k2 rx)
    | exc e S2 => exact p
theorem Post.bnd {r : Option (R α)} {f : α → Store → Option (R γ)} {Q : δ → Hp → Prop} {K : β → Hp → Prop} (p : Post g W φ H σ rel2 (bnd r f) Q)
    (h : ∀ φ1 S1 H1 x d, r = some (.val d S1) → Good g φ H φ1 S1 H1 → rel φ1 H1 x d → Post g W φ1 H1 σ rel2 (f d S1) Q → K x H1) : Post g W φ H σ rel r K := by
  cases r with
  | none => exact p
  | some r =>
    cases r with
    | val d S2 => exact fun φ2 H2 x k2 rx => h φ2 S2 H2 x d rfl k2 rx (Post.from (Q := Q) p k2)
    | exc e S2 => exact p
theorem Post.val {d : α} {x : β} {Q : β → Hp → Prop} (s : Sim g φ S H) (p : Post g W φ H σ rel (some (.val d S)) Q) (r : rel φ H x d) : Q x H := p φ H x (.refl s) r
theorem Post.valG {d : α} {x : β} {Q : β → Hp → Prop} (p : Post g W φ H σ rel (some (.val d S')) Q) (k : Good g φ H φ' S' H') (r : rel φ' H' x d) : Q x H' := p φ' H' x k r
end

/-- an expression, an argument list, a test -/
def rdE (g : G) (W : WX) (ix : Ix) (e : IE) : TE := fun σ H Q => Start g σ H fun φ env S => Post g W φ H σ (VR g) (evE ix e env S) Q
def rdEs (g : G) (W : WX) (ix : Ix) (e : IEs) : TA := fun σ H Q => Start g σ H fun φ env S => Post g W φ H σ (VRs g) (evEs ix e env S) Q
def bRel : List Addr → Hp → Bool → Bool → Prop := fun _ _ a b => a = b
def oRel : List Addr → Hp → Option Int → Option Int → Prop := fun _ _ a b => a = b
/-- truth, nothing forgotten -/
noncomputable def truR (r : Option (R D)) : Option (R Bool) := match r with
  | some (.val d S1) => (truthD S1 d).map fun b => .val b S1
  | some (.exc e S1) => some (.exc e S1)
  | none => none
def rdT (g : G) (W : WX) (ix : Ix) (e : IE) : TT := fun σ H Q => Start g σ H fun φ env S => Post g W φ H σ bRel (truR (evE ix e env S)) Q

/-! ### the syntax, checked -/
structure SC where
  N : List Str
  sc : Scope
  fn : Str → Bool
def visB (c : SC) (x : Str) : Bool := match c.sc.names.lookup x with
  | some .local => true
  | some .cell => true
  | some .free => true
  | _ => false
def slotB (c : SC) (i : Nat) (x : Str) : Bool := (c.N[i]? == some x) && visB c x && !(x == ("__debug__" : Str)) && !(x == ("__classdict__" : Str))
/-- may be stored -/
def locB (c : SC) (i : Nat) (x : Str) : Bool := (c.N[i]? == some x) && (match c.sc.names.lookup x with
  | some .local => true
  | some .cell => c.fn x
  | _ => false)
def globB (c : SC) (f : String) (x : Str) : Bool := (x == Str.ofString f) && (c.sc.names.lookup x == some .globalImplicit) && !(x == ("__debug__" : Str)) && !(x == ("__name__" : Str))
def constB : D → Const → Bool
  | .int i, .int j => i == j
  | .bl a, .bool b => a == b
  | .str x, .str y => x == y
  | .non, .none => true
  | _, _ => false
def bopB : BOp → Operator → Bool
  | .add, .Add => true
  | .sub, .Sub => true
  | .mul, .Mult => true
  | .fdiv, .FloorDiv => true
  | .mod, .Mod => true
  | .pow, .Pow => true
  | _, _ => false
def copB : COp → CmpOp → Bool
  | .lt, .Lt => true
  | .le, .LtE => true
  | .gt, .Gt => true
  | .ge, .GtE => true
  | .eq, .Eq => true
  | .ne, .NotEq => true
  | .isin, .In => true
  | .notin, .NotIn => true
  | .isnone, .Is => true
  | .notnone, .IsNot => true
  | _, _ => false
end PL
set_option Elab.async false
set_option linter.all false
set_option maxRecDepth 100000
namespace PL
open PySem PySem.Spec PyProof.Rows L2

/-! ### operations by values -/
def PostO (g : G) (φ : List Addr) (H : Hp) (r : Option (D × Store)) (Q : VK) : Prop := match r with
  | none => False
  | some (d, S') => ∀ φ' H' x, Good g φ H φ' S' H' → VR g φ' H' x d → Q x H'
def PostB (H : Hp) (r : Option Bool) (Q : VK) : Prop := match r with
  | none => False
  | some b => Q (.bl b) H
section
variable {g : G} {φ φ' : List Addr} {H H' : Hp} {S S' : Store} {X : Cx} {W : WX} {σ : St}
theorem Post.ofO {r : Option (D × Store)} {Q : VK} (p : Post g W φ H σ (VR g) (ofO r) Q) : PostO g φ H r Q := by
  cases r with
  | none => exact p
  | some r => exact p
/-- two values in, at a store -/
def r2 (g : G) (f : D → D → Store → Option (D × Store)) : R2 := fun x y H Q => ∃ φ S a b, Sim g φ S H ∧ VR g φ H x a ∧ VR g φ H y b ∧ PostO g φ H (f a b S) Q
def r2B (g : G) (f : D → D → Store → Option Bool) : R2 := fun x y H Q => ∃ φ S a b, Sim g φ S H ∧ VR g φ H x a ∧ VR g φ H y b ∧ PostB H (f a b S) Q
theorem Sim.lst (s : Sim g φ S H) {n : Nat} {l : List D} (h : lstAt S n = some l) : ∃ a xs, φ[n]? = some a ∧ H a = some (.lst xs) ∧ VRs g φ H xs l := by
  unfold lstAt at h
  cases e : S[n]? with
  | none => rw [e] at h; cases h
  | some o =>
    rw [e] at h
    cases o with
    | lst l' =>
      cases h
      obtain ⟨a, ha, xs, h1, h2⟩ := s.get e
      exact ⟨a, xs, ha, h1, h2⟩
    | _ => cases h
theorem lstAt_eq {n : Nat} {l : List D} (h : S[n]? = some (.lst l)) : lstAt S n = some l := by unfold lstAt; rw [h]
theorem eq_lstAt {n : Nat} {l : List D} (h : lstAt S n = some l) : S[n]? = some (.lst l) := by
  unfold lstAt at h
  cases e : S[n]? with
  | none => rw [e] at h; cases h
  | some o => rw [e] at h; cases o <;> cases h; rfl
theorem VR.locAt {x : V} {n : Nat} {a : Addr} (r : VR g φ H x (.loc n)) (h : φ[n]? = some a) : x = .ref a := by
  cases r with
  | loc h' => rw [h] at h'; cases h'; rfl
theorem VRs.all {P : V → D → Prop} (h : ∀ x d, VR g φ H x d → P x d) : ∀ {xs : List V} {ds : List D}, VRs g φ H xs ds → Paired P xs ds
  | _, _, .nil => .nil
  | _, _, .cons r t => .cons (h _ _ r) (VRs.all h t)
theorem line_eq : line = sizeLine := by rw [sizeLine_eq]; rfl
theorem VRs.cut {xs : List V} {ds : List D} (r : VRs g φ H xs ds) (lo hi : Option Int) : VRs g φ H (cutV xs lo hi) (cutD ds lo hi) := by
  unfold cutV cutD
  rw [r.length]
  exact (r.drop _).take _
theorem VRs.atI {xs : List V} {ds : List D} (r : VRs g φ H xs ds) {i : Int} {d : D} (h : L2.atI ds i = some d) : ∃ x, L2.atI xs i = some x ∧ VR g φ H x d := by
  unfold L2.atI at h ⊢
  rw [r.length]
  cases e : ixN ds.length i with
  | none => rw [e] at h; cases h
  | some j =>
    rw [e] at h
    obtain ⟨x, h1, h2⟩ := r.get (show ds[j]? = some d from h)
    exact ⟨x, h1, h2⟩

theorem opr_bin {o : BOp} {op : Operator} (h : bopB o op = true) (hK : X.K = g.K) : OpR X (binaryOp op) (r2 g (binD o)) := by
  intro pins s σ H x y v u Q I rx ry ⟨φ, S, a, b, sm, ra, rb, p⟩
  have int1 : ∀ {i : Int}, PostO g φ H (some (.int i, S)) Q → Q (.int i) H := fun p => p φ H _ (.refl sm) (.int _)
  cases o <;> cases op <;> first | cases h | skip
  · -- add
    cases ra with
    | int i =>
      cases rb with
      | int j => exact op_add pins s σ H _ _ v u Q I rx ry ⟨i, j, rfl, rfl, int1 p⟩
      | _ => exact p.elim
    | tup ha ta =>
      rename_i aa xs ds
      cases rb with
      | tup hb tb =>
        rename_i ab ys es
        unfold binD at p
        dsimp only at p
        by_cases hl : ds.length + es.length ≤ line
        · rw [if_pos hl] at p
          refine op_catA pins s σ H _ _ v u Q I rx ry ⟨_, _, xs, ys, rfl, rfl, .of ha, .of hb, ?_, fun e => ?_, fun _ e => ?_, fun _ _ q hq => ?_⟩
          · rw [ta.length, tb.length, ← line_eq]; exact hl
          · have e' := ta.nil_iff.mp e
            subst e'
            exact p φ H _ (.refl sm) (.tup hb tb)
          · have e' := tb.nil_iff.mp e
            subst e'
            exact p φ H _ (.refl sm) (.tup ha (by rw [List.append_nil]; exact ta))
          · have k : Good g φ H φ S (upd H q (.tup (xs ++ ys))) := .made sm hq
            exact p φ _ _ k (.tup upd_same ((ta.good sm k).append (tb.good sm k)))
        · rw [if_neg hl] at p; exact p.elim
      | _ => exact p.elim
    | loc ha =>
      rename_i aa n
      cases rb with
      | loc hb =>
        rename_i ab m
        unfold binD at p
        dsimp only at p
        cases e1 : lstAt S n with
        | none => rw [e1] at p; exact p.elim
        | some l =>
          cases e2 : lstAt S m with
          | none => rw [e1, e2] at p; exact p.elim
          | some l2 =>
            rw [e1, e2] at p
            dsimp only at p
            by_cases hl : l.length + l2.length ≤ line
            · rw [if_pos hl] at p
              obtain ⟨a', xs, f1, h1, r1⟩ := sm.lst e1
              obtain ⟨b', ys, f2, h2, r2⟩ := sm.lst e2
              rw [ha] at f1; cases f1
              rw [hb] at f2; cases f2
              refine op_cat pins s σ H _ _ v u Q I rx ry ⟨_, _, xs, ys, rfl, rfl, h1, h2, by rw [r1.length, r2.length, ← line_eq]; exact hl, fun q hq => ?_⟩
              have k := Good.alloc (g := g) (φ := φ) (S := S) (ob := .lst (l ++ l2)) sm hq fun φ' pre kk => ⟨xs ++ ys, upd_same, (r1.mono kk pre).append (r2.mono kk pre)⟩
              exact p _ _ _ k (.loc (Good.alloc_at sm))
            · rw [if_neg hl] at p; exact p.elim
      | _ => exact p.elim
    | _ => cases rb <;> exact p.elim
  · cases ra with
    | int i =>
      cases rb with
      | int j => exact op_sub pins s σ H _ _ v u Q I rx ry ⟨i, j, rfl, rfl, int1 p⟩
      | _ => exact p.elim
    | _ => cases rb <;> exact p.elim
  · cases ra with
    | int i =>
      cases rb with
      | int j =>
        unfold binD at p
        dsimp only at p
        by_cases hc : L2.CMul i j ∨ L2.CMulW i j
        · rw [if_pos hc] at p
          rcases hc with hc | hc
          · exact op_mul pins s σ H _ _ v u Q I rx ry ⟨i, j, rfl, rfl, hc, int1 p⟩
          · exact op_mulW pins s σ H _ _ v u Q I rx ry ⟨i, j, rfl, rfl, hc, int1 p⟩
        · rw [if_neg hc] at p; exact p.elim
      | _ => exact p.elim
    | _ => cases rb <;> exact p.elim
  · cases ra with
    | int i =>
      cases rb with
      | int j =>
        unfold binD at p
        dsimp only at p
        by_cases hc : L2.CDivW i j
        · rw [if_pos hc] at p
          exact op_fdivW pins s σ H _ _ v u Q I rx ry ⟨i, j, rfl, rfl, hc, int1 p⟩
        · rw [if_neg hc] at p; exact p.elim
      | _ => exact p.elim
    | _ => cases rb <;> exact p.elim
  · cases ra with
    | int i =>
      cases rb with
      | int j =>
        unfold binD at p
        dsimp only at p
        by_cases hc : 0 < j
        · rw [if_pos hc] at p
          exact op_mod pins s σ H _ _ v u Q I rx ry ⟨i, j, rfl, rfl, hc, int1 p⟩
        · rw [if_neg hc] at p; exact p.elim
      | _ => exact p.elim
    | _ => cases rb <;> exact p.elim
  · cases ra with
    | int i =>
      cases rb with
      | int j =>
        unfold binD at p
        dsimp only at p
        by_cases hc : L2.CPow i j
        · rw [if_pos hc] at p
          exact op_pow pins s σ H _ _ v u Q I rx ry ⟨i, j, rfl, rfl, hc, int1 p⟩
        · rw [if_neg hc] at p; exact p.elim
      | _ => exact p.elim
    | _ => cases rb <;> exact p.elim
end
end PL
set_option Elab.async false
set_option linter.all false
set_option maxRecDepth 100000
namespace PL
open PySem PySem.Spec PyProof.Rows L2
section
variable {g : G} {φ φ' : List Addr} {H H' : Hp} {S S' : Store} {X : Cx} {W : WX} {σ : St}
theorem rd_dp (sm : Sim g φ S H) {x : V} {d : D} {p : PyData} (r : VR g φ H x d) (h : rdPy S d = some p) : Dp g.K H x p := by
  have base : ∀ {d : D} {x : V}, VR g φ H x d → (if d.plain = true then some d.py else none) = some p → Dp g.K H x p := fun {d x} r h => by
    by_cases hp : d.plain = true
    · rw [if_pos hp] at h; cases h
      exact r.dp hp
    · rw [if_neg hp] at h; cases h
  cases d with
  | loc n =>
    unfold rdPy at h
    dsimp only at h
    cases e : lstAt S n with
    | none => rw [e] at h; cases h
    | some l =>
      rw [e] at h
      dsimp only at h
      by_cases hp : D.plains l = true
      · rw [if_pos hp] at h; cases h
        obtain ⟨a, xs, ha, h1, h2⟩ := sm.lst e
        rw [r.locAt ha]
        exact .lst (.of h1) (h2.dp hp)
      · rw [if_neg hp] at h; cases h
  | _ => exact base r h
theorem rd_reads (sm : Sim g φ S H) (hK : X.K = g.K) {pins : List (Addr × Obj)} {s : Shared} (I : Inv X pins σ H s) {x : V} {d : D} {p : PyData} {u : Value} (r : VR g φ H x d) (h : rdPy S d = some p) (ru : RelV x u) : ∃ as, Reads s.heap u p as :=
  Dp.reads I p x u (by rw [hK]; exact rd_dp sm r h) ru
theorem pl_reads (hK : X.K = g.K) {pins : List (Addr × Obj)} {s : Shared} (I : Inv X pins σ H s) {x : V} {d : D} {u : Value} (r : VR g φ H x d) (h : d.plain = true) (ru : RelV x u) : ∃ as, Reads s.heap u d.py as :=
  Dp.reads I d.py x u (by rw [hK]; exact r.dp h) ru
theorem cmpOk_iff {x y : PyData} (h : cmpOk x y = true) : PySem.W.alike x y = true ∧ x ≠ .none ∧ x.depth ≤ bigEnough ∧ y.depth ≤ bigEnough := by
  unfold cmpOk at h
  simp only [Bool.and_eq_true, decide_eq_true_eq] at h
  refine ⟨h.1.1.1, fun e => ?_, h.1.2, h.2⟩
  rw [e] at h
  exact absurd h.1.1.2 (by decide)
theorem min_le_big {a b : Nat} (h : a ≤ bigEnough) : min a b ≤ 60 := Nat.le_trans (Nat.min_le_left _ _) h

theorem ordD_some {f : PyData → PyData → Bool} {x y : D} {Q : VK} (p : PostB H (ordD f S x y) Q) : ∃ dx dy, rdPy S x = some dx ∧ rdPy S y = some dy ∧ cmpOk dx dy = true ∧ Q (.bl (f dx dy)) H := by
  unfold ordD at p
  cases e1 : rdPy S x with
  | none => rw [e1] at p; exact p.elim
  | some dx =>
    cases e2 : rdPy S y with
    | none => rw [e1, e2] at p; exact p.elim
    | some dy =>
      rw [e1, e2] at p
      dsimp only at p
      by_cases h : cmpOk dx dy = true
      · rw [if_pos h] at p; exact ⟨dx, dy, rfl, rfl, h, p⟩
      · rw [if_neg h] at p; exact p.elim

/-! ### keys -/
theorem keyEq_k {a b : D} {k l : Key} (ha : kD a = some k) (hb : kD b = some l) : keyEq a b = decide (k = l) := by
  cases a with
  | int i =>
    cases ha
    cases b with
    | int j => cases hb; rw [key_ll]; simp only [keyEq, D.py, PyData.eqv]
    | str y => cases hb; rw [key_lr]; simp only [keyEq, D.py, PyData.eqv]
    | _ => cases hb
  | str x =>
    cases ha
    cases b with
    | int j => cases hb; rw [key_rl]; simp only [keyEq, D.py, PyData.eqv]
    | str y => cases hb; rw [key_rr]; simp only [keyEq, D.py, PyData.eqv]; rw [Bool.eq_iff_iff]; simp
    | _ => cases hb
  | _ => cases ha
theorem keyEq_ks : ∀ {as bs : List D} {ks ls : List Key}, as.mapM kD = some ks → bs.mapM kD = some ls → PyData.eqvAll (D.pys as) (D.pys bs) = decide (ks = ls)
  | [], [], ks, ls, ha, hb => by
    simp at ha hb; subst ha hb
    simp [D.pys, PyData.eqvAll]
  | [], b :: bs, ks, ls, ha, hb => by
    simp at ha; subst ha
    simp only [List.mapM_cons, Option.bind_eq_bind, Option.bind_eq_some_iff, Option.pure_def, Option.some.injEq] at hb
    obtain ⟨l, _, ls', _, rfl⟩ := hb
    simp [D.pys, PyData.eqvAll]
  | a :: as, [], ks, ls, ha, hb => by
    simp at hb; subst hb
    simp only [List.mapM_cons, Option.bind_eq_bind, Option.bind_eq_some_iff, Option.pure_def, Option.some.injEq] at ha
    obtain ⟨l, _, ls', _, rfl⟩ := ha
    simp [D.pys, PyData.eqvAll]
  | a :: as, b :: bs, ks, ls, ha, hb => by
    simp only [List.mapM_cons, Option.bind_eq_bind, Option.bind_eq_some_iff, Option.pure_def, Option.some.injEq] at ha hb
    obtain ⟨k, h1, ks', h2, rfl⟩ := ha
    obtain ⟨l, h3, ls', h4, rfl⟩ := hb
    have e1 := keyEq_k h1 h3
    have e2 := keyEq_ks h2 h4
    simp only [D.pys, PyData.eqvAll]
    rw [e2, show PyData.eqv a.py b.py = decide (k = l) from e1]
    rw [Bool.eq_iff_iff]; simp
theorem keyEq_t {a b : D} {k l : List Key} (ha : kDs a = some k) (hb : kDs b = some l) : keyEq a b = decide (k = l) := by
  cases a with
  | tup as =>
    cases b with
    | tup bs =>
      have := keyEq_ks (as := as) (bs := bs) ha hb
      simp only [keyEq, D.py, PyData.eqv]
      exact this
    | _ => cases hb
  | _ => cases ha
/-- what stands at a key -/
theorem DR.find {κ : Type} [DecidableEq κ] {key : D → Option κ} (hk : ∀ {a b : D} {k l : κ}, key a = some k → key b = some l → keyEq a b = decide (k = l)) {kd : D} {k : κ} (hkd : key kd = some k) :
    ∀ {m : List (κ × V)} {kvs : List (D × D)}, DR g φ H key m kvs → (∀ d, findK kvs kd = some d → ∃ x, valV m k = some x ∧ VR g φ H x d) ∧ (findK kvs kd = none → valV m k = none)
  | _, _, .nil => ⟨fun d h => by simp [findK] at h, fun _ => rfl⟩
  | p :: m, q :: kvs, .cons h t => by
    have e := hk h.1 hkd
    by_cases c : p.1 = k
    · rw [decide_eq_true c] at e
      have e2 : findK (q :: kvs) kd = some q.2 := by unfold findK; rw [List.find?_cons_of_pos (by exact e)]; rfl
      rw [e2, valV_pos c]
      exact ⟨fun d hd => by cases hd; exact ⟨_, rfl, h.2⟩, fun z => by cases z⟩
    · rw [decide_eq_false c] at e
      have e2 : findK (q :: kvs) kd = findK kvs kd := by unfold findK; rw [List.find?_cons_of_neg (by rw [e]; decide)]
      rw [e2, valV_neg c]
      exact DR.find hk hkd t
theorem any_find (l : List (D × D)) (k : D) : (l.any fun p => keyEq p.1 k) = (findK l k).isSome := by
  unfold findK
  rw [Option.isSome_map]
  induction l with
  | nil => rfl
  | cons p r ih =>
    rw [List.any_cons, List.find?_cons]
    cases keyEq p.1 k with
    | true => simp
    | false => simpa using ih
theorem VR.keyK {x : V} {d : D} {k : Key} (r : VR g φ H x d) (h : kD d = some k) : x = kV k := by
  cases r <;> cases h <;> rfl
theorem VRs.keys : ∀ {xs : List V} {ds : List D} {ks : List Key}, VRs g φ H xs ds → ds.mapM kD = some ks → xs = ks.map kV
  | _, _, _, .nil, h => by simp at h; subst h; rfl
  | _, d :: ds, _, .cons r t, h => by
    simp only [List.mapM_cons, Option.bind_eq_bind, Option.bind_eq_some_iff, Option.pure_def, Option.some.injEq] at h
    obtain ⟨k, h1, ks', h2, rfl⟩ := h
    rw [r.keyK h1, VRs.keys t h2]; rfl
theorem VR.keyT {x : V} {d : D} {ks : List Key} (r : VR g φ H x d) (h : kDs d = some ks) : ∃ b, x = .ref b ∧ H b = some (.tup (ks.map kV)) := by
  cases r with
  | tup e t => exact ⟨_, rfl, by rw [← t.keys h]; exact e⟩
  | _ => cases h
/-- a dict that is read -/
theorem Sim.dget (sm : Sim g φ S H) {n : Nat} {t : Bool} {l : List (D × D)} (h : dictAt S n = some (t, l)) {k : D} (hk : keyOk t k = true) {y : V} (ry : VR g φ H y k) :
    ∃ a, φ[n]? = some a ∧ (∀ d, findK l k = some d → ∃ x, DGet H a y (some x) ∧ VR g φ H x d) ∧ (findK l k = none → DGet H a y none) := by
  have go : ∀ {a : Addr} {t : Bool}, (t = false → ∃ m, Rd H a (.dK m) ∧ DR g φ H kD m l) → (t = true → ∃ m, Rd H a (.dT m) ∧ DR g φ H kDs m l) → keyOk t k = true →
      (∀ d, findK l k = some d → ∃ x, DGet H a y (some x) ∧ VR g φ H x d) ∧ (findK l k = none → DGet H a y none) := fun {a t} h1 h2 hk => by
    cases t with
    | false =>
      obtain ⟨m, e, r⟩ := h1 rfl
      obtain ⟨kk, ek⟩ := Option.isSome_iff_exists.mp (show (kD k).isSome = true by simpa [keyOk] using hk)
      have ey := ry.keyK ek
      have f := r.find (fun h1 h2 => keyEq_k h1 h2) ek
      refine ⟨fun d hd => ?_, fun hn => .inl ⟨m, kk, e, ey, (f.2 hn).symm⟩⟩
      obtain ⟨x, h3, h4⟩ := f.1 d hd
      exact ⟨x, .inl ⟨m, kk, e, ey, h3.symm⟩, h4⟩
    | true =>
      obtain ⟨m, e, r⟩ := h2 rfl
      obtain ⟨kk, ek⟩ := Option.isSome_iff_exists.mp (show (kDs k).isSome = true by simpa [keyOk] using hk)
      obtain ⟨b, ey, eb⟩ := ry.keyT ek
      have f := r.find (fun h1 h2 => keyEq_t h1 h2) ek
      refine ⟨fun d hd => ?_, fun hn => .inr ⟨m, kk, b, e, ey, eb, (f.2 hn).symm⟩⟩
      obtain ⟨x, h3, h4⟩ := f.1 d hd
      exact ⟨x, .inr ⟨m, kk, b, e, ey, eb, h3.symm⟩, h4⟩
  unfold dictAt at h
  cases e : S[n]? with
  | none => rw [e] at h; cases h
  | some o =>
    rw [e] at h
    obtain ⟨a, ha, r⟩ := sm.get e
    cases o with
    | lst _ => cases h
    | dict t' l' =>
      cases h
      refine ⟨a, ha, go (t := t) (fun z => ?_) (fun z => ?_) hk⟩
      · subst z; obtain ⟨m, q, r⟩ := r; exact ⟨m, .inl q, r⟩
      · subst z; obtain ⟨m, q, r⟩ := r; exact ⟨m, .inl q, r⟩
    | lock t' l' =>
      cases h
      refine ⟨a, ha, go (t := t) (fun z => ?_) (fun z => ?_) hk⟩
      · subst z; obtain ⟨ob, m, q, r⟩ := r; exact ⟨m, .inr ⟨ob, q⟩, r⟩
      · subst z; obtain ⟨ob, m, q, r⟩ := r; exact ⟨m, .inr ⟨ob, q⟩, r⟩

theorem hits_nil {A : Around} {s : Shared} {va : List (Key × Value)} (h : va.length = ([] : List (Key × Value)).length) : PySem.W.KeqHits A s ([] : List (Key × Value)) va true := by
  cases va with
  | nil => exact .nil
  | cons _ _ => simp at h

theorem ordOp (hK : X.K = g.K) (hu : X.A.units + 64 < cLine) {op : CmpOp} {f : PyData → PyData → Bool}
    (rule : ∀ {s : Shared} {a b : Value} {da db : PyData} {as bs : List Addr} {Q : Value → Shared → Prop}, Reads s.heap a da as → Reads s.heap b db bs → PySem.W.alike da db = true → da ≠ .none → X.A.units + min da.depth db.depth < cLine → Q (.bool (f da db)) s → wpAny (model X.prog X.w) X.A (compareOp op a b) Q X.xe s) :
    OpR X (compareOp op) (r2B g fun x y S => ordD f S x y) := by
  intro pins s σ H x y v u Q I rx ry ⟨φ, S, a, b, sm, ra, rb, p⟩
  obtain ⟨dx, dy, e1, e2, hc, q⟩ := ordD_some p
  obtain ⟨c1, c2, c3, c4⟩ := cmpOk_iff hc
  obtain ⟨as, r1⟩ := rd_reads sm hK I ra e1 rx
  obtain ⟨bs, r2⟩ := rd_reads sm hK I rb e2 ry
  exact rule r1 r2 c1 c2 (by have := min_le_big (b := dy.depth) c3; omega) ⟨.bl _, H, I, rfl, q⟩
theorem PostB.not {r : Option Bool} {Q : VK} (p : PostB H (r.map (!·)) Q) : PostB H r (fun x H' => ∃ b, x = .bl b ∧ Q (.bl !b) H') := by
  cases r with
  | none => exact p
  | some b => exact ⟨b, rfl, p⟩
theorem plains_all {l : List D} (h : D.plains l = true) : PyData.plainAll (D.pys l) = true := D.plains_py l h
theorem lst_reads (hK : X.K = g.K) {pins : List (Addr × Obj)} {s : Shared} (I : Inv X pins σ H s) {a : Addr} {xs : List V} {l : List D} (e : H a = some (.lst xs)) (r : VRs g φ H xs l) (h : D.plains l = true) : ∃ as, Reads s.heap (.ref a) (.list (D.pys l)) as :=
  Dp.reads I (.list (D.pys l)) (.ref a) (.ref a) (by rw [hK]; exact .lst (.of e) (r.dp h)) rfl

theorem units_min {u m n : Nat} (hu : u + 64 < cLine) (h : n ≤ bigEnough) : u + 1 + min m n < cLine := by
  have := Nat.le_trans (Nat.min_le_right m n) h
  have e : bigEnough = 60 := rfl
  omega
/-- in, not in, by the answer b that is due -/
theorem inOp (hK : X.K = g.K) (hu : X.A.units + 64 < cLine) {pins : List (Addr × Obj)} {s : Shared} {x y : V} {v u : Value} {a c : D} {b : Bool} (I : Inv X pins σ H s) (rx : RelV x v) (ry : RelV y u) (sm : Sim g φ S H) (ra : VR g φ H x a) (rc : VR g φ H y c) (p : inD S a c = some b) :
    (∀ Q : Value → Shared → Prop, (∀ s', Inv X pins σ H s' → Q (.bool b) s') → wpAny (model X.prog X.w) X.A (compareOp .In v u) Q X.xe s) ∧
    (∀ Q : Value → Shared → Prop, (∀ s', Inv X pins σ H s' → Q (.bool (!b)) s') → wpAny (model X.prog X.w) X.A (compareOp .NotIn v u) Q X.xe s) := by
  have seq : ∀ {l : List D}, (if a.plain && D.plains l && decide (a.py.depth ≤ bigEnough) && decide (PyData.depthAll (D.pys l) ≤ bigEnough) then some ((D.pys l).any fun z => PyData.eqv z a.py) else none) = some b → a.plain = true ∧ D.plains l = true ∧ a.py.depth ≤ bigEnough ∧ b = (D.pys l).any fun z => PyData.eqv z a.py := fun {l} h => by
    by_cases hc : (a.plain && D.plains l && decide (a.py.depth ≤ bigEnough) && decide (PyData.depthAll (D.pys l) ≤ bigEnough)) = true
    · rw [if_pos hc] at h
      cases h
      simp only [Bool.and_eq_true, decide_eq_true_eq] at hc
      exact ⟨hc.1.1.1, hc.1.1.2, hc.1.2, rfl⟩
    · rw [if_neg hc] at h; cases h
  have hu1 : X.A.units + 1 < cLine := by omega
  cases c with
  | tup l =>
    obtain ⟨h1, h2, h3, rfl⟩ := seq (l := l) p
    obtain ⟨as, q1⟩ := pl_reads hK I ra h1 rx
    obtain ⟨bs, q2⟩ := pl_reads hK I rc (by simpa [D.plain] using h2) ry
    simp only [D.py] at q2
    exact ⟨fun Q k => SeqAt.in_tuple_data q2 q1 (plains_all h2) (a.plain_py h1) (units_min hu h3) (k s I), fun Q k => SeqAt.notIn_tuple_data q2 q1 (plains_all h2) (a.plain_py h1) (units_min hu h3) (k s I)⟩
  | loc n =>
    have dict : ∀ {t : Bool} {l : List (D × D)}, dictAt S n = some (t, l) → (if keyOk t a then some (l.any fun p => keyEq p.1 a) else none) = some b → 
        (∀ Q : Value → Shared → Prop, (∀ s', Inv X pins σ H s' → Q (.bool b) s') → wpAny (model X.prog X.w) X.A (compareOp .In v u) Q X.xe s) ∧
        (∀ Q : Value → Shared → Prop, (∀ s', Inv X pins σ H s' → Q (.bool (!b)) s') → wpAny (model X.prog X.w) X.A (compareOp .NotIn v u) Q X.xe s) := fun {t l} e h => by
      by_cases hk : keyOk t a = true
      · rw [if_pos hk] at h
        clear seq
        have eb : b = (findK l a).isSome := (Option.some.inj h).symm.trans (any_find l a)
        subst eb
        obtain ⟨ad, had, f1, f2⟩ := sm.dget e hk ra
        have ey := rc.locAt had
        subst ey
        cases ry
        cases ef : findK l a with
        | some d =>
          obtain ⟨z, hz, _⟩ := f1 d ef
          exact ⟨fun Q k => d_in hu1 I hz rx fun s' I' => k s' I', fun Q k => d_notIn hu1 I hz rx fun s' I' => k s' I'⟩
        | none => exact ⟨fun Q k => d_in hu1 I (f2 ef) rx fun s' I' => k s' I', fun Q k => d_notIn hu1 I (f2 ef) rx fun s' I' => k s' I'⟩
      · rw [if_neg hk] at h; cases h
    unfold inD at p
    dsimp only at p
    cases e : S[n]? with
    | none => rw [e] at p; cases p
    | some o =>
      rw [e] at p
      cases o with
      | lst l =>
        obtain ⟨h1, h2, h3, rfl⟩ := seq (l := l) p
        obtain ⟨ad, xs, ha, e1, r1⟩ := sm.lst (lstAt_eq e)
        have ey := rc.locAt ha
        subst ey
        cases ry
        obtain ⟨as, q1⟩ := pl_reads hK I ra h1 rx
        obtain ⟨bs, q2⟩ := lst_reads hK I e1 r1 h2
        exact ⟨fun Q k => SeqAt.in_list_data q2 q1 (plains_all h2) (a.plain_py h1) (units_min hu h3) (k s I), fun Q k => SeqAt.notIn_list_data q2 q1 (plains_all h2) (a.plain_py h1) (units_min hu h3) (k s I)⟩
      | dict t l => exact dict (by unfold dictAt; rw [e]) p
      | lock t l => exact dict (by unfold dictAt; rw [e]) p
  | _ => cases p
/-- ==, != by the answer b that is due -/
theorem eqOp (hK : X.K = g.K) (hu : X.A.units + 64 < cLine) {pins : List (Addr × Obj)} {s : Shared} {x y : V} {v u : Value} {a c : D} {b : Bool} (I : Inv X pins σ H s) (rx : RelV x v) (ry : RelV y u) (sm : Sim g φ S H) (ra : VR g φ H x a) (rc : VR g φ H y c) (p : eqD S a c = some b) :
    (∀ Q : Value → Shared → Prop, (∀ s', Inv X pins σ H s' → Q (.bool b) s') → wpAny (model X.prog X.w) X.A (compareOp .Eq v u) Q X.xe s) ∧
    (∀ Q : Value → Shared → Prop, (∀ s', Inv X pins σ H s' → Q (.bool (!b)) s') → wpAny (model X.prog X.w) X.A (compareOp .NotEq v u) Q X.xe s) := by
  have hb : bigEnough = 60 := rfl
  have base : (if a.plain && c.plain && eqOk a.py c.py then some (PyData.eqv a.py c.py) else none) = some b →
    (∀ Q : Value → Shared → Prop, (∀ s', Inv X pins σ H s' → Q (.bool b) s') → wpAny (model X.prog X.w) X.A (compareOp .Eq v u) Q X.xe s) ∧
    (∀ Q : Value → Shared → Prop, (∀ s', Inv X pins σ H s' → Q (.bool (!b)) s') → wpAny (model X.prog X.w) X.A (compareOp .NotEq v u) Q X.xe s) := fun h => by
    by_cases hc : (a.plain && c.plain && eqOk a.py c.py) = true
    · rw [if_pos hc] at h
      cases h
      simp only [Bool.and_eq_true, eqOk, decide_eq_true_eq] at hc
      obtain ⟨as, q1⟩ := pl_reads hK I ra hc.1.1 rx
      obtain ⟨bs, q2⟩ := pl_reads hK I rc hc.1.2 ry
      have hm : X.A.units + min a.py.depth c.py.depth < cLine := by have := Nat.le_trans (Nat.min_le_left a.py.depth c.py.depth) hc.2.1; omega
      exact ⟨fun Q k => SeqAt.eq_plain q1 q2 (a.plain_py hc.1.1) (c.plain_py hc.1.2) hm (k s I), fun Q k => SeqAt.ne_plain q1 q2 (a.plain_py hc.1.1) (c.plain_py hc.1.2) hm (k s I)⟩
    · rw [if_neg hc] at h; cases h
  cases a with
  | loc n =>
    cases c with
    | loc m =>
      unfold eqD at p
      dsimp only at p
      cases e1 : S[n]? with
      | none => rw [e1] at p; cases p
      | some o1 =>
        cases e2 : S[m]? with
        | none =>
          rw [e1, e2] at p
          cases o1 with
          | dict t l => cases t <;> cases p
          | _ => cases p
        | some o2 =>
          rw [e1, e2] at p
          cases o1 with
          | lst l =>
            cases o2 with
            | lst l2 =>
              dsimp only at p
              by_cases hc : (D.plains l && D.plains l2 && eqOk (.list (D.pys l)) (.list (D.pys l2))) = true
              · rw [if_pos hc] at p
                cases p
                simp only [Bool.and_eq_true, eqOk, decide_eq_true_eq] at hc
                obtain ⟨a1, xs1, f1, g1, r1⟩ := sm.lst (lstAt_eq e1)
                obtain ⟨a2, xs2, f2, g2, r2⟩ := sm.lst (lstAt_eq e2)
                have ex := ra.locAt f1
                have ey := rc.locAt f2
                subst ex ey
                cases rx; cases ry
                obtain ⟨as, q1⟩ := lst_reads hK I g1 r1 hc.1.1
                obtain ⟨bs, q2⟩ := lst_reads hK I g2 r2 hc.1.2
                have hm : X.A.units + min (PyData.list (D.pys l)).depth (PyData.list (D.pys l2)).depth < cLine := by have := Nat.le_trans (Nat.min_le_left (PyData.list (D.pys l)).depth (PyData.list (D.pys l2)).depth) hc.2.1; omega
                have p1 : (PyData.list (D.pys l)).plain = true := by simp only [PyData.plain]; exact plains_all hc.1.1
                have p2 : (PyData.list (D.pys l2)).plain = true := by simp only [PyData.plain]; exact plains_all hc.1.2
                have ev : PyData.eqv (.list (D.pys l)) (.list (D.pys l2)) = PyData.eqvAll (D.pys l) (D.pys l2) := by simp only [PyData.eqv]
                exact ⟨fun Q k => SeqAt.eq_plain q1 q2 p1 p2 hm (by rw [ev]; exact k s I), fun Q k => SeqAt.ne_plain q1 q2 p1 p2 hm (by rw [ev]; exact k s I)⟩
              · rw [if_neg hc] at p; cases p
            | _ => cases p
          | dict t l =>
            cases o2 with
            | dict t2 l2 =>
              cases t with
              | true => cases p
              | false =>
                cases t2 with
                | true => cases p
                | false =>
                  cases l2 with
                  | cons _ _ => cases p
                  | nil =>
                    dsimp only at p
                    obtain rfl : l.isEmpty = b := Option.some.inj p
                    obtain ⟨a1, f1, m1, g1, r1⟩ := sm.get e1
                    obtain ⟨a2, f2, m2, g2, r2⟩ := sm.get e2
                    have ex := ra.locAt f1
                    have ey := rc.locAt f2
                    subst ex ey
                    cases rx; cases ry
                    cases r2
                    obtain ⟨_, ya, va, qa, da⟩ := dk_of I.hok g1
                    obtain ⟨_, yb, vb, qb, db⟩ := dk_of I.hok g2
                    cases qb
                    have hl : (va.length == ([] : List (Key × Value)).length) = l.isEmpty := by
                      have h1 := qa.length
                      have h2 := Paired.length r1
                      rw [← h1, h2]
                      cases l <;> simp
                    have hu2 : X.A.units < cLine := by omega
                    exact ⟨fun Q k => PySem.W.keq_eq (knd := mixKind X.prog X.w) (r := true) ya yb da db hu2 hits_nil (by rw [hl, Bool.and_true]; exact k s I), fun Q k => PySem.W.keq_ne (knd := mixKind X.prog X.w) (r := true) ya yb da db hu2 hits_nil (by rw [hl, Bool.and_true]; exact k s I)⟩
            | _ => cases t <;> cases p
          | lock t l => cases o2 <;> cases p
    | _ => exact base p
  | _ => exact base p
theorem opr_cmp {o : COp} {op : CmpOp} (h : copB o op = true) (hK : X.K = g.K) (hu : X.A.units + 64 < cLine) : OpR X (compareOp op) (r2B g (cmpD o)) := by
  have un : ∀ {f : D → D → Store → Option Bool}, (∀ {pins : List (Addr × Obj)} {s : Shared} {σ : St} {H : Hp} {φ : List Addr} {S : Store} {x y : V} {v u : Value} {a c : D} {b : Bool} {Q : VK}, Inv X pins σ H s → RelV x v → RelV y u → Sim g φ S H → VR g φ H x a → VR g φ H y c → f a c S = some b → Q (.bl b) H → wpAny (model X.prog X.w) X.A (compareOp op v u) (EP X pins σ Q) X.xe s) → OpR X (compareOp op) (r2B g f) := fun {f} k => by
    intro pins s σ H x y v u Q I rx ry ⟨φ, S, a, b, sm, ra, rb, p⟩
    cases e : f a b S with
    | none => rw [e] at p; exact p.elim
    | some c => rw [e] at p; exact k I rx ry sm ra rb e p
  cases o <;> cases op <;> first | cases h | skip
  · exact ordOp hK hu fun r1 r2 h1 h2 h3 q => PySem.W.lt_data r1 r2 h1 h2 h3 q
  · exact ordOp hK hu fun r1 r2 h1 h2 h3 q => PySem.W.le_data r1 r2 h1 h2 h3 q
  · exact ordOp hK hu fun r1 r2 h1 h2 h3 q => PySem.W.gt_data r1 r2 h1 h2 h3 q
  · exact ordOp hK hu fun r1 r2 h1 h2 h3 q => PySem.W.ge_data r1 r2 h1 h2 h3 q
  · exact un fun {pins s σ H φ S x y v u a c b Q} I rx ry sm ra rc e q => (eqOp hK hu I rx ry sm ra rc e).1 _ fun s' I' => ⟨.bl b, H, I', rfl, q⟩
  · refine un fun {pins s σ H φ S x y v u a c b Q} I rx ry sm ra rc e q => ?_
    obtain ⟨b', e', rfl⟩ := Option.map_eq_some_iff.mp e
    exact (eqOp hK hu I rx ry sm ra rc e').2 _ fun s' I' => ⟨.bl _, H, I', rfl, q⟩
  · exact un fun {pins s σ H φ S x y v u a c b Q} I rx ry sm ra rc e q => (inOp hK hu I rx ry sm ra rc e).1 _ fun s' I' => ⟨.bl b, H, I', rfl, q⟩
  · refine un fun {pins s σ H φ S x y v u a c b Q} I rx ry sm ra rc e q => ?_
    obtain ⟨b', e', rfl⟩ := Option.map_eq_some_iff.mp e
    exact (inOp hK hu I rx ry sm ra rc e').2 _ fun s' I' => ⟨.bl _, H, I', rfl, q⟩
  · refine un fun {pins s σ H φ S x y v u a c b Q} I rx ry sm ra rc e q => ?_
    have e1 : c = .non ∧ b = decide (x = .non) := by
      cases rc <;> cases ra <;> first | (cases e; exact ⟨rfl, by simp⟩) | cases e
    obtain ⟨rfl, rfl⟩ := e1
    cases rc
    exact op_isN pins s σ H x .non v u Q I rx ry ⟨rfl, q⟩
  · refine un fun {pins s σ H φ S x y v u a c b Q} I rx ry sm ra rc e q => ?_
    have e1 : c = .non ∧ b = !decide (x = .non) := by
      cases rc <;> cases ra <;> first | (cases e; exact ⟨rfl, by simp⟩) | cases e
    obtain ⟨rfl, rfl⟩ := e1
    cases rc
    exact op_notN pins s σ H x .non v u Q I rx ry ⟨rfl, q⟩
end
end PL
set_option Elab.async false
set_option linter.all false
set_option maxRecDepth 100000
namespace PL
open PySem PySem.Spec PyProof.Rows L2
theorem PEimp {X : Cx} {e : Expr} {t t' : TE} (h : PE X e t) (k : ∀ σ H Q, t' σ H Q → t σ H Q) : PE X e t' := ⟨fun pins s σ H Q I q => h.run pins s σ H Q I (k σ H Q q)⟩
theorem PTimp {X : Cx} {e : Expr} {t t' : TT} (h : PT X e t) (k : ∀ σ H Q, t' σ H Q → t σ H Q) : PT X e t' := ⟨fun pins s σ H Q I q => h.run pins s σ H Q I (k σ H Q q)⟩
theorem PWimp {X : Cx} {e : Expr} {t t' : TT} (h : PW X e t) (k : ∀ σ H Q, t' σ H Q → t σ H Q) : PW X e t' := ⟨fun wh pins s σ H Q I q => h.run wh pins s σ H Q I (k σ H Q q)⟩
theorem PAimp {X : Cx} {e : List Expr} {t t' : TA} (h : PA X e t) (k : ∀ σ H Q, t' σ H Q → t σ H Q) : PA X e t' := ⟨fun pos pins s σ H Q I q => h.run pos pins s σ H Q I (k σ H Q q)⟩
theorem PEor {X : Cx} {e : Expr} {t t' : TE} (h : PE X e t) (h' : PE X e t') : PE X e (fun σ H Q => t σ H Q ∨ t' σ H Q) := ⟨fun pins s σ H Q I q => q.elim (h.run pins s σ H Q I) (h'.run pins s σ H Q I)⟩

section
variable {g : G} {φ φ' : List Addr} {H H' : Hp} {S S' : Store} {X : Cx} {W : WX} {σ : St} {ix : Ix} {a b c : IE} {ea eb ec : Expr} {pos : Pos} {env : Env}
/-- two values, one behind the other -/
theorem two {f : D → D → Store → Option (R D)} {Q : VK} {K : V → V → Hp → Prop} (p : Post g W φ H σ (VR g) (bnd (evE ix a env S) fun x S1 => bnd (evE ix b env S1) fun y S2 => f x y S2) Q) (sm : Sim g φ S H) (er : EnvR g φ H σ env)
    (h : ∀ φ2 S2 H2 x y dx dy, Sim g φ2 S2 H2 → EnvR g φ2 H2 σ env → VR g φ2 H2 x dx → VR g φ2 H2 y dy → Post g W φ2 H2 σ (VR g) (f dx dy S2) Q → K x y H2) :
    rdE g W ix a σ H fun x H1 => rdE g W ix b σ H1 fun y H2 => K x y H2 :=
  ⟨φ, env, S, sm, er, p.bnd fun φ1 S1 H1 x d _ k r p1 => ⟨φ1, env, S1, k.sim, er.good sm k, p1.bnd fun φ2 S2 H2 y d2 _ k2 r2 p2 =>
    h φ2 S2 H2 x y d d2 k2.sim ((er.good sm k).good k.sim k2) (r.good k.sim k2) r2 p2⟩⟩
theorem one {f : D → Store → Option (R D)} {Q : VK} {K : V → Hp → Prop} (p : Post g W φ H σ (VR g) (bnd (evE ix a env S) fun x S1 => f x S1) Q) (sm : Sim g φ S H) (er : EnvR g φ H σ env)
    (h : ∀ φ1 S1 H1 x dx, Sim g φ1 S1 H1 → EnvR g φ1 H1 σ env → VR g φ1 H1 x dx → Post g W φ1 H1 σ (VR g) (f dx S1) Q → K x H1) : rdE g W ix a σ H fun x H1 => K x H1 :=
  ⟨φ, env, S, sm, er, p.bnd fun φ1 S1 H1 x d _ k r p1 => h φ1 S1 H1 x d k.sim (er.good sm k) r p1⟩

/-! ### names and constants -/
theorem visB_iff {k : SC} {x : Str} (h : visB k x = true) : Vis k.sc x := by
  unfold visB at h
  cases e : k.sc.names.lookup x with
  | none => rw [e] at h; cases h
  | some v => rw [e] at h; cases v <;> first | (exact .inl e) | (exact .inr (.inl e)) | (exact .inr (.inr e)) | cases h
theorem rE_slot {k : SC} {i : Nat} {x : Str} (hN : X.N = k.N) (hsc : X.env.scope = k.sc) (h : slotB k i x = true) : PE X (.Name x pos) (rdE g W ix (.slot i)) := by
  unfold slotB at h
  simp only [Bool.and_eq_true, Bool.not_eq_true', beq_iff_eq] at h
  obtain ⟨⟨⟨h1, h2⟩, h3⟩, h4⟩ := h
  refine PEimp (pe_var (i := i) (by rw [hN]; exact h1) (by rw [hsc]; exact visB_iff h2) h3 h4) fun σ H Q ⟨φ, env, S, sm, er, p⟩ => ?_
  unfold evE at p
  cases e : env[i]? with
  | none => rw [e] at p; exact p.elim
  | some o =>
    rw [e] at p
    cases o with
    | none => exact p.elim
    | some d =>
      obtain ⟨v, h5, h6⟩ := er.val i d e
      exact ⟨v, h5, p.val sm h6⟩
theorem rE_cst {d : D} {cn : Const} {j : Nat} (h : constB d cn = true) : PE X (.Constant cn j pos) (rdE g W ix (.cst d)) := by
  have go : ∀ {v : V}, PE X (.Constant cn j pos) (tC v) → (∀ φ H, VR g φ H v d) → PE X (.Constant cn j pos) (rdE g W ix (.cst d)) := fun {v} h1 h2 =>
    PEimp h1 fun σ H Q ⟨φ, env, S, sm, er, p⟩ => by
      unfold evE at p
      exact p.val sm (h2 φ H)
  cases d with
  | non =>
    cases cn with
    | none => exact go pe_non fun _ _ => .non
    | _ => cases h
  | bl b =>
    cases cn with
    | bool b' =>
      have : b = b' := by simpa [constB] using h
      subst this
      exact go pe_bl fun _ _ => .bl b
    | _ => cases h
  | int i =>
    cases cn with
    | int i' =>
      have : i = i' := by simpa [constB] using h
      subst this
      exact go pe_int fun _ _ => .int i
    | _ => cases h
  | str x =>
    cases cn with
    | str x' =>
      have : x = x' := by simpa [constB] using h
      subst this
      exact go pe_str fun _ _ => .str x
    | _ => cases h
  | _ => cases h

/-! ### operators -/
theorem rE_bin {o : BOp} {op : Operator} (h : bopB o op = true) (hK : X.K = g.K) (ha : PE X ea (rdE g W ix a)) (hb : PE X eb (rdE g W ix b)) : PE X (.BinOp ea op eb pos) (rdE g W ix (.bin o a b)) :=
  PEimp (pe_op (opr_bin h hK) ha hb) fun σ H Q ⟨φ, env, S, sm, er, p⟩ => by
    unfold evE at p
    exact two p sm er fun φ2 S2 H2 x y dx dy s2 _ rx ry p2 => ⟨φ2, S2, dx, dy, s2, rx, ry, p2.ofO⟩
theorem rE_neg (ha : PE X ea (rdE g W ix a)) : PE X (.UnaryOp .USub ea pos) (rdE g W ix (.neg a)) :=
  PEimp (pe_un un_neg ha) fun σ H Q ⟨φ, env, S, sm, er, p⟩ => by
    unfold evE at p
    exact one p sm er fun φ1 S1 H1 x dx s1 _ rx p1 => by
      cases rx with
      | int i => exact ⟨i, rfl, p1.val s1 (.int _)⟩
      | _ => exact p1.elim
theorem PostB.of {r : Option Bool} {Q : VK} (sm : Sim g φ S H) (p : Post g W φ H σ (VR g) (match r with | some c => some (.val (.bl c) S) | none => none) Q) : PostB H r Q := by
  cases r with
  | none => exact p
  | some b => exact p.val sm (.bl b)
theorem noMarks {op : CmpOp} {e : Expr} (h : ∀ es k p, e ≠ .Set es k p) : behindInMarks op e = false := by
  cases e <;> first | rfl | exact absurd rfl (h _ _ _)
theorem rE_cmp {o : COp} {op : CmpOp} (h : copB o op = true) (hK : X.K = g.K) (hu : X.A.units + 64 < cLine) (hs : ∀ es k p, eb ≠ .Set es k p) (ha : PE X ea (rdE g W ix a)) (hb : PE X eb (rdE g W ix b)) :
    PE X (.Compare ea [op] [eb] pos) (rdE g W ix (.cmp o a b)) :=
  PEimp (pe_cmpR (opr_cmp h hK hu) ha hb (noMarks hs)) fun σ H Q ⟨φ, env, S, sm, er, p⟩ => by
    unfold evE at p
    exact two p sm er fun φ2 S2 H2 x y dx dy s2 _ rx ry p2 => ⟨φ2, S2, dx, dy, s2, rx, ry, .of s2 p2⟩
theorem truR_val {d : D} {S : Store} : truR (some (.val d S)) = (truthD S d).map fun b => .val b S := rfl
/-- a value's truth -/
theorem truV_of (sm : Sim g φ S H) {x : V} {d : D} {b : Bool} (r : VR g φ H x d) (h : truthD S d = some b) : TruV g.K x H b := by
  cases r with
  | non => cases h; exact (rfl : false = false)
  | bl b' => cases h; exact (rfl : b = b)
  | int i => cases h; exact (rfl : (i != 0) = (i != 0))
  | str z =>
    unfold truthD at h
    dsimp only at h
    by_cases hl : z.length ≤ line
    · rw [if_pos hl] at h; cases h
      exact ⟨by rw [← line_eq]; exact hl, rfl⟩
    · rw [if_neg hl] at h; cases h
  | tup e t =>
    rename_i xs ds
    cases h
    refine .inr (.inl ⟨xs, .of e, ?_⟩)
    cases t <;> rfl
  | obj => cases h
  | scr e =>
    rename_i a ns
    cases h
    refine .inl ⟨_, e.seq, ?_⟩
    cases ns <;> rfl
  | loc e =>
    rename_i a n
    unfold truthD at h
    dsimp only at h
    cases en : S[n]? with
    | none => rw [en] at h; cases h
    | some o =>
      rw [en] at h
      have ro := sm.obj n a o e en
      cases o with
      | lst l =>
        cases h
        obtain ⟨xs, h1, h2⟩ := ro
        refine .inl ⟨xs, .of h1, ?_⟩
        cases h2 <;> rfl
      | dict t l =>
        cases t with
        | true => cases h
        | false =>
          cases h
          obtain ⟨m, h1, h2⟩ := ro
          refine .inr (.inr ⟨m, h1, ?_⟩)
          cases h2 <;> rfl
      | lock t l => cases h
/-- a test by a value's truth -/
theorem truP {r : Option (R D)} {Q : Bool → Hp → Prop} (p : Post g W φ H σ bRel (truR r) Q) : Post g W φ H σ (VR g) r fun x H' => ∃ k, TruV g.K x H' k ∧ Q k H' := by
  cases r with
  | none => exact p
  | some r =>
    cases r with
    | exc e S1 => exact p
    | val d S1 =>
      rw [truR_val] at p
      cases e : truthD S1 d with
      | none => rw [e] at p; exact p.elim
      | some b =>
        rw [e] at p
        exact fun φ' H' x k r => ⟨b, truV_of k.sim r e, p φ' H' b k rfl⟩
theorem PostB.tru {K : PySem.W.Frag} {r : Option Bool} {Q : Bool → Hp → Prop} (p : PostB H r fun x H' => ∃ k, TruV K x H' k ∧ Q k H') : PostB H r fun x H' => ∃ k, x = .bl k ∧ Q k H' := by
  cases r with
  | none => exact p
  | some b =>
    obtain ⟨k, e, q⟩ := p
    have e' : k = b := e
    subst e'
    exact ⟨_, rfl, q⟩
theorem rT_cmp {o : COp} {op : CmpOp} (h : copB o op = true) (hK : X.K = g.K) (hu : X.A.units + 64 < cLine) (hs : ∀ es k p, eb ≠ .Set es k p) (ha : PE X ea (rdE g W ix a)) (hb : PE X eb (rdE g W ix b)) :
    PT X (.Compare ea [op] [eb] pos) (rdT g W ix (.cmp o a b)) :=
  PTimp (pt_cmpR (opr_cmp h hK hu) ha hb (noMarks hs)) fun σ H Q ⟨φ, env, S, sm, er, p⟩ => by
    have p := truP p
    unfold evE at p
    exact two p sm er fun φ2 S2 H2 x y dx dy s2 _ rx ry p2 => ⟨φ2, S2, dx, dy, s2, rx, ry, (PostB.of s2 p2).tru⟩
/-- any expression as a test, by its value -/
theorem rT_val (hK : X.K = g.K) (ha : PE X ea (rdE g W ix a)) (he : ∀ whole, isTrue ea X.env whole = (do let v ← whole; standAt ea.pos; holding [v] (truthy v))) : PT X ea (rdT g W ix a) :=
  PTimp (pt_truth ha he) fun σ H Q ⟨φ, env, S, sm, er, p⟩ => ⟨φ, env, S, sm, er, by rw [hK]; exact truP p⟩

/-! ### and, or, not, if .. else -/
theorem rE_not (hK : X.K = g.K) (ha : PE X ea (rdE g W ix a)) : PE X (.UnaryOp .Not ea pos) (rdE g W ix (.not a)) :=
  PEimp (pe_notT ha) fun σ H Q ⟨φ, env, S, sm, er, p⟩ => by
    unfold evE at p
    exact one p sm er fun φ1 S1 H1 x dx s1 _ rx p1 => by
      cases e : truthD S1 dx with
      | none => rw [e] at p1; exact p1.elim
      | some b =>
        rw [e] at p1
        exact ⟨b, by rw [hK]; exact truV_of s1 rx e, p1.val s1 (.bl _)⟩
theorem tst {f : Bool → Store → Option (R D)} {Q : VK} {K : Bool → Hp → Prop} (p : Post g W φ H σ (VR g) (bnd (truR (evE ix a env S)) f) Q) (sm : Sim g φ S H) (er : EnvR g φ H σ env)
    (h : ∀ φ1 S1 H1 b, Sim g φ1 S1 H1 → EnvR g φ1 H1 σ env → Post g W φ1 H1 σ (VR g) (f b S1) Q → K b H1) : rdT g W ix a σ H fun x H1 => K x H1 :=
  ⟨φ, env, S, sm, er, p.bnd (rel := bRel) fun φ1 S1 H1 x d _ k r p1 => by
    cases r
    exact h φ1 S1 H1 _ k.sim (er.good sm k) p1⟩
/-- a test in the run: what follows by the truth of a value -/
theorem truR_bnd (r : Option (R D)) {β : Type} (f : Bool → Store → Option (R β)) : bnd (truR r) f = bnd r fun x S => match truthD S x with | some b => f b S | none => none := by
  cases r with
  | none => rfl
  | some r =>
    cases r with
    | exc e S => rfl
    | val d S =>
      rw [truR_val]
      cases e : truthD S d with
      | none => simp [e]
      | some b => simp [e]
theorem rE_ite {t : IE} {et : Expr} (ht : PT X et (rdT g W ix t)) (ha : PE X ea (rdE g W ix a)) (hb : PE X eb (rdE g W ix b)) : PE X (.IfExp et ea eb pos) (rdE g W ix (.ite t a b)) :=
  PEimp (pe_ifExp ht ha hb) fun σ H Q ⟨φ, env, S, sm, er, p⟩ => by
    have p : Post g W φ H σ (VR g) (bnd (truR (evE ix t env S)) fun c S1 => if c = true then evE ix a env S1 else evE ix b env S1) Q := by
      unfold evE at p
      rw [truR_bnd]
      have e : (fun (x : D) (S1 : Store) => match truthD S1 x with | some true => evE ix a env S1 | some false => evE ix b env S1 | none => none) = fun x S1 => match truthD S1 x with | some c => if c = true then evE ix a env S1 else evE ix b env S1 | none => none := by
        funext x S1
        cases truthD S1 x with
        | none => rfl
        | some c => cases c <;> rfl
      rw [← e]
      exact p
    exact tst p sm er fun φ1 S1 H1 c s1 er1 p1 => by
      cases c with
      | true => rw [if_pos rfl] at p1 ⊢; exact ⟨φ1, env, S1, s1, er1, p1⟩
      | false => rw [if_neg (by decide)] at p1 ⊢; exact ⟨φ1, env, S1, s1, er1, p1⟩
theorem rE_and {rest : List Expr} (hK : X.K = g.K) (ha : PE X ea (rdE g W ix a)) (hb : PE X (.BoolOp .And (eb :: rest) pos) (rdE g W ix b)) : PE X (.BoolOp .And (ea :: eb :: rest) pos) (rdE g W ix (.and a b)) :=
  PEimp (pe_andT ha hb) fun σ H Q ⟨φ, env, S, sm, er, p⟩ => by
    unfold evE at p
    exact one p sm er fun φ1 S1 H1 x dx s1 er1 rx p1 => by
      cases e : truthD S1 dx with
      | none => rw [e] at p1; exact p1.elim
      | some c =>
        rw [e] at p1
        refine ⟨c, by rw [hK]; exact truV_of s1 rx e, ?_⟩
        cases c with
        | true => rw [if_pos rfl]; exact ⟨φ1, env, S1, s1, er1, p1⟩
        | false => rw [if_neg (by decide)]; exact p1.val s1 rx
theorem rE_or {rest : List Expr} (hK : X.K = g.K) (ha : PE X ea (rdE g W ix a)) (hb : PE X (.BoolOp .Or (eb :: rest) pos) (rdE g W ix b)) : PE X (.BoolOp .Or (ea :: eb :: rest) pos) (rdE g W ix (.or a b)) :=
  PEimp (pe_orT ha hb) fun σ H Q ⟨φ, env, S, sm, er, p⟩ => by
    unfold evE at p
    exact one p sm er fun φ1 S1 H1 x dx s1 er1 rx p1 => by
      cases e : truthD S1 dx with
      | none => rw [e] at p1; exact p1.elim
      | some c =>
        rw [e] at p1
        refine ⟨c, by rw [hK]; exact truV_of s1 rx e, ?_⟩
        cases c with
        | true => rw [if_pos rfl]; exact p1.val s1 rx
        | false => rw [if_neg (by decide)]; exact ⟨φ1, env, S1, s1, er1, p1⟩
/-- .. as tests: the parts are tests, a part's value is never asked -/
theorem truR_and : truR (evE ix (.and a b) env S) = bnd (truR (evE ix a env S)) fun c S1 => if c = true then truR (evE ix b env S1) else some (.val false S1) := by
  rw [truR_bnd]
  conv => lhs; unfold evE
  cases evE ix a env S with
  | none => rfl
  | some r =>
    cases r with
    | exc e S => rfl
    | val d S =>
      simp only [bnd_val]
      cases e : truthD S d with
      | none => rfl
      | some c =>
        cases c with
        | true => rfl
        | false => rw [truR_val, e]; rfl
theorem truR_or : truR (evE ix (.or a b) env S) = bnd (truR (evE ix a env S)) fun c S1 => if c = true then some (.val true S1) else truR (evE ix b env S1) := by
  rw [truR_bnd]
  conv => lhs; unfold evE
  cases evE ix a env S with
  | none => rfl
  | some r =>
    cases r with
    | exc e S => rfl
    | val d S =>
      simp only [bnd_val]
      cases e : truthD S d with
      | none => rfl
      | some c =>
        cases c with
        | true => rw [truR_val, e]; rfl
        | false => rfl
theorem truR_not : truR (evE ix (.not a) env S) = bnd (truR (evE ix a env S)) fun c S1 => some (.val (!c) S1) := by
  rw [truR_bnd]
  conv => lhs; unfold evE
  cases evE ix a env S with
  | none => rfl
  | some r =>
    cases r with
    | exc e S => rfl
    | val d S =>
      simp only [bnd_val]
      cases e : truthD S d with
      | none => rfl
      | some c => rfl
theorem tstT {f : Bool → Store → Option (R Bool)} {Q K : Bool → Hp → Prop} (p : Post g W φ H σ bRel (bnd (truR (evE ix a env S)) f) Q) (sm : Sim g φ S H) (er : EnvR g φ H σ env)
    (h : ∀ φ1 S1 H1 b, Sim g φ1 S1 H1 → EnvR g φ1 H1 σ env → Post g W φ1 H1 σ bRel (f b S1) Q → K b H1) : rdT g W ix a σ H fun x H1 => K x H1 :=
  ⟨φ, env, S, sm, er, p.bnd (rel := bRel) fun φ1 S1 H1 x d _ k r p1 => by
    cases r
    exact h φ1 S1 H1 _ k.sim (er.good sm k) p1⟩
theorem rT_not (ha : PT X ea (rdT g W ix a)) : PT X (.UnaryOp .Not ea pos) (rdT g W ix (.not a)) :=
  PTimp (pt_not ha) fun σ H Q ⟨φ, env, S, sm, er, p⟩ => by
    dsimp only at p
    rw [truR_not] at p
    exact tstT p sm er fun φ1 S1 H1 c s1 er1 p1 => p1.val s1 rfl
theorem rW_and {rest : List Expr} (ha : PT X ea (rdT g W ix a)) (hb : PW X (.BoolOp .And (eb :: rest) pos) (rdT g W ix b)) : PW X (.BoolOp .And (ea :: eb :: rest) pos) (rdT g W ix (.and a b)) :=
  PWimp (pw_and ha hb) fun σ H Q ⟨φ, env, S, sm, er, p⟩ => by
    dsimp only at p
    rw [truR_and] at p
    exact tstT p sm er fun φ1 S1 H1 c s1 er1 p1 => by
      cases c with
      | true => rw [if_pos rfl] at p1 ⊢; exact ⟨φ1, env, S1, s1, er1, p1⟩
      | false => rw [if_neg (by decide)] at p1 ⊢; exact p1.val s1 rfl
theorem rW_or {rest : List Expr} (ha : PT X ea (rdT g W ix a)) (hb : PW X (.BoolOp .Or (eb :: rest) pos) (rdT g W ix b)) : PW X (.BoolOp .Or (ea :: eb :: rest) pos) (rdT g W ix (.or a b)) :=
  PWimp (pw_or ha hb) fun σ H Q ⟨φ, env, S, sm, er, p⟩ => by
    dsimp only at p
    rw [truR_or] at p
    exact tstT p sm er fun φ1 S1 H1 c s1 er1 p1 => by
      cases c with
      | true => rw [if_pos rfl] at p1 ⊢; exact p1.val s1 rfl
      | false => rw [if_neg (by decide)] at p1 ⊢; exact ⟨φ1, env, S1, s1, er1, p1⟩
end
end PL
set_option Elab.async false
set_option linter.all false
set_option maxRecDepth 100000
namespace PL
open PySem PySem.Spec PyProof.Rows L2
section
variable {g : G} {φ φ' : List Addr} {H H' : Hp} {S S' : Store} {X : Cx} {W : WX} {σ : St} {ix : Ix} {a b c : IE} {ea eb ec : Expr} {pos : Pos} {env : Env}
/-! ### chains of comparisons -/
def PCV (X : Cx) (ops : List CmpOp) (es : List Expr) (t : V → TE) : Prop := ∀ (pos : Pos) (pins : List (Addr × Obj)) (s : Shared) (σ : St) (H : Hp) (Q : VK) (x : V) (v : Value), Inv X pins σ H s → RelV x v → t x σ H Q →
  wpAny (model X.prog X.w) X.A (compareChain pos v ops (evalEach es X.env)) (EP X pins σ Q) X.xe s
def PCT (X : Cx) (ops : List CmpOp) (es : List Expr) (t : V → TT) : Prop := ∀ (pos : Pos) (pins : List (Addr × Obj)) (s : Shared) (σ : St) (H : Hp) (Q : Bool → Hp → Prop) (x : V) (v : Value), Inv X pins σ H s → RelV x v → t x σ H Q →
  wpAny (model X.prog X.w) X.A (testChain pos v ops (evalEach es X.env)) (TP X pins σ Q) X.xe s
def rdCh (g : G) (W : WX) (ix : Ix) (r : ICh) : V → TE := fun x σ H Q => ∃ φ env S d, Sim g φ S H ∧ EnvR g φ H σ env ∧ VR g φ H x d ∧ Post g W φ H σ (VR g) (evCh ix d r env S) Q
def rdChT (g : G) (W : WX) (ix : Ix) (r : ICh) : V → TT := fun x σ H Q => rdCh g W ix r x σ H fun y H' => ∃ k, TruV g.K y H' k ∧ Q k H'
theorem oneC {f : D → Store → Option (R D)} {Q : VK} {K : V → Hp → Prop} {d : D} {x : V} (p : Post g W φ H σ (VR g) (bnd (evE ix a env S) fun x S1 => f x S1) Q) (sm : Sim g φ S H) (er : EnvR g φ H σ env) (rx : VR g φ H x d)
    (h : ∀ φ1 S1 H1 y dy, Sim g φ1 S1 H1 → EnvR g φ1 H1 σ env → VR g φ1 H1 x d → VR g φ1 H1 y dy → Post g W φ1 H1 σ (VR g) (f dy S1) Q → K y H1) : rdE g W ix a σ H fun x H1 => K x H1 :=
  ⟨φ, env, S, sm, er, p.bnd fun φ1 S1 H1 y dy _ k r p1 => h φ1 S1 H1 y dy k.sim (er.good sm k) (rx.good sm k) r p1⟩
theorem pcv_last {o : COp} {op : CmpOp} (h : copB o op = true) (hK : X.K = g.K) (hu : X.A.units + 64 < cLine) (hc : PE X ec (rdE g W ix c)) : PCV X [op] [ec] (rdCh g W ix (.last o c)) := by
  intro pos pins s σ H Q x v I rx ⟨φ, env, S, d, sm, er, rd, p⟩
  unfold evCh at p
  have q := oneC (K := fun y H1 => r2B g (cmpD o) x y H1 Q) p sm er rd fun φ1 S1 H1 y dy s1 er1 rx1 ry1 p1 => ⟨φ1, S1, d, dy, s1, rx1, ry1, .of s1 p1⟩
  exact chain_last (thn (hc.run pins s σ H _ I q) fun u s1 ⟨y, H1, I1, r1, q1⟩ => opr_cmp h hK hu pins s1 σ H1 x y v u Q I1 rx r1 q1)
theorem pcv_more {o : COp} {op op' : CmpOp} {ops : List CmpOp} {e' : Expr} {es : List Expr} {r : ICh} (h : copB o op = true) (hK : X.K = g.K) (hu : X.A.units + 64 < cLine) (hc : PE X ec (rdE g W ix c)) (hr : PCV X (op' :: ops) (e' :: es) (rdCh g W ix r)) :
    PCV X (op :: op' :: ops) (ec :: e' :: es) (rdCh g W ix (.more o c r)) := by
  intro pos pins s σ H Q x v I rx ⟨φ, env, S, d, sm, er, rd, p⟩
  unfold evCh at p
  have q := oneC (K := fun y H1 => r2B g (cmpD o) x y H1 fun z H2 => ∃ k, z = .bl k ∧ H2 = H1 ∧ if k = true then rdCh g W ix r y σ H1 Q else Q (.bl false) H1) p sm er rd fun φ1 S1 H1 y dy s1 er1 rx1 ry1 p1 => by
    refine ⟨φ1, S1, d, dy, s1, rx1, ry1, ?_⟩
    cases e : cmpD o d dy S1 with
    | none => rw [e] at p1; exact p1.elim
    | some k =>
      rw [e] at p1
      refine ⟨k, rfl, rfl, ?_⟩
      cases k with
      | true => rw [if_pos rfl]; exact ⟨φ1, env, S1, dy, s1, er1, ry1, p1⟩
      | false => rw [if_neg (by decide)]; exact p1.val s1 (.bl _)
  refine chain_link (thn (hc.run pins s σ H _ I q) fun u s1 ⟨y, H1, I1, r1, q1⟩ => thn (opr_cmp h hK hu pins s1 σ H1 x y v u _ I1 rx r1 q1) fun w s2 ⟨z, H2, I2, r2, k, ez, eH, q2⟩ => ?_)
  subst ez eH
  cases r2
  refine wpAny_truthy_bool ?_
  cases k with
  | true => rw [if_pos rfl] at q2 ⊢; exact hr pos pins s2 σ H2 Q y u I2 r1 q2
  | false => rw [if_neg (by decide)] at q2 ⊢; exact ⟨.bl false, H2, I2, rfl, q2⟩
theorem pct_last {o : COp} {op : CmpOp} (h : copB o op = true) (hK : X.K = g.K) (hu : X.A.units + 64 < cLine) (hc : PE X ec (rdE g W ix c)) : PCT X [op] [ec] (rdChT g W ix (.last o c)) := by
  intro pos pins s σ H Q x v I rx ⟨φ, env, S, d, sm, er, rd, p⟩
  unfold evCh at p
  have q := oneC (K := fun y H1 => r2B g (cmpD o) x y H1 fun z H2 => ∃ k, z = .bl k ∧ Q k H2) p sm er rd fun φ1 S1 H1 y dy s1 er1 rx1 ry1 p1 => ⟨φ1, S1, d, dy, s1, rx1, ry1, (PostB.of s1 p1).tru⟩
  exact test_last (thn (hc.run pins s σ H _ I q) fun u s1 ⟨y, H1, I1, r1, q1⟩ => thn (opr_cmp h hK hu pins s1 σ H1 x y v u _ I1 rx r1 q1) fun w s2 ⟨z, H2, I2, r2, k, ez, q2⟩ => by
    subst ez
    cases r2
    exact wpAny_truthy_bool ⟨H2, I2, q2⟩)
theorem pct_more {o : COp} {op op' : CmpOp} {ops : List CmpOp} {e' : Expr} {es : List Expr} {r : ICh} (h : copB o op = true) (hK : X.K = g.K) (hu : X.A.units + 64 < cLine) (hc : PE X ec (rdE g W ix c)) (hr : PCT X (op' :: ops) (e' :: es) (rdChT g W ix r)) :
    PCT X (op :: op' :: ops) (ec :: e' :: es) (rdChT g W ix (.more o c r)) := by
  intro pos pins s σ H Q x v I rx ⟨φ, env, S, d, sm, er, rd, p⟩
  unfold evCh at p
  have q := oneC (K := fun y H1 => r2B g (cmpD o) x y H1 fun z H2 => ∃ k, z = .bl k ∧ H2 = H1 ∧ if k = true then rdChT g W ix r y σ H1 Q else Q false H1) p sm er rd fun φ1 S1 H1 y dy s1 er1 rx1 ry1 p1 => by
    refine ⟨φ1, S1, d, dy, s1, rx1, ry1, ?_⟩
    cases e : cmpD o d dy S1 with
    | none => rw [e] at p1; exact p1.elim
    | some k =>
      rw [e] at p1
      refine ⟨k, rfl, rfl, ?_⟩
      cases k with
      | true => rw [if_pos rfl]; exact ⟨φ1, env, S1, dy, s1, er1, ry1, p1⟩
      | false =>
        rw [if_neg (by decide)]
        obtain ⟨k, ek, q⟩ := p1.val s1 (.bl false)
        have e' : k = false := ek
        subst e'
        exact q
  refine test_link (thn (hc.run pins s σ H _ I q) fun u s1 ⟨y, H1, I1, r1, q1⟩ => thn (opr_cmp h hK hu pins s1 σ H1 x y v u _ I1 rx r1 q1) fun w s2 ⟨z, H2, I2, r2, k, ez, eH, q2⟩ => ?_)
  subst ez eH
  cases r2
  refine wpAny_truthy_bool ?_
  cases k with
  | true => rw [if_pos rfl] at q2 ⊢; exact hr pos pins s2 σ H2 Q y u I2 r1 q2
  | false => rw [if_neg (by decide)] at q2 ⊢; exact ⟨H2, I2, q2⟩
theorem rE_chn {op op' : CmpOp} {ops : List CmpOp} {e e' : Expr} {es : List Expr} {r : ICh} (ha : PE X ea (rdE g W ix a)) (hr : PCV X (op :: op' :: ops) (e :: e' :: es) (rdCh g W ix r)) (hm : lastMarks (op :: op' :: ops) (e :: e' :: es) = false) :
    PE X (.Compare ea (op :: op' :: ops) (e :: e' :: es) pos) (rdE g W ix (.chn a r)) := by
  refine ⟨fun pins s σ H Q I ⟨φ, env, S, sm, er, p⟩ => ?_⟩
  unfold evE at p
  have q := one (K := fun x H1 => rdCh g W ix r x σ H1 Q) p sm er fun φ1 S1 H1 x dx s1 er1 rx1 p1 => ⟨φ1, env, S1, dx, s1, er1, rx1, p1⟩
  exact Compare_chain (thn (ha.run pins s σ H _ I q) fun v s1 ⟨x, H1, I1, r1, q1⟩ => hr pos pins s1 σ H1 Q x v I1 r1 q1) hm
theorem rT_chn {op op' : CmpOp} {ops : List CmpOp} {e e' : Expr} {es : List Expr} {r : ICh} (ha : PE X ea (rdE g W ix a)) (hr : PCT X (op :: op' :: ops) (e :: e' :: es) (rdChT g W ix r)) (hm : lastMarks (op :: op' :: ops) (e :: e' :: es) = false) :
    PT X (.Compare ea (op :: op' :: ops) (e :: e' :: es) pos) (rdT g W ix (.chn a r)) := by
  refine ⟨fun pins s σ H Q I ⟨φ, env, S, sm, er, p⟩ => ?_⟩
  have p := truP p
  unfold evE at p
  have q := one (K := fun x H1 => rdChT g W ix r x σ H1 Q) p sm er fun φ1 S1 H1 x dx s1 er1 rx1 p1 => ⟨φ1, env, S1, dx, s1, er1, rx1, p1⟩
  exact isTrue_chain (thn (ha.run pins s σ H _ I q) fun v s1 ⟨x, H1, I1, r1, q1⟩ => hr pos pins s1 σ H1 Q x v I1 r1 q1) hm

/-! ### lists of expressions, displays -/
theorem rA_nil : PA X [] (rdEs g W ix .nil) := PAimp pa_nil fun σ H Q ⟨φ, env, S, sm, er, p⟩ => by
  unfold evEs at p
  exact p.val sm .nil
theorem rA_cons {es : List Expr} {r : IEs} (ha : PE X ea (rdE g W ix a)) (hr : PA X es (rdEs g W ix r)) (hs : starEach (ea :: es) X.env = (false, eval ea X.env) :: starEach es X.env) : PA X (ea :: es) (rdEs g W ix (.cons a r)) :=
  PAimp (pa_cons ha hr hs) fun σ H Q ⟨φ, env, S, sm, er, p⟩ => by
    unfold evEs at p
    exact ⟨φ, env, S, sm, er, p.bnd fun φ1 S1 H1 x d _ k r p1 => ⟨φ1, env, S1, k.sim, er.good sm k, p1.bnd fun φ2 S2 H2 xs ds _ k2 r2 p2 => p2.val k2.sim (.cons (r.good k.sim k2) r2)⟩⟩
theorem args {es : IEs} {f : List D → Store → Option (R D)} {Q : VK} {K : List V → Hp → Prop} (p : Post g W φ H σ (VR g) (bnd (evEs ix es env S) f) Q) (sm : Sim g φ S H) (er : EnvR g φ H σ env)
    (h : ∀ φ1 S1 H1 xs ds, Sim g φ1 S1 H1 → EnvR g φ1 H1 σ env → VRs g φ1 H1 xs ds → Post g W φ1 H1 σ (VR g) (f ds S1) Q → K xs H1) : rdEs g W ix es σ H fun x H1 => K x H1 :=
  ⟨φ, env, S, sm, er, p.bnd fun φ1 S1 H1 x d _ k r p1 => h φ1 S1 H1 x d k.sim (er.good sm k) r p1⟩
theorem rE_tup {es : List Expr} {is : IEs} {k : Nat} (h : PA X es (rdEs g W ix is)) : PE X (.Tuple es k pos) (rdE g W ix (.tup is)) :=
  PEimp (pe_tup h) fun σ H Q ⟨φ, env, S, sm, er, p⟩ => by
    unfold evE at p
    exact args p sm er fun φ1 S1 H1 xs ds s1 er1 r1 p1 => by
      by_cases hl : ds.length ≤ line
      · rw [if_pos hl] at p1
        refine ⟨by rw [r1.length, ← line_eq]; exact hl, fun q hq => ?_⟩
        have k : Good g φ1 H1 φ1 S1 (upd H1 q (.tup xs)) := .made s1 hq
        exact p1.valG k (.tup upd_same (r1.good s1 k))
      · rw [if_neg hl] at p1; exact p1.elim
theorem rE_lst {es : List Expr} {is : IEs} (h : PA X es (rdEs g W ix is)) : PE X (.List es pos) (rdE g W ix (.lst is)) :=
  PEimp (pe_lst h) fun σ H Q ⟨φ, env, S, sm, er, p⟩ => by
    unfold evE at p
    exact args p sm er fun φ1 S1 H1 xs ds s1 er1 r1 p1 => by
      by_cases hl : ds.length ≤ line
      · rw [if_pos hl] at p1
        refine ⟨by rw [r1.length, ← line_eq]; exact hl, fun q hq => ?_⟩
        have k := Good.alloc (g := g) (φ := φ1) (S := S1) (ob := .lst ds) (o := .lst xs) s1 hq fun φ' pre kk => ⟨xs, upd_same, r1.mono kk pre⟩
        exact p1.valG k (.loc (Good.alloc_at s1))
      · rw [if_neg hl] at p1; exact p1.elim
end
end PL
set_option Elab.async false
set_option linter.all false
set_option maxRecDepth 100000
namespace PL
open PySem PySem.Spec PyProof.Rows L2

/-! ### what is known of the law's own globals -/
structure ClsOk (K : PySem.W.Frag) (C : Addr) (fs : List Str) : Prop where
  cl : Cls K C
  na : ∀ f ∈ fs, NoAttr K C f
  nd : fs.Nodup
  len : fs.length ≤ 100
  ha : PySem.W.findIn K (.ref C) "__class__" = some (some (.builtin "object.__class__"))
  hn : PySem.W.specialIn K (.builtin "object.__class__") "__get__" = some (some (.builtin "getset_descriptor.__get__"))
  htk : PySem.W.takesIn K (.builtin "object.__class__") = some true
  hm : PySem.W.mroIn K C (.type "object") = some true
/-- a type as a value -/
def tyV (g : G) : Ty → Option V
  | .int => some (.ty "int")
  | .bool => some (.ty "bool")
  | .tuple => some (.ty "tuple")
  | .str => some (.ty "str")
  | .cls c => (g.cls c).map fun p => .ref p.1
def tyU (g : G) : Ty → Option Value
  | .int => some (.type "int")
  | .bool => some (.type "bool")
  | .tuple => some (.type "tuple")
  | .str => some (.type "str")
  | .cls c => (g.cls c).map fun p => .ref p.1
/-- the type of a value of a kind, and whether it stands under t -/
def kinds (g : G) : List (Value × D) := [(.type "int", .int 0), (.type "bool", .bl true), (.type "str", .str ⟨#[]⟩), (.type "NoneType", .non), (.type "tuple", .tup [])]
structure Glo (g : G) (ix : Ix) (X : Cx) : Prop where
  K : X.K = g.K
  calm : X.calm = true
  nd : X.N.Nodup
  room : Room ix.room X.A
  cls : ∀ c C fs, g.cls c = some (C, fs) → ClsOk g.K C fs
  isa : ∀ t c S b, tyU g t = some c → ∀ p ∈ kinds g, isaD S t p.2 = some b → PySem.W.kitOne g.K p.1 c = some b
  isaC : ∀ t c k C fs, tyU g t = some c → g.cls k = some (C, fs) → PySem.W.kitOne g.K (.ref C) c = some (t == .cls k)
theorem Glo.hu {g : G} {ix : Ix} {X : Cx} (gl : Glo g ix X) : X.A.units + 64 < cLine := gl.room.units

section
variable {g : G} {φ φ' : List Addr} {H H' : Hp} {S S' : Store} {X : Cx} {W : WX} {σ : St} {ix : Ix} {a b c : IE} {ea eb ec : Expr} {pos : Pos} {env : Env}
/-! ### a[i] -/
theorem ixr (hK : X.K = g.K) (hu : X.A.units + 64 < cLine) : IxR X (r2 g idxD) := by
  intro value slice pins s σ H x y v u Q I rx ry ⟨φ, S, d, i, sm, rd, ri, p⟩ hs
  have dict : ∀ {n : Nat} {t : Bool} {l : List (D × D)}, d = .loc n → dictAt S n = some (t, l) → PostO g φ H (if keyOk t i then (findK l i).map fun d => (d, S) else none) Q → wpAny (model X.prog X.w) X.A (subscriptTail value slice v u) (EP X pins σ Q) X.xe s := fun {n t l} ed e pp => by
    clear p
    subst ed
    have p := pp
    clear pp
    by_cases hk : keyOk t i = true
    · rw [if_pos hk] at p
      obtain ⟨ad, had, f1, f2⟩ := sm.dget e hk ri
      have ex := rd.locAt had
      subst ex
      cases rx
      cases ef : findK l i with
      | none => rw [ef] at p; exact p.elim
      | some z =>
        rw [ef] at p
        obtain ⟨xv, hg, rv⟩ := f1 z ef
        have fin := d_getItem (A := X.A) (E := X.xe) (Q := EP X pins σ Q) (by omega) I hg ry fun w' s3 I3 rw' => ⟨xv, H, I3, rw', p φ H xv (.refl sm) rv⟩
        have hT := dict_typeIs I hg
        unfold subscriptTail
        refine wpAny_bind ?_
        rw [getitemInPython_of_ne hT.not_modules]
        refine wpAny_bind (wpAny_specialOf hT PySem.F.slot_dict_getitem.lookup ?_)
        have fin2 : wpAny (model X.prog X.w) X.A (subscripted slice false (.ref ad) u) (fun r s₃ => wpAny (model X.prog X.w) X.A (letTemporaryGo value (.ref ad) r >>= fun _ => pure r) (EP X pins σ Q) X.xe s₃) X.xe s := by
          rw [hs]
          exact wpAny_operating (wpAny_mono fin (fun r s₃ h₃ => wpAny_bind (wpAny_letTemporaryGo (wpAny_pure h₃))) fun _ _ x => x)
        first
          | exact wpAny_pure (wpAny_bind fin2)
          | exact wpAny_bind (wpAny_pure (wpAny_bind fin2))
          | exact wpAny_bind fin2
    · rw [if_neg hk] at p; exact p.elim
  cases rd with
  | tup e t =>
    rename_i aa xs ds
    cases ri with
    | int k =>
      unfold idxD at p
      dsimp only at p
      cases ef : atD ds k with
      | none => rw [ef] at p; exact p.elim
      | some z =>
        rw [ef] at p
        obtain ⟨xv, h1, h2⟩ := t.atI ef
        exact ix_tup value slice pins s σ H _ _ v u Q I rx ry ⟨aa, xs, k, xv, rfl, rfl, .of e, h1, p φ H xv (.refl sm) h2⟩ hs
    | _ => exact p.elim
  | str z =>
    cases ri with
    | int k =>
      unfold idxD at p
      dsimp only at p
      by_cases hl : z.length ≤ line
      · rw [if_pos hl] at p
        cases ef : L2.atI z.cps.toList k with
        | none => rw [ef] at p; exact p.elim
        | some ch =>
          rw [ef] at p
          exact ix_str value slice pins s σ H _ _ v u Q I rx ry ⟨z, k, ch, rfl, rfl, by rw [← line_eq]; exact hl, ef, p φ H _ (.refl sm) (.str _)⟩ hs
      · rw [if_neg hl] at p; exact p.elim
    | _ => exact p.elim
  | scr e =>
    rename_i aa ns
    cases ri with
    | int k =>
      unfold idxD at p
      dsimp only at p
      cases ef : L2.atI ns k with
      | none => rw [ef] at p; exact p.elim
      | some z =>
        rw [ef] at p
        have h1 : L2.atI (ns.map V.int) k = some (.int z) := by
          unfold L2.atI at ef ⊢
          rw [List.length_map]
          cases ej : ixN ns.length k with
          | none => rw [ej] at ef; cases ef
          | some j =>
            rw [ej] at ef
            rw [Option.bind_some, List.getElem?_map, show ns[j]? = some z from ef]; rfl
        exact ix_list value slice pins s σ H _ _ v u Q I rx ry ⟨aa, ns.map V.int, k, .int z, rfl, rfl, by rw [hK]; exact e.seq, h1, p φ H _ (.refl sm) (.int _)⟩ hs
    | _ => exact p.elim
  | loc e =>
    rename_i aa n
    unfold idxD at p
    dsimp only at p
    cases en : S[n]? with
    | none => rw [en] at p; exact p.elim
    | some o =>
      rw [en] at p
      cases o with
      | lst l =>
        cases ri with
        | int k =>
          dsimp only at p
          cases ef : atD l k with
          | none => rw [ef] at p; exact p.elim
          | some z =>
            rw [ef] at p
            obtain ⟨xs, h3, h4⟩ := sm.obj n aa _ e en
            obtain ⟨xv, h1, h2⟩ := h4.atI ef
            exact ix_list value slice pins s σ H _ _ v u Q I rx ry ⟨aa, xs, k, xv, rfl, rfl, .of h3, h1, p φ H xv (.refl sm) h2⟩ hs
        | _ => exact p.elim
      | dict t l => exact dict rfl (by unfold dictAt; rw [en]) (by cases ri <;> exact p)
      | lock t l => exact dict rfl (by unfold dictAt; rw [en]) (by cases ri <;> exact p)
  | _ => cases ri <;> exact p.elim
theorem rE_idx (hK : X.K = g.K) (hu : X.A.units + 64 < cLine) (hs : PlainIx eb) (ha : PE X ea (rdE g W ix a)) (hb : PE X eb (rdE g W ix b)) : PE X (.Subscript ea eb pos) (rdE g W ix (.idx a b)) :=
  PEimp (pe_ix (ixr hK hu) ha hb hs) fun σ H Q ⟨φ, env, S, sm, er, p⟩ => by
    unfold evE at p
    exact two p sm er fun φ2 S2 H2 x y dx dy s2 _ rx ry p2 => ⟨φ2, S2, dx, dy, s2, rx, ry, p2.ofO⟩

/-! ### a[lo:hi] -/
def rSl (g : G) : V → Option Int → Option Int → Hp → VK → Prop := fun x lo hi H Q => ∃ φ S d, Sim g φ S H ∧ VR g φ H x d ∧ PostO g φ H (slcD d lo hi S) Q
theorem slr (hK : X.K = g.K) : SlR X (rSl g) := by
  intro pins s σ H x v vl vu lo hi sl Q I rx hs pl pu ⟨φ, S, d, sm, rd, p⟩
  cases rd with
  | tup e t =>
    rename_i aa xs ds
    refine sl_tupA pins s σ H _ v vl vu lo hi sl Q I rx hs pl pu ⟨aa, xs, rfl, .of e, fun hw => ?_, fun _ q hq => ?_⟩
    · refine p φ H _ (.refl sm) (.tup e ?_)
      have ec : cutD ds lo hi = ds := by
        unfold cutD
        rw [t.length] at hw
        rw [hw.1, hw.2, List.drop_zero, Nat.sub_zero, List.take_length]
      rw [ec]; exact t
    · have k : Good g φ H φ S (upd H q (.tup (cutV xs lo hi))) := .made sm hq
      exact p φ _ _ k (.tup upd_same ((t.cut lo hi).good sm k))
  | loc e =>
    rename_i aa n
    unfold slcD at p
    dsimp only at p
    cases el : lstAt S n with
    | none => rw [el] at p; exact p.elim
    | some l =>
      rw [el] at p
      obtain ⟨xs, h3, h4⟩ := sm.obj n aa _ e (eq_lstAt el)
      refine sl_list pins s σ H _ v vl vu lo hi sl Q I rx hs pl pu ⟨aa, xs, rfl, .of h3, fun q hq => ?_⟩
      have k := Good.alloc (g := g) (φ := φ) (S := S) (ob := .lst (cutD l lo hi)) (o := .lst (cutV xs lo hi)) sm hq fun φ' pre kk => ⟨_, upd_same, (h4.cut lo hi).mono kk pre⟩
      exact p _ _ _ k (.loc (Good.alloc_at sm))
  | _ => exact p.elim
def rdO (g : G) (W : WX) (ix : Ix) (e : Option IE) : St → Hp → (Option Int → Hp → Prop) → Prop := fun σ H Q => Start g σ H fun φ env S => Post g W φ H σ oRel (evO ix e env S) Q
theorem rO_none : PO X none (rdO g W ix none) := ⟨fun pins s σ H Q I ⟨φ, env, S, sm, er, p⟩ => po_none.run pins s σ H Q I (by unfold evO at p; exact p.val sm rfl)⟩
theorem rO_some (ha : PE X ea (rdE g W ix a)) : PO X (some ea) (rdO g W ix (some a)) := ⟨fun pins s σ H Q I ⟨φ, env, S, sm, er, p⟩ => (po_some ha).run pins s σ H Q I (by
  unfold evO at p
  exact ⟨φ, env, S, sm, er, p.bnd fun φ1 S1 H1 x d _ k r p1 => by
    cases r with
    | int i => exact ⟨i, rfl, p1.val k.sim rfl⟩
    | _ => exact p1.elim⟩)⟩
theorem rE_slc {lo hi : Option Expr} {il ih : Option IE} {p2 : Pos} (hK : X.K = g.K) (ha : PE X ea (rdE g W ix a)) (hl : PO X lo (rdO g W ix il)) (hh : PO X hi (rdO g W ix ih)) : PE X (.Subscript ea (.Slice lo hi none p2) pos) (rdE g W ix (.slc a il ih)) :=
  PEimp (pe_slice (slr hK) ha hl hh) fun σ H Q ⟨φ, env, S, sm, er, p⟩ => by
    unfold evE at p
    exact ⟨φ, env, S, sm, er, p.bnd fun φ1 S1 H1 x d _ k1 r1 p1 => ⟨φ1, env, S1, k1.sim, er.good sm k1, p1.bnd (rel := oRel) fun φ2 S2 H2 l l' _ k2 r2 p2 => by
      cases r2
      exact ⟨φ2, env, S2, k2.sim, (er.good sm k1).good k1.sim k2, p2.bnd (rel := oRel) fun φ3 S3 H3 h h' _ k3 r3 p3 => by
        cases r3
        exact ⟨φ3, S3, d, k3.sim, (r1.good k1.sim k2).good k2.sim k3, p3.ofO⟩⟩⟩⟩

/-! ### x.f, isinstance -/
theorem lookup_zip {fs : List Str} {xs : List V} {f : Str} {k : Nat} {x : V} (nd : fs.Nodup) (hf : fs[k]? = some f) (hx : xs[k]? = some x) : (fs.zip xs).lookup f = some x := by
  induction fs generalizing xs k with
  | nil => simp at hf
  | cons h t ih =>
    cases xs with
    | nil => simp at hx
    | cons y ys =>
      cases k with
      | zero =>
        simp at hf hx
        subst hf hx
        simp
      | succ k =>
        have nd' := List.nodup_cons.mp nd
        have hne : (f == h) = false := by
          rw [beq_eq_false_iff_ne]
          rintro rfl
          exact nd'.1 (List.mem_of_getElem? (by simpa using hf))
        simp only [List.zip_cons_cons, List.lookup_cons, hne]
        exact ih nd'.2 (by simpa using hf) (by simpa using hx)
theorem rE_fld {cn k : Nat} {C : Addr} {fs : List Str} {f : Str} (hK : X.K = g.K) (hc : g.cls cn = some (C, fs)) (ok : ClsOk g.K C fs) (hf : fs[k]? = some f) (ha : PE X ea (rdE g W ix a)) (hb : attributeBase ea f X.env (eval ea X.env) = eval ea X.env) :
    PE X (.Attribute ea f pos) (rdE g W ix (.fld a cn k)) :=
  PEimp (pe_fld ha hb) fun σ H Q ⟨φ, env, S, sm, er, p⟩ => by
    unfold evE at p
    exact one p sm er fun φ1 S1 H1 x dx s1 er1 rx p1 => by
      cases rx with
      | obj e h l t =>
        rename_i aa C' dx' c' fs' xs ds
        dsimp only at p1
        by_cases hcc : c' = cn
        · subst hcc
          rw [if_pos rfl] at p1
          rw [hc] at e
          cases e
          cases ek : ds[k]? with
          | none => rw [ek] at p1; exact p1.elim
          | some d =>
            rw [ek] at p1
            obtain ⟨y, h1, h2⟩ := t.get ek
            exact ⟨aa, C, dx', _, y, rfl, h, by rw [hK]; exact ok.cl, by rw [hK]; exact ok.na f (List.mem_of_getElem? hf), lookup_zip ok.nd hf h1, p1.val s1 h2⟩
        · rw [if_neg hcc] at p1; exact p1.elim
      | _ => exact p1.elim
theorem cr_isa (gl : Glo g ix X) {t : Ty} {tv : V} (ht : tyV g t = some tv) : CallR X (.builtin "isinstance") (fun xs H Q => ∃ φ S x d, xs = [x, tv] ∧ Sim g φ S H ∧ VR g φ H x d ∧ PostB H (isaD S t d) Q) := by
  intro pins s σ H xs us Q I r ⟨φ, S, x, d, e, sm, rd, p⟩
  subst e
  obtain ⟨u, c, rfl, ru, rc⟩ := vals2 r
  have hc : tyU g t = some c := by
    cases t with
    | cls k =>
      unfold tyV at ht
      unfold tyU
      dsimp only at ht ⊢
      cases hk : g.cls k with
      | none => rw [hk] at ht; cases ht
      | some q => rw [hk] at ht; cases ht; cases rc; rfl
    | _ => cases ht; cases rc; rfl
  cases ei : isaD S t d with
  | none => rw [ei] at p; exact p.elim
  | some b =>
    rw [ei] at p
    have fin : ∀ {tt : Value}, TyOf X.K H x tt → PySem.W.kitOne X.K tt c = some b → wpAny (model X.prog X.w) X.A (call (.builtin "isinstance") [u, c]) (EP X pins σ Q) X.xe s := fun {tt} ty k =>
      isinst_ok I ru ty k fun tk => ⟨.bl b, H, I.tok _, rfl, p⟩
    cases rd with
    | non => exact fin .non (by rw [gl.K]; exact gl.isa t c S b hc (.type "NoneType", .non) (by unfold kinds; simp) ei)
    | bl k => exact fin (.bl k) (by rw [gl.K]; exact gl.isa t c S b hc (.type "bool", .bl true) (by unfold kinds; simp) ei)
    | int i => exact fin (.int i) (by rw [gl.K]; exact gl.isa t c S b hc (.type "int", .int 0) (by unfold kinds; simp) ei)
    | str z => exact fin (.str z) (by rw [gl.K]; exact gl.isa t c S b hc (.type "str", .str ⟨#[]⟩) (by unfold kinds; simp) ei)
    | tup e _ => exact fin (.tup e) (by rw [gl.K]; exact gl.isa t c S b hc (.type "tuple", .tup []) (by unfold kinds; simp) ei)
    | obj e h l _ =>
      cases ei
      have ok := gl.cls _ _ _ e
      rw [gl.K] at fin
      exact fin (.ins h ok.cl ok.ha ok.hn ok.htk ok.hm) (gl.isaC t c _ _ _ hc e)
    | loc _ => cases ei
    | scr _ => cases ei
theorem rE_isa {t : Ty} {tv : V} (gl : Glo g ix X) (ht : tyV g t = some tv) {p1 : Pos} {p2 : Expr} (hg : Gl X "isinstance") (hm : X.mg "isinstance" = none) (ha : PE X ea (rdE g W ix a)) (hb : PE X p2 (tC tv))
    (hs1 : starEach [ea, p2] X.env = [(false, eval ea X.env), (false, eval p2 X.env)]) : PE X (.Call (.Name "isinstance" p1) [ea, p2] [] pos) (rdE g W ix (.isa a t)) := by
  have hs2 : starEach [p2] X.env = [(false, eval p2 X.env)] := by
    cases ea <;> first | (simp only [starEach] at hs1; simp at hs1; done) | (simp only [starEach, List.cons.injEq, true_and] at hs1 ⊢; exact hs1) | (simp only [starEach] at hs1; exact (List.cons.inj hs1).2)
  refine PEimp (pe_callB (cr_isa gl ht) hg hm (by decide +kernel) (pa_cons ha (pa_cons hb pa_nil hs2) (by rw [hs1, hs2])) (he := by rw [hs1, hs2]) (hpl := by rw [hs2]; rfl)) fun σ H Q ⟨φ, env, S, sm, er, p⟩ => ?_
  unfold evE at p
  exact one p sm er fun φ1 S1 H1 x dx s1 er1 rx p1 => ⟨φ1, S1, x, dx, rfl, s1, rx, by
    cases e : isaD S1 t dx with
    | none => rw [e] at p1; exact p1.elim
    | some b => rw [e] at p1; exact p1.val s1 (.bl b)⟩
end
end PL
set_option Elab.async false
set_option linter.all false
set_option maxRecDepth 100000
namespace PL
open PySem PySem.Spec PyProof.Rows L2
section
variable {g : G} {φ φ' : List Addr} {H H' : Hp} {S S' : Store} {X : Cx} {W : WX} {σ : St} {ix : Ix} {a b c : IE} {ea eb ec : Expr} {pos : Pos} {env : Env}
def rBif (g : G) (f : Bif) : List V → Hp → VK → Prop := fun xs H Q => ∃ φ S ds, Sim g φ S H ∧ VRs g φ H xs ds ∧ PostO g φ H (bifD f ds S) Q

theorem VRs.inv1 {xs : List V} {d : D} (r : VRs g φ H xs [d]) : ∃ x, xs = [x] ∧ VR g φ H x d := by
  cases r with
  | cons h t => cases t; exact ⟨_, rfl, h⟩
theorem VRs.inv2 {xs : List V} {d e : D} (r : VRs g φ H xs [d, e]) : ∃ x y, xs = [x, y] ∧ VR g φ H x d ∧ VR g φ H y e := by
  cases r with
  | cons h t =>
    obtain ⟨y, rfl, r2⟩ := t.inv1
    exact ⟨_, y, rfl, h, r2⟩
theorem dict_len {t : Bool} {n : Nat} {l : List (D × D)} (sm : Sim g φ S H) (h : S[n]? = some (.dict false l) ∨ S[n]? = some (.lock false l)) : ∃ a m, φ[n]? = some a ∧ Rd H a (.dK m) ∧ DR g φ H kD m l := by
  rcases h with h | h
  · obtain ⟨a, ha, m, e, r⟩ := sm.get h
    exact ⟨a, m, ha, .inl e, r⟩
  · obtain ⟨a, ha, o, m, e, r⟩ := sm.get h
    exact ⟨a, m, ha, .inr ⟨o, e⟩, r⟩
theorem cr_lenD {n : Nat} {l : List (D × D)} {pins : List (Addr × Obj)} {s : Shared} {us : List Value} {x : V} {Q : VK} (I : Inv X pins σ H s) (r : Vals [x] us) (sm : Sim g φ S H) (rx : VR g φ H x (.loc n)) (h : S[n]? = some (.dict false l) ∨ S[n]? = some (.lock false l))
    (pp : PostO g φ H (some (.int l.length, S)) Q) : wpAny (model X.prog X.w) X.A (call (.builtin "len") us) (EP X pins σ Q) X.xe s := by
  obtain ⟨a, m, ha, e, rd⟩ := dict_len (t := false) sm h
  have ex := rx.locAt ha
  subst ex
  obtain ⟨u, rfl, ru⟩ := vals1 r
  cases ru
  refine d_len I e fun t s' I' => ⟨.int l.length, H, I', ?_, pp φ H _ (.refl sm) (.int _)⟩
  exact ⟨_, by rw [← Paired.length rd]⟩
theorem cr_len (hK : X.K = g.K) : CallR X (.builtin "len") (rBif g .len) := by
  intro pins s σ H xs us Q I r ⟨φ, S, ds, sm, rs, p⟩
  match ds, rs, p with
  | [], rs, p => exact p.elim
  | [.tup l], rs, p =>
    obtain ⟨x, rfl, rx⟩ := rs.inv1
    cases rx with
    | tup e t => exact call_len_seq pins s σ H _ us Q I r ⟨_, _, rfl, .inr (.of e), by rw [t.length]; exact p φ H _ (.refl sm) (.int _)⟩
  | [.scr l], rs, p =>
    obtain ⟨x, rfl, rx⟩ := rs.inv1
    cases rx with
    | scr e => exact call_len_seq pins s σ H _ us Q I r ⟨_, _, rfl, .inl (by rw [hK]; exact e.seq), by rw [List.length_map]; exact p φ H _ (.refl sm) (.int _)⟩
  | [.str z], rs, p =>
    obtain ⟨x, rfl, rx⟩ := rs.inv1
    cases rx
    unfold bifD at p
    dsimp only at p
    by_cases hl : z.length ≤ line
    · rw [if_pos hl] at p
      exact call_len_str pins s σ H _ us Q I r ⟨z, rfl, by rw [← line_eq]; exact hl, p φ H _ (.refl sm) (.int _)⟩
    · rw [if_neg hl] at p; exact p.elim
  | [.loc n], rs, p =>
    unfold bifD at p
    dsimp only at p
    cases e : S[n]? with
    | none => rw [e] at p; exact p.elim
    | some o =>
      rw [e] at p
      obtain ⟨x, rfl, rx⟩ := rs.inv1
      cases o with
      | lst l =>
        obtain ⟨ad, xs', ha, h1, h2⟩ := sm.lst (lstAt_eq e)
        have ex := rx.locAt ha
        subst ex
        exact call_len_seq pins s σ H _ us Q I r ⟨_, _, rfl, .inl (.of h1), by rw [h2.length]; exact p φ H _ (.refl sm) (.int _)⟩
      | dict t l =>
        cases t with
        | false => exact cr_lenD I r sm rx (.inl e) p
        | true => exact p.elim
      | lock t l =>
        cases t with
        | false => exact cr_lenD I r sm rx (.inr e) p
        | true => exact p.elim
  | [.non], rs, p => exact p.elim
  | [.bl _], rs, p => exact p.elim
  | [.int _], rs, p => exact p.elim
  | [.obj _ _], rs, p => exact p.elim
  | d :: _ :: _, rs, p => cases d <;> exact p.elim
theorem cr_int : CallR X (.type "int") (rBif g .int) := by
  intro pins s σ H xs us Q I r ⟨φ, S, ds, sm, rs, p⟩
  match ds, rs, p with
  | [], rs, p => exact p.elim
  | [.int i], rs, p =>
    obtain ⟨x, rfl, rx⟩ := rs.inv1
    cases rx
    exact call_int1 pins s σ H _ us Q I r (.inl ⟨i, rfl, p φ H _ (.refl sm) (.int _)⟩)
  | [.bl k], rs, p =>
    obtain ⟨x, rfl, rx⟩ := rs.inv1
    cases rx
    exact call_int1 pins s σ H _ us Q I r (.inr ⟨k, rfl, p φ H _ (.refl sm) (.int _)⟩)
  | [.non], rs, p => exact p.elim
  | [.str _], rs, p => exact p.elim
  | [.tup _], rs, p => exact p.elim
  | [.loc _], rs, p => exact p.elim
  | [.obj _ _], rs, p => exact p.elim
  | d :: _ :: _, rs, p => cases d <;> exact p.elim
/-- the items by which data is told apart -/
theorem py_inj : ∀ d e : D, d.plain = true → e.plain = true → d.py = e.py → d = e
  | .non, .non, _, _, _ => rfl
  | .bl a, .bl b, _, _, h => by simp [D.py] at h; rw [h]
  | .int a, .int b, _, _, h => by simp [D.py] at h; rw [h]
  | .str a, .str b, _, _, h => by simp [D.py] at h; rw [h]
  | .tup l, .tup m, hl, hm, h => by
    simp only [D.py, PyData.tuple.injEq] at h
    rw [pys_inj l m (by simpa [D.plain] using hl) (by simpa [D.plain] using hm) h]
  | .obj _ _, _, h, _, _ => by simp [D.plain] at h
  | .loc _, _, h, _, _ => by simp [D.plain] at h
  | _, .obj _ _, _, h, _ => by simp [D.plain] at h
  | _, .loc _, _, h, _ => by simp [D.plain] at h
  | .non, .bl _, _, _, h => by simp [D.py] at h
  | .non, .int _, _, _, h => by simp [D.py] at h
  | .non, .str _, _, _, h => by simp [D.py] at h
  | .non, .tup _, _, _, h => by simp [D.py] at h
  | .bl _, .non, _, _, h => by simp [D.py] at h
  | .bl _, .int _, _, _, h => by simp [D.py] at h
  | .bl _, .str _, _, _, h => by simp [D.py] at h
  | .bl _, .tup _, _, _, h => by simp [D.py] at h
  | .int _, .non, _, _, h => by simp [D.py] at h
  | .int _, .bl _, _, _, h => by simp [D.py] at h
  | .int _, .str _, _, _, h => by simp [D.py] at h
  | .int _, .tup _, _, _, h => by simp [D.py] at h
  | .str _, .non, _, _, h => by simp [D.py] at h
  | .str _, .bl _, _, _, h => by simp [D.py] at h
  | .str _, .int _, _, _, h => by simp [D.py] at h
  | .str _, .tup _, _, _, h => by simp [D.py] at h
  | .tup _, .non, _, _, h => by simp [D.py] at h
  | .tup _, .bl _, _, _, h => by simp [D.py] at h
  | .tup _, .int _, _, _, h => by simp [D.py] at h
  | .tup _, .str _, _, _, h => by simp [D.py] at h
where
  pys_inj : ∀ l m : List D, D.plains l = true → D.plains m = true → D.pys l = D.pys m → l = m
  | [], [], _, _, _ => rfl
  | [], _ :: _, _, _, h => by simp [D.pys] at h
  | _ :: _, [], _, _, h => by simp [D.pys] at h
  | d :: l, e :: m, hl, hm, h => by
    simp only [D.plains, Bool.and_eq_true] at hl hm
    simp only [D.pys, List.cons.injEq] at h
    rw [py_inj d e hl.1 hm.1 h.1, pys_inj l m hl.2 hm.2 h.2]
theorem fold_py (f : PyData → PyData → Bool) : ∀ (l : List D) (x : D), (l.foldl (fun a y => if f y.py a.py then y else a) x).py = (D.pys l).foldl (fun a y => if f y a = true then y else a) x.py
  | [], _ => rfl
  | d :: r, x => by
    simp only [List.foldl_cons, D.pys]
    rw [fold_py f r]
    congr 1
    split <;> rfl
theorem fold_mem (f : D → D → Bool) : ∀ (l : List D) (x : D), (l.foldl (fun a y => if f y a then y else a) x) ∈ x :: l
  | [], x => by simp
  | d :: r, x => by
    simp only [List.foldl_cons]
    have := fold_mem f r (if f d x then d else x)
    rcases List.mem_cons.mp this with e | e
    · rw [e]; split <;> simp
    · exact List.mem_cons_of_mem _ (List.mem_cons_of_mem _ e)
theorem least_py (x : D) (l : List D) : (leastD x l).py = PySem.W.minD x.py (D.pys l) := by
  unfold leastD
  rw [fold_py fun y a => PySem.W.dataLt y a]
  rfl
theorem most_py (x : D) (l : List D) : (mostD x l).py = PySem.W.maxD x.py (D.pys l) := by
  unfold mostD
  rw [fold_py fun y a => PySem.W.dataLt a y]
  rfl
theorem plain_reads_inj {h : Heap} {u : Value} {d e : D} {as bs : List Addr} (hd : d.plain = true) (he : e.plain = true) (r : Reads h u d.py as) (r' : Reads h u e.py bs) : d = e :=
  py_inj d e hd he (SeqAt.plain_unique d.py e.py u as bs (d.plain_py hd) r r')
/-- of a list the least or the greatest -/
theorem bestOf (hK : X.K = g.K) {pins : List (Addr × Obj)} {s : Shared} {ad : Addr} {xs : List V} {x : D} {l : List D} {z : D} {Q : VK} (I : Inv X pins σ H s) (sm : Sim g φ S H) (e : H ad = some (.lst xs)) (rs : VRs g φ H xs (x :: l)) (hp : D.plains (x :: l) = true) (hz : z ∈ x :: l)
    (p : PostO g φ H (some (z, S)) Q) {its : List Value} (rv : Vals xs its) {i : Nat} {v : Value} {h' : Heap} {tk : Nat} {bs : List Addr} (hv : its[i]? = some v) (rr : Reads h' v z.py bs) (k : ∀ b o, s.heap.get? b = some o → h'.get? b = some o) : EP X pins σ Q v { s with heap := h', toks := tk } := by
  have hpl := D.plains_iff.mp hp
  obtain ⟨xv, hx, rx⟩ : ∃ xv, xs[i]? = some xv ∧ RelV xv v := by
    have hl := rv.length
    have hi : i < xs.length := by rw [hl]; exact (List.getElem?_eq_some_iff.mp hv).1
    obtain ⟨u, hu, ru⟩ := rv.get (List.getElem?_eq_getElem hi)
    rw [hv] at hu; cases hu
    exact ⟨_, List.getElem?_eq_getElem hi, ru⟩
  obtain ⟨d, hd, rd⟩ := rs.get' hx
  have hdp := hpl d (List.mem_of_getElem? hd)
  have I' : Inv X pins σ H { s with heap := h', toks := tk } := I.kept (t' := tk) k
  obtain ⟨as, r1⟩ := pl_reads hK I' rd hdp rx
  have ed : d = z := plain_reads_inj hdp (hpl z hz) r1 rr
  subst ed
  exact ⟨xv, H, I', rx, p φ H xv (.refl sm) rd⟩
theorem readsAll_lst (hK : X.K = g.K) {pins : List (Addr × Obj)} {s : Shared} {xs : List V} {l : List D} {its : List Value} (I : Inv X pins σ H s) (rs : VRs g φ H xs l) (hp : D.plains l = true) (rv : Vals xs its) : ∃ as, ReadsAll s.heap its (D.pys l) as :=
  Dp.readsAll I (D.pys l) xs its (by rw [hK]; exact rs.dp hp) rv
theorem units_big {u n : Nat} (hu : u + 64 < cLine) (h : n ≤ bigEnough) : u + 1 + n < cLine := by
  have e : bigEnough = 60 := rfl
  omega
theorem cr_min (hK : X.K = g.K) (hc : X.calm = true) (hu : X.A.units + 64 < cLine) : CallR X (.builtin "min") (rBif g .min) := by
  intro pins s σ H xs us Q I r ⟨φ, S, ds, sm, rs, p⟩
  match ds, rs, p with
  | [.int i, .int j], rs, p =>
    obtain ⟨x, y, rfl, rx, ry⟩ := rs.inv2
    cases rx; cases ry
    exact call_min2 hc pins s σ H _ us Q I r ⟨i, j, rfl, p φ H _ (.refl sm) (.int _)⟩
  | [.loc n], rs, p =>
    unfold bifD at p
    dsimp only at p
    cases e : lstAt S n with
    | none => rw [e] at p; exact p.elim
    | some l =>
      rw [e] at p
      cases l with
      | nil => exact p.elim
      | cons x l =>
        dsimp only at p
        by_cases ho : leastOk (x :: l)
        · rw [if_pos ho] at p
          obtain ⟨h1, h2, h3⟩ := ho
          obtain ⟨xv, rfl, rx⟩ := rs.inv1
          obtain ⟨ad, xs', ha, g1, g2⟩ := sm.lst e
          have ex := rx.locAt ha
          subst ex
          obtain ⟨u, rfl, ru⟩ := vals1 r
          cases ru
          obtain ⟨its, rv, pl, _⟩ := I.list (.of g1)
          obtain ⟨as, ra⟩ := readsAll_lst hK I g2 h1 rv
          exact PySem.W.min_list_data (I.ok.hd hc) pl.isList (by simpa [D.pys] using ra) (by simpa [D.pys] using h2) (units_big hu (by simpa [D.pys] using h3)) fun i v h' tk bs hv rr k =>
            bestOf (z := leastD x l) hK I sm g1 g2 h1 (fold_mem (fun y a => PySem.W.dataLt y.py a.py) l x) p rv (by simpa using hv) (by rw [least_py]; exact rr) k
        · rw [if_neg ho] at p; exact p.elim
  | [], rs, p => exact p.elim
  | [.int _], rs, p => exact p.elim
  | [.non], rs, p => exact p.elim
  | [.bl _], rs, p => exact p.elim
  | [.str _], rs, p => exact p.elim
  | [.tup _], rs, p => exact p.elim
  | [.obj _ _], rs, p => exact p.elim
  | .non :: _ :: _, rs, p => exact p.elim
  | .bl _ :: _ :: _, rs, p => exact p.elim
  | .str _ :: _ :: _, rs, p => exact p.elim
  | .tup _ :: _ :: _, rs, p => exact p.elim
  | .obj _ _ :: _ :: _, rs, p => exact p.elim
  | .loc _ :: _ :: _, rs, p => exact p.elim
  | .int _ :: .non :: _, rs, p => exact p.elim
  | .int _ :: .bl _ :: _, rs, p => exact p.elim
  | .int _ :: .str _ :: _, rs, p => exact p.elim
  | .int _ :: .tup _ :: _, rs, p => exact p.elim
  | .int _ :: .obj _ _ :: _, rs, p => exact p.elim
  | .int _ :: .loc _ :: _, rs, p => exact p.elim
  | .int _ :: .int _ :: _ :: _, rs, p => exact p.elim
theorem cr_max (hK : X.K = g.K) (hc : X.calm = true) (hu : X.A.units + 64 < cLine) : CallR X (.builtin "max") (rBif g .max) := by
  intro pins s σ H xs us Q I r ⟨φ, S, ds, sm, rs, p⟩
  match ds, rs, p with
  | [.int i, .int j], rs, p =>
    obtain ⟨x, y, rfl, rx, ry⟩ := rs.inv2
    cases rx; cases ry
    exact call_max2 hc pins s σ H _ us Q I r ⟨i, j, rfl, p φ H _ (.refl sm) (.int _)⟩
  | [.loc n], rs, p =>
    unfold bifD at p
    dsimp only at p
    cases e : lstAt S n with
    | none => rw [e] at p; exact p.elim
    | some l =>
      rw [e] at p
      cases l with
      | nil => exact p.elim
      | cons x l =>
        dsimp only at p
        by_cases ho : leastOk (x :: l)
        · rw [if_pos ho] at p
          obtain ⟨h1, h2, h3⟩ := ho
          obtain ⟨xv, rfl, rx⟩ := rs.inv1
          obtain ⟨ad, xs', ha, g1, g2⟩ := sm.lst e
          have ex := rx.locAt ha
          subst ex
          obtain ⟨u, rfl, ru⟩ := vals1 r
          cases ru
          obtain ⟨its, rv, pl, _⟩ := I.list (.of g1)
          obtain ⟨as, ra⟩ := readsAll_lst hK I g2 h1 rv
          exact PySem.W.max_list_data (I.ok.hd hc) pl.isList (by simpa [D.pys] using ra) (by simpa [D.pys] using h2) (units_big hu (by simpa [D.pys] using h3)) fun i v h' tk bs hv rr k =>
            bestOf (z := mostD x l) hK I sm g1 g2 h1 (fold_mem (fun y a => PySem.W.dataLt a.py y.py) l x) p rv (by simpa using hv) (by rw [most_py]; exact rr) k
        · rw [if_neg ho] at p; exact p.elim
  | [], rs, p => exact p.elim
  | [.int _], rs, p => exact p.elim
  | [.non], rs, p => exact p.elim
  | [.bl _], rs, p => exact p.elim
  | [.str _], rs, p => exact p.elim
  | [.tup _], rs, p => exact p.elim
  | [.obj _ _], rs, p => exact p.elim
  | .non :: _ :: _, rs, p => exact p.elim
  | .bl _ :: _ :: _, rs, p => exact p.elim
  | .str _ :: _ :: _, rs, p => exact p.elim
  | .tup _ :: _ :: _, rs, p => exact p.elim
  | .obj _ _ :: _ :: _, rs, p => exact p.elim
  | .loc _ :: _ :: _, rs, p => exact p.elim
  | .int _ :: .non :: _, rs, p => exact p.elim
  | .int _ :: .bl _ :: _, rs, p => exact p.elim
  | .int _ :: .str _ :: _, rs, p => exact p.elim
  | .int _ :: .tup _ :: _, rs, p => exact p.elim
  | .int _ :: .obj _ _ :: _, rs, p => exact p.elim
  | .int _ :: .loc _ :: _, rs, p => exact p.elim
  | .int _ :: .int _ :: _ :: _, rs, p => exact p.elim

theorem intsOf_vals : ∀ {xs : List V} {l : List D} {ns : List Int}, VRs g φ H xs l → intsOf l = some ns → xs = ns.map V.int
  | _, _, _, .nil, h => by cases h; rfl
  | _, .int i :: r, ns, .cons h t, e => by
    cases h
    obtain ⟨ms, e2, rfl⟩ := Option.map_eq_some_iff.mp (show (intsOf r).map (i :: ·) = some ns from e)
    rw [intsOf_vals t e2]; rfl
  | _, .non :: _, _, .cons _ _, e => by cases e
  | _, .bl _ :: _, _, .cons _ _, e => by cases e
  | _, .str _ :: _, _, .cons _ _, e => by cases e
  | _, .tup _ :: _, _, .cons _ _, e => by cases e
  | _, .obj _ _ :: _, _, .cons _ _, e => by cases e
  | _, .loc _ :: _, _, .cons _ _, e => by cases e
theorem bls_vals : ∀ {xs : List V} {l : List D} {bs : List Bool}, VRs g φ H xs l → bls l = some bs → xs = bs.map V.bl
  | _, _, _, .nil, h => by cases h; rfl
  | _, .bl i :: r, ns, .cons h t, e => by
    cases h
    obtain ⟨ms, e2, rfl⟩ := Option.map_eq_some_iff.mp (show (bls r).map (i :: ·) = some ns from e)
    rw [bls_vals t e2]; rfl
  | _, .non :: _, _, .cons _ _, e => by cases e
  | _, .int _ :: _, _, .cons _ _, e => by cases e
  | _, .str _ :: _, _, .cons _ _, e => by cases e
  | _, .tup _ :: _, _, .cons _ _, e => by cases e
  | _, .obj _ _ :: _, _, .cons _ _, e => by cases e
  | _, .loc _ :: _, _, .cons _ _, e => by cases e
/-- one argument, a list's place -/
theorem loc1 {ds : List D} {f : Bif} {xs : List V} {Q : VK} (rs : VRs g φ H xs ds) (sm : Sim g φ S H) (p : PostO g φ H (bifD f ds S) Q) (hf : f = .sum ∨ f = .all ∨ f = .any) : ∃ n l ad xs', ds = [.loc n] ∧ lstAt S n = some l ∧ xs = [.ref ad] ∧ H ad = some (.lst xs') ∧ VRs g φ H xs' l := by
  have one : ∃ n l, ds = [.loc n] ∧ lstAt S n = some l := by
    rcases hf with rfl | rfl | rfl <;>
    · match ds, p with
      | [], p => exact p.elim
      | [.loc n], p =>
        unfold bifD at p
        dsimp only at p
        cases e : lstAt S n with
        | none => rw [e] at p; exact p.elim
        | some l => exact ⟨n, l, rfl, e⟩
      | [.non], p => exact p.elim
      | [.bl _], p => exact p.elim
      | [.int _], p => exact p.elim
      | [.str _], p => exact p.elim
      | [.tup _], p => exact p.elim
      | [.obj _ _], p => exact p.elim
      | d :: _ :: _, p => cases d <;> exact p.elim
  obtain ⟨n, l, rfl, e⟩ := one
  obtain ⟨x, rfl, rx⟩ := rs.inv1
  obtain ⟨ad, xs', ha, g1, g2⟩ := sm.lst e
  have ex := rx.locAt ha
  subst ex
  exact ⟨n, l, ad, xs', rfl, e, rfl, g1, g2⟩
theorem cr_sum' (hc : X.calm = true) : CallR X (.builtin "sum") (rBif g .sum) := by
  intro pins s σ H xs us Q I r ⟨φ, S, ds, sm, rs, p⟩
  obtain ⟨n, l, ad, xs', rfl, e, rfl, g1, g2⟩ := loc1 rs sm p (.inl rfl)
  unfold bifD at p
  dsimp only at p
  rw [e] at p
  cases ei : intsOf l with
  | none => rw [show ((some l).bind intsOf) = none from ei] at p; exact p.elim
  | some ns =>
    rw [show ((some l).bind intsOf) = some ns from ei] at p
    have ev := intsOf_vals g2 ei
    subst ev
    exact cr_sum hc pins s σ H _ us Q I r ⟨ad, ns, rfl, .of g1, p φ H _ (.refl sm) (.int _)⟩
theorem cr_all' (hc : X.calm = true) : CallR X (.builtin "all") (rBif g .all) := by
  intro pins s σ H xs us Q I r ⟨φ, S, ds, sm, rs, p⟩
  obtain ⟨n, l, ad, xs', rfl, e, rfl, g1, g2⟩ := loc1 rs sm p (.inr (.inl rfl))
  unfold bifD at p
  dsimp only at p
  rw [e] at p
  cases ei : bls l with
  | none => rw [show ((some l).bind bls) = none from ei] at p; exact p.elim
  | some ns =>
    rw [show ((some l).bind bls) = some ns from ei] at p
    have ev := bls_vals g2 ei
    subst ev
    exact cr_all hc pins s σ H _ us Q I r ⟨ad, ns, rfl, .of g1, p φ H _ (.refl sm) (.bl _)⟩
theorem cr_any' (hc : X.calm = true) : CallR X (.builtin "any") (rBif g .any) := by
  intro pins s σ H xs us Q I r ⟨φ, S, ds, sm, rs, p⟩
  obtain ⟨n, l, ad, xs', rfl, e, rfl, g1, g2⟩ := loc1 rs sm p (.inr (.inr rfl))
  unfold bifD at p
  dsimp only at p
  rw [e] at p
  cases ei : bls l with
  | none => rw [show ((some l).bind bls) = none from ei] at p; exact p.elim
  | some ns =>
    rw [show ((some l).bind bls) = some ns from ei] at p
    have ev := bls_vals g2 ei
    subst ev
    exact cr_any hc pins s σ H _ us Q I r ⟨ad, ns, rfl, .of g1, p φ H _ (.refl sm) (.bl _)⟩
theorem cr_tuple : CallR X (.type "tuple") (rBif g .tuple) := by
  intro pins s σ H xs us Q I r ⟨φ, S, ds, sm, rs, p⟩
  match ds, rs, p with
  | [.tup l], rs, p =>
    obtain ⟨x, rfl, rx⟩ := rs.inv1
    cases rx with
    | tup e t => exact call_tuple_of pins s σ H _ us Q I r ⟨_, _, rfl, .inr ⟨.of e, p φ H _ (.refl sm) (.tup e t)⟩⟩
  | [.loc n], rs, p =>
    unfold bifD at p
    dsimp only at p
    cases e : lstAt S n with
    | none => rw [e] at p; exact p.elim
    | some l =>
      rw [e] at p
      obtain ⟨x, rfl, rx⟩ := rs.inv1
      obtain ⟨ad, xs', ha, g1, g2⟩ := sm.lst e
      have ex := rx.locAt ha
      subst ex
      refine call_tuple_of pins s σ H _ us Q I r ⟨_, _, rfl, .inl ⟨.of g1, fun q hq => ?_⟩⟩
      have k : Good g φ H φ S (upd H q (.tup xs')) := .made sm hq
      exact p φ _ _ k (.tup upd_same (g2.good sm k))
  | [], rs, p => exact p.elim
  | [.non], rs, p => exact p.elim
  | [.bl _], rs, p => exact p.elim
  | [.int _], rs, p => exact p.elim
  | [.str _], rs, p => exact p.elim
  | [.obj _ _], rs, p => exact p.elim
  | d :: _ :: _, rs, p => cases d <;> exact p.elim
theorem cr_list : CallR X (.type "list") (rBif g .list) := by
  intro pins s σ H xs us Q I r ⟨φ, S, ds, sm, rs, p⟩
  match ds, rs, p with
  | [.tup l], rs, p =>
    obtain ⟨x, rfl, rx⟩ := rs.inv1
    cases rx with
    | tup e t =>
      rename_i a' xs' _
      refine call_list_of pins s σ H _ us Q I r ⟨_, _, rfl, .inr (.of e), fun q hq => ?_⟩
      have k := Good.alloc (g := g) (φ := φ) (S := S) (ob := .lst l) (o := .lst xs') sm hq fun φ' pre kk => ⟨_, upd_same, t.mono kk pre⟩
      exact p _ _ _ k (.loc (Good.alloc_at sm))
  | [.loc n], rs, p =>
    unfold bifD at p
    dsimp only at p
    cases e : lstAt S n with
    | none => rw [e] at p; exact p.elim
    | some l =>
      rw [e] at p
      obtain ⟨x, rfl, rx⟩ := rs.inv1
      obtain ⟨ad, xs', ha, g1, g2⟩ := sm.lst e
      have ex := rx.locAt ha
      subst ex
      refine call_list_of pins s σ H _ us Q I r ⟨_, _, rfl, .inl (.of g1), fun q hq => ?_⟩
      have k := Good.alloc (g := g) (φ := φ) (S := S) (ob := .lst l) (o := .lst xs') sm hq fun φ' pre kk => ⟨_, upd_same, g2.mono kk pre⟩
      exact p _ _ _ k (.loc (Good.alloc_at sm))
  | [], rs, p => exact p.elim
  | [.non], rs, p => exact p.elim
  | [.bl _], rs, p => exact p.elim
  | [.int _], rs, p => exact p.elim
  | [.str _], rs, p => exact p.elim
  | [.obj _ _], rs, p => exact p.elim
  | d :: _ :: _, rs, p => cases d <;> exact p.elim
/-! ### sorted -/
theorem ints_vrs : ∀ ns : List Int, VRs g φ H (ns.map V.int) (ns.map D.int)
  | [] => .nil
  | _ :: r => .cons (.int _) (ints_vrs r)
theorem each_plain (hK : X.K = g.K) {pins : List (Addr × Obj)} {s : Shared} (I : Inv X pins σ H s) : ∀ {its : List Value} {l : List D}, (∀ d ∈ l, d.plain = true) → PySem.W.EachIs (fun v d => ∃ x, RelV x v ∧ VR g φ H x d) its l → PySem.W.EachIs (fun v d => ∃ as, Reads s.heap v d.py as) its l
  | _, _, _, .nil => .nil
  | _, _, h, .cons ⟨x, r, v⟩ t => .cons (pl_reads hK I v (h _ List.mem_cons_self) r) (each_plain hK I (fun d hd => h d (List.mem_cons_of_mem _ hd)) t)
theorem each_of {xs : List V} {l : List D} {its : List Value} : VRs g φ H xs l → Vals xs its → PySem.W.EachIs (fun v d => ∃ x, RelV x v ∧ VR g φ H x d) its l
  | .nil, .nil => .nil
  | .cons h t, .cons r rt => .cons ⟨_, r, h⟩ (each_of t rt)
theorem each_back : ∀ {its : List Value} {l : List D}, PySem.W.EachIs (fun v d => ∃ x, RelV x v ∧ VR g φ H x d) its l → ∃ xs, Vals xs its ∧ VRs g φ H xs l
  | _, _, .nil => ⟨[], .nil, .nil⟩
  | _, _, .cons ⟨x, r, h⟩ t => by
    obtain ⟨xs, r2, h2⟩ := each_back t
    exact ⟨x :: xs, .cons r r2, .cons h h2⟩
theorem depthAll_mem : ∀ {l : List D} {d : D}, d ∈ l → d.py.depth ≤ PyData.depthAll (D.pys l)
  | e :: r, d, h => by
    simp only [D.pys, PyData.depthAll]
    rcases List.mem_cons.mp h with rfl | h
    · exact Nat.le_max_left _ _
    · exact Nat.le_trans (depthAll_mem h) (Nat.le_max_right _ _)
theorem sortD_ints (ns ms : List Int) (hp : ms.Perm ns) (hs : ms.Pairwise (· ≤ ·)) : sortD (ns.map D.int) = ms.map D.int := by
  have le : ∀ a b : Int, PySem.W.dataLe false D.py (.int a) (.int b) = decide (a ≤ b) := fun a b => by
    rw [PySem.W.dataLe_eq]
    show (!PySem.W.dataLt (.int b) (.int a)) = _
    rw [PySem.W.dataLt_int]
    by_cases h : a ≤ b
    · rw [decide_eq_true h, decide_eq_false (by omega)]; rfl
    · rw [decide_eq_false h, decide_eq_true (by omega)]; rfl
  have e1 : sortD (ns.map D.int) = (ns.mergeSort fun a b => decide (a ≤ b)).map D.int := by
    unfold sortD
    rw [List.map_mergeSort]
    intro a _ b _
    exact (le a b).symm
  rw [e1]
  congr 1
  have p2 : (ns.mergeSort fun a b => decide (a ≤ b)).Perm ms := (List.mergeSort_perm _ _).trans hp.symm
  have s2 : (ns.mergeSort fun a b => decide (a ≤ b)).Pairwise (· ≤ ·) := by
    have := List.pairwise_mergeSort (le := fun (a b : Int) => decide (a ≤ b)) (fun a b c h1 h2 => by simp at *; omega) (fun a b => by simp; omega) ns
    exact this.imp fun h => by simpa using h
  exact p2.eq_of_pairwise (fun a b _ _ h1 h2 => Int.le_antisymm h1 h2) s2 hs
theorem cr_sortedL (hK : X.K = g.K) (hu : X.A.units + 64 < cLine) (hc : X.calm = true) : CallR X (.builtin "sorted") (rBif g .sorted) := by
  intro pins s σ H xs us Q I r ⟨φ, S, ds, sm, rs, p⟩
  match ds, rs, p with
  | [.loc n], rs, p =>
    unfold bifD at p
    dsimp only at p
    cases e : lstAt S n with
    | none =>
      rw [e] at p
      dsimp only at p
      cases en : S[n]? with
      | none => rw [en] at p; exact p.elim
      | some o =>
        rw [en] at p
        cases o with
        | lst _ => exact p.elim
        | lock t _ => exact p.elim
        | dict t l =>
          cases t with
          | true => exact p.elim
          | false =>
            dsimp only at p
            by_cases ho : sortKeysOk l
            · rw [if_pos ho] at p
              obtain ⟨ks, h1, h2⟩ := ho
              obtain ⟨x, rfl, rx⟩ := rs.inv1
              obtain ⟨ad, ha, m, g1, g2⟩ := sm.get en
              have ex := rx.locAt ha
              subst ex
              have hkeys : m.map (·.1) = ks.map Sum.inl := by
                clear p en ha g1 rx rs r
                induction g2 generalizing ks with
                | nil =>
                  cases ks with
                  | nil => rfl
                  | cons _ _ => cases h1
                | @cons p q ps qs hq t ih =>
                  cases ks with
                  | nil => cases h1
                  | cons k ks =>
                    simp only [List.map_cons, List.cons.injEq] at h1 ⊢
                    refine ⟨?_, ih ks h1.2 (by simp only [List.length_cons] at h2; omega)⟩
                    have := hq.1
                    rw [h1.1] at this
                    exact (Option.some.inj this).symm
              refine call_sortedDI hc pins s σ H _ us Q I r ⟨ad, m, ks, rfl, .inl g1, hkeys, h2, fun ys q hp hs hq => ?_⟩
              have k := Good.alloc (g := g) (φ := φ) (S := S) (ob := .lst (ys.map D.int)) (o := .lst (ys.map V.int)) sm hq fun φ' pre kk => ⟨_, upd_same, ints_vrs ys⟩
              rw [h1, sortD_ints ks ys hp hs] at p
              exact p _ _ _ k (.loc (Good.alloc_at sm))
            · rw [if_neg ho] at p; exact p.elim
    | some l =>
      rw [e] at p
      dsimp only at p
      by_cases ho : sortOk l
      · rw [if_pos ho] at p
        obtain ⟨h1, h2, h3, h4, h5⟩ := ho
        obtain ⟨x, rfl, rx⟩ := rs.inv1
        obtain ⟨ad, xs', ha, g1, g2⟩ := sm.lst e
        have ex := rx.locAt ha
        subst ex
        obtain ⟨u, rfl, ru⟩ := vals1 r
        cases ru
        obtain ⟨its, rv, pl, hz⟩ := I.list (.of g1)
        have hb : bigEnough = 60 := rfl
        have hpl := D.plains_iff.mp h1
        refine PySem.W.sorted_data (β := D) (bs := l) (enc := D.py) pl.isList (each_of g2 rv) (each_plain hK I hpl (each_of g2 rv)) (by rw [← D.pys_map]; exact h2) (by rw [← D.pys_map]; exact h3) (by rw [← line_eq]; exact h5)
          (fun b hb' => by have := depthAll_mem hb'; omega) fun out hl ho => ?_
        obtain ⟨ys, r2, v2⟩ := each_back ho
        obtain ⟨ep, he'⟩ := PyProof.Rows.sortedAll_at s.heap its out.toArray
        have hq := I.hok.fresh (Nat.le_succ s.heap.objs.size)
        have k := Good.alloc (g := g) (φ := φ) (S := S) (ob := .lst (sortD l)) (o := .lst ys) (p := s.heap.objs.size + 1) sm hq fun φ' pre kk => ⟨_, upd_same, v2.mono kk pre⟩
        have hlen : ys.length ≤ sizeLine := by rw [r2.length, hl, ← line_eq]; exact h5
        exact ⟨.ref _, upd H (s.heap.objs.size + 1) (.lst ys), I.laid (t' := s.toks) (fun _ _ => PyProof.Rows.sortedAll_old) (Nat.le_succ _) ⟨hlen, out, ep, r2, he'⟩, rfl, p _ _ _ k (.loc (Good.alloc_at sm))⟩
      · rw [if_neg ho] at p; exact p.elim
  | [], rs, p => exact p.elim
  | [.tup _], rs, p => exact p.elim
  | [.non], rs, p => exact p.elim
  | [.bl _], rs, p => exact p.elim
  | [.int _], rs, p => exact p.elim
  | [.str _], rs, p => exact p.elim
  | [.obj _ _], rs, p => exact p.elim
  | d :: _ :: _, rs, p => cases d <;> exact p.elim
end
end PL
set_option Elab.async false
set_option linter.all false
set_option maxRecDepth 100000
namespace PL
open PySem PySem.Spec PyProof.Rows L2

/-! ### what the text shows -/
def starB : Expr → Bool
  | .Starred _ _ => true
  | _ => false
theorem star_cons {e : Expr} {es : List Expr} {env : PySem.Env} (h : starB e = false) : starEach (e :: es) env = (false, eval e env) :: starEach es env := by
  cases e <;> first | rfl | cases h
theorem star_none : ∀ {es : List Expr} {env : PySem.Env} {pos : Pos}, es.all (fun e => !starB e) = true → (backTo pos (starEach es env)).any (·.1) = false
  | [], _, _, _ => rfl
  | e :: es, env, pos, h => by
    simp only [List.all_cons, Bool.and_eq_true, Bool.not_eq_true'] at h
    rw [star_cons h.1]
    have ih := star_none (env := env) (pos := pos) h.2
    unfold backTo at ih ⊢
    rw [List.map_cons, List.any_cons, ih]; rfl
theorem star_few : ∀ {es : List Expr} {env : PySem.Env} {pos : Pos}, es.all (fun e => !starB e) = true → (backTo pos (starEach es env)).all (fun x => !x.1) = true
  | [], _, _, _ => rfl
  | e :: es, env, pos, h => by
    simp only [List.all_cons, Bool.and_eq_true, Bool.not_eq_true'] at h
    rw [star_cons h.1]
    have ih := star_few (env := env) (pos := pos) h.2
    unfold backTo at ih ⊢
    rw [List.map_cons, List.all_cons, ih]; rfl
/-- no super() ahead of a dot -/
def baseB : Expr → Bool
  | .Call (.Name _ _) [] [] _ => false
  | _ => true
theorem base_of {e : Expr} {f : Str} {env : PySem.Env} {w : Sem Value} (h : baseB e = true) : attributeBase e f env w = w := by
  unfold attributeBase
  split
  · cases h
  · rfl

/-! ### what a law's texts are run with -/
noncomputable def ixOf (P : Prog) (k : Nat) : Ix := ⟨callN P k, k, P.glob, P.ar⟩
def spI (g : G) (P : Prog) (k : Nat) (f : String) : Sp := fun vs H Q E => ∃ φ S ds, Sim g φ S H ∧ VRs g φ H vs ds ∧ Post g (fun c d _ H => E c d H) φ H [] (VR g) (callN P k f ds S) Q
structure Cal (g : G) (P : Prog) (k : Nat) (X : Cx) (f : String) : Prop where
  ex : ∃ fa fd ps, FnOk X.prog X.w X.K X.mg X.base (L2.CX X.prog X.w) k fa fd ps (spI g P k f) ∧ X.mg (Str.ofString f) = some (.ref fa) ∧ PySem.W.keepIn X.K (.ref fa) = true ∧ Binds X.K fd ps [] ∧
    ∀ ks pm, (f, ks, pm) ∈ P.kws → ∀ s (ws ws' : List Value), X.K.In s.heap → ws.length = ks.length → pm.mapM (fun i => ws[i]?) = some ws' → BindsTo s fd ⟨[], (ks.map Str.ofString).zip ws⟩ (ps.zip ws')
/-- a record's __init__ -/
def initSp (C : Addr) (fs : List Str) : Sp := fun vs H Q _ => ∃ x dx xs, vs = V.ref x :: xs ∧ xs.length = fs.length ∧ H x = some (.ins C dx []) ∧ Q .non (upd H x (.ins C dx (fs.zip xs)))
structure Mak (X : Cx) (C : Addr) (fs : List Str) : Prop where
  ex : ∃ f fd ps, Mk X.K C f ∧ FnOk X.prog X.w X.K X.mg X.base (L2.CX X.prog X.w) 1 f fd ps (initSp C fs) ∧ Binds X.K fd ps []
def bNames : List Str := ["len", "int", "max", "min", "sum", "all", "any", "sorted", "tuple", "list", "isinstance", "range", "enumerate", "zip", "bool", "str", "dict"]
/-- names: the classes, their fields -/
structure Tab where
  cn : Str → Option Nat
  fs : Nat → Option (List Str)
  en : Str → Option Nat
  hn : Str → Option (List Nat)
structure Kit (g : G) (T : Tab) (P : Prog) (k : Nat) (X : Cx) (W : WX) : Prop where
  glo : Glo g (ixOf P k) X
  tk : Takes X W
  bn : ∀ x ∈ bNames, X.mg x = none
  call : ∀ f F, P.fn f = some F → Cal g P k X f
  glob : ∀ x d, P.glob x = some d → ∃ v u, X.mg (Str.ofString x) = some u ∧ RelV v u ∧ ∀ φ H, VR g φ H v d
  fs : ∀ c fl, T.fs c = some fl → ∃ C, g.cls c = some (C, fl)
  cn : ∀ x c, T.cn x = some c → ∃ C fs, g.cls c = some (C, fs) ∧ X.mg x = some (.ref C)
  mak : ∀ c n, P.ar c = some n → ∃ C fs, g.cls c = some (C, fs) ∧ fs.length = n ∧ Mak X C fs
  err : ∀ x c, T.en x = some c → ∃ C D fI, g.err c = some C ∧ X.mg x = some (.ref C) ∧ PySem.ErrX.ErrTxt X.prog g.K C D fI
  ern : ∀ c C, g.err c = some C → XfC g.K C ∧ PySem.W.findIn g.K (.ref C) (Str.ofString "what") = some none
  hnd : ∀ x ids, T.hn x = some ids → ∃ cv, X.mg x = some cv ∧ ∀ c C, g.err c = some C → PySem.W.exmOne g.K (.ref C) cv = some (decide (c ∈ ids))
  msu : X.mg "super" = none
theorem Kit.hu {g : G} {T : Tab} {P : Prog} {k : Nat} {X : Cx} {W : WX} (K : Kit g T P k X W) : X.A.units + 64 < cLine := K.glo.hu
theorem Kit.hK {g : G} {T : Tab} {P : Prog} {k : Nat} {X : Cx} {W : WX} (K : Kit g T P k X W) : X.K = g.K := K.glo.K

section
variable {g : G} {φ φ' : List Addr} {H H' : Hp} {S S' : Store} {X : Cx} {W : WX} {σ : St} {ix : Ix} {a b c : IE} {ea eb ec : Expr} {pos p0 : Pos} {env : Env} {T : Tab} {P : Prog} {k : Nat} {es : List Expr} {is : IEs} {e : Expr}
theorem Post.wish {α β : Type} {rel : List Addr → Hp → β → α → Prop} {W' : WX} {σ' : St} {r : Option (R α)} {Q : β → Hp → Prop} (p : Post g W φ H σ rel r Q) (h : ∀ c d H, W c d σ H → W' c d σ' H) : Post g W' φ H σ' rel r Q := by
  cases r with
  | none => exact p
  | some r =>
    cases r with
    | val d S2 => exact p
    | exc e S2 => exact fun φ2 H2 c d k2 rx => h _ _ _ (p φ2 H2 c d k2 rx)

/-! ### calls -/
theorem rE_call {x : Str} {f : String} {F : IFun} (K : Kit g T P k X W) (hf : P.fn f = some F) (hx : x = Str.ofString f) (hg : Gl X x) (hdb : (x == ("__debug__" : Str)) = false) (ha : PA X (e :: es) (rdEs g W (ixOf P k) is)) (hst : (e :: es).all (fun e => !starB e) = true) :
    PE X (.Call (.Name x p0) (e :: es) [] pos) (rdE g W (ixOf P k) (.call f is [] [])) := by
  subst hx
  obtain ⟨fa, fd, ps, F1, hm, hk, hb, _⟩ := (K.call f F hf).ex
  have hst' := hst
  simp only [List.all_cons, Bool.and_eq_true, Bool.not_eq_true'] at hst'
  refine PEimp (pe_callSD (E := WE W) F1 K.glo.room hg hm hk hb .nil (fun σ => passAt K.tk σ) ha hdb (star_cons hst'.1) (star_none hst'.2)) fun σ H Q ⟨φ, env, S, sm, er, p⟩ => ?_
  unfold evE at p
  exact args p sm er fun φ1 S1 H1 xs ds s1 er1 r1 p1 => ⟨φ1, S1, ds, s1, by rw [List.append_nil]; exact r1, Post.wish p1 fun _ _ _ h => h⟩
theorem rE_bif0 {id : String} {f : Bif} {x : Str} (hc : CallR X (.builtin id) (rBif g f)) (hg : Gl X x) (hm : X.mg x = none) (hv : bootBuiltins x = some (.builtin id)) (hn : x ≠ "__name__") (hdb : (x == ("__debug__" : Str)) = false) (ha : PA X (e :: es) (rdEs g W ix is))
    (hst : (e :: es).all (fun e => !starB e) = true) : PE X (.Call (.Name x p0) (e :: es) [] pos) (rdE g W ix (.bif f is)) := by
  have hst' := hst
  simp only [List.all_cons, Bool.and_eq_true, Bool.not_eq_true'] at hst'
  refine PEimp (pe_callB hc hg hm hv ha hn hdb (star_cons hst'.1) (star_none hst'.2)) fun σ H Q ⟨φ, env, S, sm, er, p⟩ => ?_
  unfold evE at p
  exact args p sm er fun φ1 S1 H1 xs ds s1 er1 r1 p1 => ⟨φ1, S1, ds, s1, r1, p1.ofO⟩
theorem rE_bifT {id : String} {f : Bif} {x : Str} (hc : CallR X (.type id) (rBif g f)) (hg : Gl X x) (hm : X.mg x = none) (hv : bootBuiltins x = some (.type id)) (hn : x ≠ "__name__") (hdb : (x == ("__debug__" : Str)) = false) (ha : PA X (e :: es) (rdEs g W ix is))
    (hst : (e :: es).all (fun e => !starB e) = true) : PE X (.Call (.Name x p0) (e :: es) [] pos) (rdE g W ix (.bif f is)) := by
  have hst' := hst
  simp only [List.all_cons, Bool.and_eq_true, Bool.not_eq_true'] at hst'
  refine PEimp (pe_callTy hc hg hm hv ha hn hdb (star_cons hst'.1) (star_none hst'.2)) fun σ H Q ⟨φ, env, S, sm, er, p⟩ => ?_
  unfold evE at p
  exact args p sm er fun φ1 S1 H1 xs ds s1 er1 r1 p1 => ⟨φ1, S1, ds, s1, r1, p1.ofO⟩
def bifN : Bif → Str
  | .len => "len" | .int => "int" | .max => "max" | .min => "min" | .sum => "sum" | .all => "all" | .any => "any" | .sorted => "sorted" | .tuple => "tuple" | .list => "list"
theorem bifN_mem (f : Bif) : bifN f ∈ bNames := by cases f <;> decide +kernel
theorem rE_bif {f : Bif} {x : Str} (K : Kit g T P k X W) (hx : x = bifN f) (hg : Gl X x) (ha : PA X (e :: es) (rdEs g W ix is)) (hst : (e :: es).all (fun e => !starB e) = true) : PE X (.Call (.Name x p0) (e :: es) [] pos) (rdE g W ix (.bif f is)) := by
  have hm := K.bn _ (bifN_mem f)
  rw [← hx] at hm
  cases f <;> subst hx
  · exact rE_bif0 (cr_len K.hK) hg hm (by decide +kernel) (by decide +kernel) (by decide +kernel) ha hst
  · exact rE_bifT cr_int hg hm (by decide +kernel) (by decide +kernel) (by decide +kernel) ha hst
  · exact rE_bif0 (cr_max K.hK K.glo.calm K.hu) hg hm (by decide +kernel) (by decide +kernel) (by decide +kernel) ha hst
  · exact rE_bif0 (cr_min K.hK K.glo.calm K.hu) hg hm (by decide +kernel) (by decide +kernel) (by decide +kernel) ha hst
  · exact rE_bif0 (cr_sum' K.glo.calm) hg hm (by decide +kernel) (by decide +kernel) (by decide +kernel) ha hst
  · exact rE_bif0 (cr_all' K.glo.calm) hg hm (by decide +kernel) (by decide +kernel) (by decide +kernel) ha hst
  · exact rE_bif0 (cr_any' K.glo.calm) hg hm (by decide +kernel) (by decide +kernel) (by decide +kernel) ha hst
  · exact rE_bif0 (cr_sortedL K.hK K.hu K.glo.calm) hg hm (by decide +kernel) (by decide +kernel) (by decide +kernel) ha hst
  · exact rE_bifT cr_tuple hg hm (by decide +kernel) (by decide +kernel) (by decide +kernel) ha hst
  · exact rE_bifT cr_list hg hm (by decide +kernel) (by decide +kernel) (by decide +kernel) ha hst
theorem rE_glob {x : Str} {f : String} {d : D} (K : Kit g T P k X W) (hf : P.glob f = some d) (hx : x = Str.ofString f) (hg : Gl X x) (hdb : (x == ("__debug__" : Str)) = false) : PE X (.Name x pos) (rdE g W (ixOf P k) (.glob f)) := by
  subst hx
  obtain ⟨v, u, hm, r, rd⟩ := K.glob f d hf
  refine PEimp (pe_glob hg hm r hdb) fun σ H Q ⟨φ, env, S, sm, er, p⟩ => ?_
  unfold evE at p
  rw [show (ixOf P k).glob f = some d from hf] at p
  exact p.val sm (rd _ _)
theorem rE_mk {x : Str} {c n : Nat} (K : Kit g T P k X W) (hx : T.cn x = some c) (hn : P.ar c = some n) (hg : Gl X x) (hdb : (x == ("__debug__" : Str)) = false) (ha : PA X (e :: es) (rdEs g W (ixOf P k) is)) (hst : (e :: es).all (fun e => !starB e) = true) :
    PE X (.Call (.Name x p0) (e :: es) [] pos) (rdE g W (ixOf P k) (.mk c is)) := by
  obtain ⟨C, fs, hc, hm⟩ := K.cn x c hx
  obtain ⟨C', fs', hc', hl, mk⟩ := K.mak c n hn
  rw [hc] at hc'; cases hc'
  obtain ⟨f, fd, ps, M, F, B⟩ := mk.ex
  have hst' := hst
  simp only [List.all_cons, Bool.and_eq_true, Bool.not_eq_true'] at hst'
  have go : 2 ≤ k → PE X (.Call (.Name x p0) (e :: es) [] pos) (rdE g W (ixOf P k) (.mk c is)) := fun hk => by
    refine PEimp (pe_make (E := fun _ _ _ => False) M F (K.glo.room.mono hk) hg hm B .nil (fun pins σ H s e s' I cx => ?_) ha hdb (star_cons hst'.1) (star_none hst'.2)) fun σ H Q ⟨φ, env, S, sm, er, p⟩ => ?_
    · obtain ⟨a, B, H', cls, d, _, _, _, _, _, _, _, z⟩ := cx
      exact z.elim
    · unfold evE at p
      exact args p sm er fun φ1 S1 H1 xs ds s1 er1 r1 p1 => by
        by_cases hr : 2 ≤ (ixOf P k).room ∧ (ixOf P k).ar c = some ds.length
        · rw [if_pos hr] at p1
          intro z dz hz hdz hne
          have hlen : xs.length = fs.length := by
            have := hr.2
            rw [show (ixOf P k).ar c = some n from hn] at this
            cases this
            rw [r1.length, hl]
          refine ⟨z, dz, xs, by rw [List.append_nil], hlen, upd_same, rfl, ?_⟩
          have k1 : Good g φ1 H1 φ1 S1 (upd H1 dz (.own z)) := .made s1 hdz
          have n2 : upd H1 dz (.own z) z = none := by rw [upd_ne (Ne.symm hne)]; exact hz
          have k2 : Good g φ1 (upd H1 dz (.own z)) φ1 S1 (upd (upd H1 dz (.own z)) z (.ins C dz (fs.zip xs))) := .made k1.sim n2
          have e3 : upd (upd (upd H1 dz (.own z)) z (.ins C dz [])) z (.ins C dz (fs.zip xs)) = upd (upd H1 dz (.own z)) z (.ins C dz (fs.zip xs)) := by
            funext q
            by_cases hq : q = z
            · subst hq; rw [upd_same, upd_same]
            · rw [upd_ne hq, upd_ne hq, upd_ne hq]
          rw [e3]
          have k3 := k1.trans k2
          exact p1.valG k3 (.obj hc upd_same hlen.symm (r1.good s1 k3))
        · rw [if_neg hr] at p1; exact p1.elim
  by_cases hk : 2 ≤ k
  · exact go hk
  · refine ⟨fun pins s σ H Q I ⟨φ, env, S, sm, er, p⟩ => ?_⟩
    have ne : ∀ ds S1, (if 2 ≤ (ixOf P k).room ∧ (ixOf P k).ar c = some ds.length then some (R.val (D.obj c ds) S1) else none) = none := fun ds S1 => if_neg fun h => hk h.1
    unfold evE at p
    simp only [ne] at p
    have h := ha.run pos pins s σ H (fun _ _ => False) I (args p sm er fun φ1 S1 H1 xs ds s1 er1 r1 p1 => p1.elim)
    refine wpAny_Call_Name_kw (ld_glob I hg hm ?_ hdb)
    exact PySem.W.callWith_K (h₀ := X.base) I.ok.mod.kin M.kp (thn h fun us s1 ⟨vs, H1, I1, r, q⟩ => q.elim) (star_cons hst'.1) (star_none hst'.2)
end
end PL
set_option Elab.async false
set_option linter.all false
set_option maxRecDepth 100000
namespace PL
open PySem PySem.Spec PyProof.Rows L2
section
variable {g : G} {φ φ' : List Addr} {H H' : Hp} {S S' : Store} {X : Cx} {W : WX} {σ : St} {ix : Ix} {a b c : IE} {ea eb ec : Expr} {pos p0 apos : Pos} {env : Env} {T : Tab} {P : Prog} {k : Nat} {es : List Expr} {is : IEs} {e : Expr}

/-! ### methods -/
theorem recvOk_loc {m : Mth} {n0 : Bool} {d : D} (h : recvOk S m n0 d = true) : ∃ n, d = .loc n ∧ ((∃ l, S[n]? = some (.lst l)) ∨ (∃ t l, S[n]? = some (.dict t l)) ∨ ∃ t l, S[n]? = some (.lock t l)) := by
  cases d with
  | loc n =>
    refine ⟨n, rfl, ?_⟩
    unfold recvOk at h
    dsimp only at h
    cases e : S[n]? with
    | none => rw [e] at h; cases h
    | some o =>
      cases o with
      | lst l => exact .inl ⟨l, rfl⟩
      | dict t l => exact .inr (.inl ⟨t, l, rfl⟩)
      | lock t l => exact .inr (.inr ⟨t, l, rfl⟩)
  | _ => cases h
/-- a method's run, in its two steps -/
theorem meth {m : Mth} {Q : VK} {K : V → Hp → Prop} (p : Post g W φ H σ (VR g) (evE ix (.meth m a is) env S) Q) (sm : Sim g φ S H) (er : EnvR g φ H σ env)
    (h : ∀ φ1 S1 H1 ad n, Sim g φ1 S1 H1 → EnvR g φ1 H1 σ env → φ1[n]? = some ad → recvOk S1 m is.isNil (.loc n) = true →
      Post g W φ1 H1 σ (VR g) (bnd (evEs ix is env S1) fun ds S2 => ofO (methD m (.loc n) ds S2)) Q → K (.ref ad) H1) : rdE g W ix a σ H fun x H1 => K x H1 := by
  unfold evE at p
  exact one p sm er fun φ1 S1 H1 x dx s1 er1 rx p1 => by
    by_cases hr : recvOk S1 m is.isNil dx = true
    · rw [if_pos hr] at p1
      obtain ⟨n, rfl, _⟩ := recvOk_loc hr
      cases rx with
      | loc e => exact h φ1 S1 H1 _ n s1 er1 e hr p1
    · rw [if_neg hr] at p1; exact p1.elim
theorem isL_of {n : Nat} {ad : Addr} (sm : Sim g φ S H) (ha : φ[n]? = some ad) {m : Mth} {n0 : Bool} (hr : recvOk S m n0 (.loc n) = true) (hm : m = .append ∨ m = .extend ∨ (m = .pop ∧ n0 = true)) (hK : X.K = g.K) : L2.tyV X.K "list" (.ref ad) H := by
  have : ∃ l, S[n]? = some (.lst l) := by
    unfold recvOk at hr
    dsimp only at hr
    cases e : S[n]? with
    | none => rw [e] at hr; cases hr
    | some o =>
      rw [e] at hr
      cases o with
      | lst l => exact ⟨l, rfl⟩
      | _ => rcases hm with rfl | rfl | ⟨rfl, rfl⟩ <;> cases hr
  obtain ⟨l, e⟩ := this
  obtain ⟨xs, h1, _⟩ := sm.obj n ad _ ha e
  exact .inl ⟨rfl, xs, .of h1⟩
theorem isD_of {n : Nat} {ad : Addr} (sm : Sim g φ S H) (ha : φ[n]? = some ad) {m : Mth} {n0 : Bool} (hr : recvOk S m n0 (.loc n) = true) (hm : m = .get ∨ (m = .pop ∧ n0 = false)) : IsD H ad := by
  have fin : ∀ {t l}, (S[n]? = some (.dict t l) ∨ S[n]? = some (.lock t l)) → IsD H ad := fun {t l} h => by
    rcases h with h | h
    · have o := sm.obj n ad _ ha h
      cases t
      · obtain ⟨m, e, _⟩ := o; exact .inl ⟨m, .inl e⟩
      · obtain ⟨m, e, _⟩ := o; exact .inr ⟨m, .inl e⟩
    · have o := sm.obj n ad _ ha h
      cases t
      · obtain ⟨ob, m, e, _⟩ := o; exact .inl ⟨m, .inr ⟨ob, e⟩⟩
      · obtain ⟨ob, m, e, _⟩ := o; exact .inr ⟨m, .inr ⟨ob, e⟩⟩
  unfold recvOk at hr
  dsimp only at hr
  cases e : S[n]? with
  | none => rw [e] at hr; cases hr
  | some o =>
    rw [e] at hr
    cases o with
    | lst l => rcases hm with rfl | ⟨rfl, rfl⟩ <;> cases hr
    | dict t l => exact fin (.inl e)
    | lock t l => exact fin (.inr e)
theorem one_arg {m : Mth} {ad : Addr} {n : Nat} {ds : List D} {Q : VK} (hm : m = .append ∨ m = .extend) (p : PostO g φ H (methD m (.loc n) ds S) Q) : ∃ d, ds = [d] := by
  rcases hm with rfl | rfl
  · match ds, p with
    | [d], _ => exact ⟨d, rfl⟩
    | [], p => exact p.elim
    | _ :: _ :: _, p => exact p.elim
  · match ds, p with
    | [d], _ => exact ⟨d, rfl⟩
    | [], p => exact p.elim
    | d :: _ :: _, p => cases d <;> exact p.elim
theorem few_of (h : (e :: es).all (fun e => !starB e) = true) (hl : (e :: es).length < 30) : ((backTo pos (starEach (e :: es) X.env)).all (fun x => !x.1) && (backToKw pos (keywordEach [] X.env)).all (fun x => x.1.isSome)
      && decide ((e :: es).length + ([] : List Keyword).length + (if ([] : List Keyword).isEmpty then 0 else 1) < 30)) = true := by
  rw [star_few h]
  have : (e :: es).length + ([] : List Keyword).length + (if ([] : List Keyword).isEmpty then 0 else 1) < 30 := by simpa using hl
  rw [decide_eq_true this]
  rfl
theorem argsG {es : IEs} {f : List D → Store → Option (R D)} {Q : VK} {K : List V → Hp → Prop} (p : Post g W φ H σ (VR g) (bnd (evEs ix es env S) f) Q) (sm : Sim g φ S H) (er : EnvR g φ H σ env)
    (h : ∀ φ1 S1 H1 xs ds, Good g φ H φ1 S1 H1 → VRs g φ1 H1 xs ds → Post g W φ1 H1 σ (VR g) (f ds S1) Q → K xs H1) : rdEs g W ix es σ H fun x H1 => K x H1 :=
  ⟨φ, env, S, sm, er, p.bnd fun φ1 S1 H1 x d _ k r p1 => h φ1 S1 H1 x d k r p1⟩
theorem Good.loc {n : Nat} {ad : Addr} (k : Good g φ H φ' S' H') (h : φ[n]? = some ad) : φ'[n]? = some ad := by
  obtain ⟨r, rfl⟩ := k.pre
  exact (List.getElem?_append_left (List.getElem?_eq_some_iff.mp h).1).trans h
theorem Sim.lstA (sm : Sim g φ S H) {n : Nat} {ad : Addr} {l : List D} (ha : φ[n]? = some ad) (h : lstAt S n = some l) : ∃ xs, H ad = some (.lst xs) ∧ VRs g φ H xs l := by
  obtain ⟨a, xs, h0, h1, h2⟩ := sm.lst h
  rw [ha] at h0; cases h0
  exact ⟨xs, h1, h2⟩
theorem VRs.getLast {xs : List V} {l : List D} {d : D} (r : VRs g φ H xs l) (h : l.getLast? = some d) : ∃ x, xs[xs.length - 1]? = some x ∧ VR g φ H x d := by
  rw [List.getLast?_eq_getElem?] at h
  rw [r.length]
  exact r.get h
theorem VRs.dropLast {xs : List V} {l : List D} (r : VRs g φ H xs l) : VRs g φ H xs.dropLast l.dropLast := by
  rw [List.dropLast_eq_take, List.dropLast_eq_take, r.length]
  exact r.take _
section
variable (hK : X.K = g.K) (ha : PE X ea (rdE g W ix a)) (he : PA X (e :: es) (rdEs g W ix is)) (hb : baseB ea = true) (hs : (e :: es).all (fun e => !starB e) = true) (hl : (e :: es).length < 30) (hline : (apos.endLine == pos.line) = true)
include hK ha he hb hs hl hline
theorem rE_append : PE X (.Call (.Attribute ea "append" apos) (e :: es) [] pos) (rdE g W ix (.meth .append a is)) := by
  have hs' := hs
  simp only [List.all_cons, Bool.and_eq_true, Bool.not_eq_true'] at hs'
  refine PEimp (pe_bm F.plainAttrs_list F.slot_list_append F.type_list_append (r := rAppend) mt_append ha he (base_of hb) (few_of hs hl) hline (star_cons hs'.1) (star_none hs'.2)) fun σ H Q ⟨φ, env, S, sm, er, p⟩ => ?_
  exact meth p sm er fun φ1 S1 H1 ad n s1 er1 had hr p1 => ⟨isL_of s1 had hr (.inl rfl) hK, argsG p1 s1 er1 fun φ2 S2 H2 xs ds k2 r2 p2 => by
    have p2 := p2.ofO
    obtain ⟨d, rfl⟩ := one_arg (ad := ad) (.inl rfl) p2
    obtain ⟨y, rfl, ry⟩ := r2.inv1
    unfold methD at p2
    dsimp only at p2
    cases el : lstAt S2 n with
    | none => rw [el] at p2; exact p2.elim
    | some l =>
      rw [el] at p2
      simp only [Option.bind_some] at p2
      by_cases hlt : l.length < line
      · rw [if_pos hlt] at p2
        have had2 := k2.loc had
        obtain ⟨xs', h1, h2⟩ := k2.sim.lstA had2 el
        refine ⟨ad, xs', y, rfl, rfl, h1, by rw [h2.length, ← line_eq]; exact hlt, ?_⟩
        have kw := Good.write (o := .lst (xs' ++ [y])) (ob := .lst (l ++ [d])) k2.sim had2 (by rw [h1]; intro _ _ z; cases z) fun kk => ⟨_, upd_same, (h2.append (.one ry)).mono kk (List.prefix_refl _)⟩
        exact p2 _ _ _ kw .non
      · rw [if_neg hlt] at p2; exact p2.elim⟩
theorem rE_extend : PE X (.Call (.Attribute ea "extend" apos) (e :: es) [] pos) (rdE g W ix (.meth .extend a is)) := by
  have hs' := hs
  simp only [List.all_cons, Bool.and_eq_true, Bool.not_eq_true'] at hs'
  refine PEimp (pe_bm F.plainAttrs_list F.slot_list_extend F.type_list_extend (r := rExtend) mt_extend ha he (base_of hb) (few_of hs hl) hline (star_cons hs'.1) (star_none hs'.2)) fun σ H Q ⟨φ, env, S, sm, er, p⟩ => ?_
  exact meth p sm er fun φ1 S1 H1 ad n s1 er1 had hr p1 => ⟨isL_of s1 had hr (.inr (.inl rfl)) hK, argsG p1 s1 er1 fun φ2 S2 H2 xs ds k2 r2 p2 => by
    have p2 := p2.ofO
    obtain ⟨d, rfl⟩ := one_arg (ad := ad) (.inr rfl) p2
    obtain ⟨y, rfl, ry⟩ := r2.inv1
    cases ry with
    | loc eb2 =>
      rename_i b m _
      unfold methD at p2
      dsimp only at p2
      cases el : lstAt S2 n with
      | none => rw [el] at p2; exact p2.elim
      | some l =>
        rw [el] at p2
        simp only [Option.bind_some] at p2
        cases em : lstAt S2 m with
        | none => rw [em] at p2; exact p2.elim
        | some l2 =>
          rw [em] at p2
          simp only [Option.bind_some] at p2
          by_cases hlt : l.length + l2.length ≤ line
          · rw [if_pos hlt] at p2
            have had2 := k2.loc had
            obtain ⟨xs', h1, h2⟩ := k2.sim.lstA had2 el
            obtain ⟨ys', g1, g2⟩ := k2.sim.lstA eb2 em
            refine ⟨ad, b, xs', ys', rfl, rfl, h1, g1, by rw [h2.length, g2.length, ← line_eq]; exact hlt, ?_⟩
            have kw := Good.write (o := .lst (xs' ++ ys')) (ob := .lst (l ++ l2)) k2.sim had2 (by rw [h1]; intro _ _ z; cases z) fun kk => ⟨_, upd_same, (h2.append g2).mono kk (List.prefix_refl _)⟩
            exact p2 _ _ _ kw .non
          · rw [if_neg hlt] at p2; exact p2.elim
    | _ => exact p2.elim⟩
omit he hs hl
theorem rE_pop0 : PE X (.Call (.Attribute ea "pop" apos) [] [] pos) (rdE g W ix (.meth .pop a .nil)) := by
  refine PEimp (pe_bm0 F.plainAttrs_list F.slot_list_pop F.type_list_pop (r := rPop) mt_pop ha (base_of hb) hline) fun σ H Q ⟨φ, env, S, sm, er, p⟩ => ?_
  exact meth p sm er fun φ1 S1 H1 ad n s1 er1 had hr p1 => ⟨isL_of s1 had hr (.inr (.inr ⟨rfl, rfl⟩)) hK, by
    unfold evEs at p1
    rw [bnd_val] at p1
    have p2 := p1.ofO
    unfold methD at p2
    dsimp only at p2
    cases el : lstAt S1 n with
    | none => rw [el] at p2; exact p2.elim
    | some l =>
      rw [el] at p2
      simp only [Option.bind_some] at p2
      obtain ⟨xs', h1, h2⟩ := s1.lstA had el
      cases eg : l.getLast? with
      | none => rw [eg] at p2; exact p2.elim
      | some d =>
        rw [eg] at p2
        obtain ⟨y, h3, h4⟩ := h2.getLast eg
        have kw := Good.write (o := .lst xs'.dropLast) (ob := .lst l.dropLast) s1 had (by rw [h1]; intro _ _ z; cases z) fun kk => ⟨_, upd_same, h2.dropLast.mono kk (List.prefix_refl _)⟩
        exact ⟨ad, xs', y, rfl, rfl, h1, h3, p2 _ _ _ kw (h4.good s1 kw)⟩⟩
end
theorem m1_of {m : Str} (hb : baseB ea = true) (hs : starB e = false) (hline : (apos.endLine == pos.line) = true) : M1 X ea m apos e pos where
  base := base_of hb
  few := few_of (es := []) (by simp [hs]) (by simp)
  line := hline
  trees := by rw [star_cons hs]; rfl
theorem m2_of {m : Str} {f : Expr} (hb : baseB ea = true) (hs : starB e = false) (hs2 : starB f = false) (hline : (apos.endLine == pos.line) = true) : M2 X ea m apos e f pos where
  base := base_of hb
  few := few_of (es := [f]) (by simp [hs, hs2]) (by simp)
  line := hline
  trees := by rw [star_cons hs, star_cons hs2]; rfl
theorem DR.drop {κ : Type} [DecidableEq κ] {key : D → Option κ} (hk : ∀ {a b : D} {k l : κ}, key a = some k → key b = some l → keyEq a b = decide (k = l)) {kd : D} {k : κ} (hkd : key kd = some k) :
    ∀ {m : List (κ × V)} {kvs : List (D × D)}, DR g φ H key m kvs → DR g φ H key (L2.dropK m k) (dropK kvs kd)
  | _, _, .nil => .nil
  | p :: m, q :: kvs, .cons h t => by
    have e := hk h.1 hkd
    have ih := DR.drop hk hkd t
    unfold L2.dropK dropK at ih ⊢
    by_cases c : p.1 = k
    · rw [decide_eq_true c] at e
      rw [List.filter_cons_of_neg (by simp [c]), List.filter_cons_of_neg (by simp [e])]
      exact ih
    · rw [decide_eq_false c] at e
      rw [List.filter_cons_of_pos (by simp [c]), List.filter_cons_of_pos (by simp [e])]
      exact .cons h ih
theorem DR.put {κ : Type} [DecidableEq κ] {key : D → Option κ} (hk : ∀ {a b : D} {k l : κ}, key a = some k → key b = some l → keyEq a b = decide (k = l)) {kd : D} {k : κ} (hkd : key kd = some k) {y : V} {d : D} (ry : VR g φ H y d)
    {m : List (κ × V)} {kvs : List (D × D)} (r : DR g φ H key m kvs) : DR g φ H key (L2.putK m k y) (putK kvs kd d) := by
  have any : (m.any fun kv => decide (kv.1 = k)) = kvs.any fun p => keyEq p.1 kd := by
    induction r with
    | nil => rfl
    | @cons p q m kvs h t ih => rw [List.any_cons, List.any_cons, ih, hk h.1 hkd]
  unfold L2.putK putK
  rw [any]
  by_cases c : (kvs.any fun p => keyEq p.1 kd) = true
  · rw [if_pos c, if_pos c]
    clear any c
    induction r with
    | nil => exact .nil
    | @cons p q m kvs h t ih =>
      rw [List.map_cons, List.map_cons]
      refine .cons ?_ ih
      have e := hk h.1 hkd
      by_cases c : p.1 = k
      · rw [if_pos c]
        rw [decide_eq_true c] at e
        rw [if_pos e]
        exact ⟨h.1, ry⟩
      · rw [if_neg c]
        rw [decide_eq_false c] at e
        rw [if_neg (by rw [e]; decide)]
        exact h
  · rw [if_neg c, if_neg c]
    clear any c
    induction r with
    | nil => exact .cons ⟨hkd, ry⟩ .nil
    | @cons p q m kvs h t ih => exact .cons h ih
theorem rE_dpop (hK : X.K = g.K) (ha : PE X ea (rdE g W ix a)) (he : PE X eb (rdE g W ix b)) (hb : baseB ea = true) (hs : starB eb = false) (hline : (apos.endLine == pos.line) = true) :
    PE X (.Call (.Attribute ea "pop" apos) [eb] [] pos) (rdE g W ix (.meth .pop a (.cons b .nil))) := by
  refine PEimp (pe_dpop1 ha he (m1_of hb hs hline)) fun σ H Q ⟨φ, env, S, sm, er, p⟩ => ?_
  exact meth p sm er fun φ1 S1 H1 ad n s1 er1 had hr p1 => ⟨ad, rfl, isD_of s1 had hr (.inr ⟨rfl, rfl⟩), ⟨φ1, env, S1, s1, er1, by
    unfold evEs at p1
    have p1 : Post g W φ1 H1 σ (VR g) (bnd (evE ix b env S1) fun y S2 => ofO (methD .pop (.loc n) [y] S2)) Q := by
      cases h : evE ix b env S1 with
      | none => rw [h] at p1; exact p1
      | some r =>
        rw [h] at p1
        cases r with
        | exc _ _ => exact p1
        | val d S2 =>
          rw [bnd_val] at p1 ⊢
          unfold evEs at p1
          rw [bnd_val, bnd_val] at p1
          exact p1
    exact p1.bnd fun φ2 S2 H2 y d _ k2 ry p2 => by
      have p2 := p2.ofO
      unfold methD at p2
      dsimp only at p2
      have had2 := k2.loc had
      cases el : S2[n]? with
      | none => rw [el] at p2; exact p2.elim
      | some o =>
        rw [el] at p2
        cases o with
        | dict t l =>
          cases t with
          | true => exact p2.elim
          | false =>
            dsimp only at p2
            by_cases hk : keyOk false d = true
            · rw [if_pos hk] at p2
              obtain ⟨kk, ek⟩ := Option.isSome_iff_exists.mp (show (kD d).isSome = true by simpa [keyOk] using hk)
              obtain ⟨m, h1, h2⟩ := k2.sim.obj n ad _ had2 el
              cases ef : findK l d with
              | none => rw [ef] at p2; exact p2.elim
              | some z =>
                rw [ef] at p2
                obtain ⟨zv, h3, h4⟩ := (h2.find (fun h1 h2 => keyEq_k h1 h2) ek).1 z ef
                have kw := Good.write (o := .dK (L2.dropK m kk)) (ob := .dict false (dropK l d)) k2.sim had2 (by rw [h1]; intro _ _ z; cases z) fun kk' => ⟨_, upd_same, (h2.drop (fun h1 h2 => keyEq_k h1 h2) ek).mono kk' (List.prefix_refl _)⟩
                exact ⟨m, kk, zv, h1, ry.keyK ek, h3, p2 _ _ _ kw (h4.good k2.sim kw)⟩
            · rw [if_neg hk] at p2; exact p2.elim
        | _ => exact p2.elim⟩⟩
theorem getD_of {n : Nat} {ad : Addr} {p2 : Bool × List (D × D)} (sm : Sim g φ S H) (ha : φ[n]? = some ad) (h : dictAt S n = some p2) {d : D} {y : V} (hk : keyOk p2.1 d = true) (ry : VR g φ H y d) {z : V} {zd : D} (rz : VR g φ H z zd) : ∃ o : Option V, DGet H ad y o ∧ VR g φ H (o.getD z) ((findK p2.2 d).getD zd) := by
  obtain ⟨t, l⟩ := p2
  obtain ⟨a, h0, h1, h2⟩ := sm.dget h hk ry
  rw [ha] at h0; cases h0
  cases e : findK l d with
  | none => exact ⟨none, h2 e, rz⟩
  | some w =>
    obtain ⟨x, h3, h4⟩ := h1 w e
    exact ⟨some x, h3, h4⟩
theorem rE_dget2 (hu : X.A.units + 64 < cLine) (ha : PE X ea (rdE g W ix a)) (he : PE X eb (rdE g W ix b)) (hc : PE X ec (rdE g W ix c)) (hb : baseB ea = true) (hs : starB eb = false) (hs2 : starB ec = false) (hline : (apos.endLine == pos.line) = true) :
    PE X (.Call (.Attribute ea "get" apos) [eb, ec] [] pos) (rdE g W ix (.meth .get a (.cons b (.cons c .nil)))) := by
  refine PEimp (pe_dget2 (by omega) ha he hc (m2_of hb hs hs2 hline)) fun σ H Q ⟨φ, env, S, sm, er, p⟩ => ?_
  exact meth p sm er fun φ1 S1 H1 ad n s1 er1 had hr p1 => ⟨ad, rfl, isD_of s1 had hr (.inl rfl), ⟨φ1, env, S1, s1, er1, by
    have e0 : (bnd (evEs ix (.cons b (.cons c .nil)) env S1) fun ds S2 => ofO (methD .get (.loc n) ds S2)) = bnd (evE ix b env S1) fun y S2 => bnd (evE ix c env S2) fun z S3 => ofO (methD .get (.loc n) [y, z] S3) := by
      unfold evEs
      cases evE ix b env S1 with
      | none => rfl
      | some r =>
        cases r with
        | exc _ _ => rfl
        | val d S2 =>
          simp only [bnd_val]
          unfold evEs
          cases evE ix c env S2 with
          | none => rfl
          | some r =>
            cases r with
            | exc _ _ => rfl
            | val d S2 =>
              simp only [bnd_val]
              unfold evEs
              rfl
    rw [e0] at p1
    exact p1.bnd fun φ2 S2 H2 y d _ k2 ry p2 => ⟨φ2, env, S2, k2.sim, er1.good s1 k2, p2.bnd fun φ3 S3 H3 z zd _ k3 rz p3 => by
      have p3 := p3.ofO
      unfold methD at p3
      dsimp only at p3
      have had3 := k3.loc (k2.loc had)
      cases el : dictAt S3 n with
      | none => rw [el] at p3; exact p3.elim
      | some q =>
        rw [el] at p3
        simp only [Option.bind_some] at p3
        by_cases hk : keyOk q.1 d = true
        · rw [if_pos hk] at p3
          obtain ⟨o, h1, h2⟩ := getD_of k3.sim had3 el hk (ry.good k2.sim k3) rz
          exact ⟨o, h1, p3 _ _ _ (.refl k3.sim) h2⟩
        · rw [if_neg hk] at p3; exact p3.elim⟩⟩⟩
theorem rE_dget1 (hu : X.A.units + 64 < cLine) (ha : PE X ea (rdE g W ix a)) (he : PE X eb (rdE g W ix b)) (hb : baseB ea = true) (hs : starB eb = false) (hline : (apos.endLine == pos.line) = true) :
    PE X (.Call (.Attribute ea "get" apos) [eb] [] pos) (rdE g W ix (.meth .get a (.cons b .nil))) := by
  refine PEimp (pe_dget1 (by omega) ha he (m1_of hb hs hline)) fun σ H Q ⟨φ, env, S, sm, er, p⟩ => ?_
  exact meth p sm er fun φ1 S1 H1 ad n s1 er1 had hr p1 => ⟨ad, rfl, isD_of s1 had hr (.inl rfl), ⟨φ1, env, S1, s1, er1, by
    have e0 : (bnd (evEs ix (.cons b .nil) env S1) fun ds S2 => ofO (methD .get (.loc n) ds S2)) = bnd (evE ix b env S1) fun y S2 => ofO (methD .get (.loc n) [y] S2) := by
      unfold evEs
      cases evE ix b env S1 with
      | none => rfl
      | some r =>
        cases r with
        | exc _ _ => rfl
        | val d S2 =>
          simp only [bnd_val]
          unfold evEs
          rfl
    rw [e0] at p1
    exact p1.bnd fun φ2 S2 H2 y d _ k2 ry p2 => by
      have p3 := p2.ofO
      unfold methD at p3
      dsimp only at p3
      have had3 := k2.loc had
      cases el : dictAt S2 n with
      | none => rw [el] at p3; exact p3.elim
      | some q =>
        rw [el] at p3
        simp only [Option.bind_some] at p3
        by_cases hk : keyOk q.1 d = true
        · rw [if_pos hk] at p3
          obtain ⟨o, h1, h2⟩ := getD_of k2.sim had3 el hk ry (z := .non) (zd := .non) .non
          exact ⟨o, h1, p3 _ _ _ (.refl k2.sim) h2⟩
        · rw [if_neg hk] at p3; exact p3.elim⟩⟩
end
end PL
set_option Elab.async false
set_option linter.all false
set_option maxRecDepth 100000
namespace PL
open PySem PySem.Spec PyProof.Rows L2
section
variable {g : G} {φ φ' : List Addr} {H H' : Hp} {S S' : Store} {X : Cx} {W : WX} {σ : St} {ix : Ix} {a b c : IE} {ea eb ec : Expr} {pos p0 apos : Pos} {env : Env} {T : Tab} {P : Prog} {k : Nat} {es : List Expr} {is : IEs} {e : Expr}
/-! ### displays of dicts -/
def PRs (g : G) (φ : List Addr) (H : Hp) : List (V × V) → List (D × D) → Prop := Paired fun p q => VR g φ H p.1 q.1 ∧ VR g φ H p.2 q.2
theorem PRs.good {ps : List (V × V)} {l : List (D × D)} (r : PRs g φ H ps l) (s : Sim g φ S H) (k : Good g φ H φ' S' H') : PRs g φ' H' ps l := by
  unfold PRs at r ⊢
  induction r with
  | nil => exact .nil
  | cons h t ih => exact .cons ⟨h.1.good s k, h.2.good s k⟩ ih
structure PPi (g : G) (W : WX) (ix : Ix) (X : Cx) (pos : Pos) (keys : List (Option Expr)) (values : List Expr) (ps : IPs) : Prop where
  ex : ∃ trs, PPs X pos keys values trs ∧ ∀ σ H Q, (Start g σ H fun φ env S => Post g W φ H σ (PRs g) (evPs ix ps env S) Q) → tPairs trs σ H Q
  all : keys.all (·.isSome) = true
  len : keys.length = values.length
theorem ppi_nil : PPi g W ix X pos [] [] .nil := ⟨⟨[], pps_nil, fun σ H Q ⟨φ, env, S, sm, er, p⟩ => by
  unfold evPs at p
  exact p.val sm .nil⟩, rfl, rfl⟩
theorem ppi_cons {ks : List (Option Expr)} {vs : List Expr} {r : IPs} (ha : PE X ea (rdE g W ix a)) (hb : PE X eb (rdE g W ix b)) (hr : PPi g W ix X pos ks vs r) : PPi g W ix X pos (some ea :: ks) (eb :: vs) (.cons a b r) := by
  obtain ⟨⟨trs, h, ht⟩, hall, hlen⟩ := hr
  refine ⟨⟨_, pps_cons ha hb h, fun σ H Q ⟨φ, env, S, sm, er, p⟩ => ?_⟩, by simpa using hall, by simp [hlen]⟩
  unfold evPs at p
  exact ⟨φ, env, S, sm, er, p.bnd fun φ1 S1 H1 x d _ k1 r1 p1 => ⟨φ1, env, S1, k1.sim, er.good sm k1, p1.bnd fun φ2 S2 H2 y d2 _ k2 r2 p2 => by
    refine ht σ H2 _ ⟨φ2, env, S2, k2.sim, (er.good sm k1).good k1.sim k2, p2.bnd fun φ3 S3 H3 ps l _ k3 r3 p3 => ?_⟩
    exact p3.val k3.sim (.cons ⟨(r1.good k1.sim k2).good k2.sim k3, r2.good k2.sim k3⟩ r3)⟩⟩
theorem keys_of : ∀ {ps : List (V × V)} {l : List (D × D)}, PRs g φ H ps l → l.all (fun p => keyOk false p.1) = true → ∃ kvs : List (Key × V), ps = kvs.map (fun kv => (kV kv.1, kv.2)) ∧ DR g φ H kD kvs l
  | _, _, .nil, _ => ⟨[], rfl, .nil⟩
  | p :: ps, q :: l, .cons h t, e => by
    simp only [List.all_cons, Bool.and_eq_true] at e
    obtain ⟨kk, ek⟩ := Option.isSome_iff_exists.mp (show (kD q.1).isSome = true by simpa [keyOk] using e.1)
    obtain ⟨kvs, h1, h2⟩ := keys_of t e.2
    refine ⟨(kk, p.2) :: kvs, ?_, .cons ⟨ek, h.2⟩ h2⟩
    rw [List.map_cons, ← h1, ← h.1.keyK ek]
theorem fold_put : ∀ {kvs : List (Key × V)} {l : List (D × D)} {m : List (Key × V)} {acc : List (D × D)}, DR g φ H kD kvs l → DR g φ H kD m acc → DR g φ H kD (mergeK m kvs) (l.foldl (fun acc p => putK acc p.1 p.2) acc)
  | _, _, _, _, .nil, r => r
  | p :: kvs, q :: l, m, acc, .cons h t, r => by
    have t' : DR g φ H kD kvs l := t
    exact fold_put (kvs := kvs) (l := l) t' (r.put (fun h1 h2 => keyEq_k h1 h2) h.1 h.2)
theorem rE_dict0 {t : Bool} : PE X (.Dict [] [] pos) (rdE g W ix (.dict t .nil)) := by
  cases t with
  | false =>
      refine PEimp pe_dnewK fun σ H Q ⟨φ, env, S, sm, er, p⟩ q hq => ?_
      unfold evE at p
      have k := Good.alloc (g := g) (φ := φ) (S := S) (ob := .dict false []) (o := .dK []) sm hq fun φ' pre kk => ⟨[], upd_same, .nil⟩
      exact p.valG k (.loc (Good.alloc_at sm))
  | true =>
      refine PEimp pe_dnewT fun σ H Q ⟨φ, env, S, sm, er, p⟩ q hq => ?_
      unfold evE at p
      have k := Good.alloc (g := g) (φ := φ) (S := S) (ob := .dict true []) (o := .dT []) sm hq fun φ' pre kk => ⟨[], upd_same, .nil⟩
      exact p.valG k (.loc (Good.alloc_at sm))
theorem rE_dict {keys : List (Option Expr)} {values : List Expr} {r : IPs} {t : Bool} (h : PPi g W ix X pos keys values (.cons a b r)) (h0 : keys ≠ []) (h15 : keys.length ≤ 15) : PE X (.Dict keys values pos) (rdE g W ix (.dict t (.cons a b r))) := by
  obtain ⟨⟨trs, hp, ht⟩, hall, hlen⟩ := h
  refine PEimp (pe_disp hp hall hlen h0 h15) fun σ H Q ⟨φ, env, S, sm, er, p⟩ q hq => ?_
  unfold evE at p
  dsimp only at p
  cases t with
  | true => exact p.elim
  | false =>
    rw [if_pos rfl] at p
    have k := Good.alloc (g := g) (φ := φ) (S := S) (ob := .dict false []) (o := .dK []) sm hq fun φ' pre kk => ⟨[], upd_same, .nil⟩
    refine ht σ _ _ ⟨φ ++ [q], env, S ++ [.dict false []], k.sim, er.good sm k, ?_⟩
    have p := p.from k
    exact p.bnd fun φ2 S2 H2 ps l _ k2 r2 p2 => by
      have hq2 : φ2[S.length]? = some q := k2.loc (Good.alloc_at sm)
      split at p2
      · rename_i es
        by_cases hc : l.length ≤ 15 ∧ l.all (fun p => keyOk false p.1) = true
        · rw [if_pos hc] at p2
          obtain ⟨m, hm, rm⟩ := k2.sim.obj S.length q _ hq2 es
          cases rm
          obtain ⟨kvs, h1, h2⟩ := keys_of r2 hc.2
          have kw := Good.write (o := .dK (mergeK [] kvs)) (ob := .dict false (l.foldl (fun acc p => putK acc p.1 p.2) [])) k2.sim hq2 (by rw [hm]; intro _ _ z; cases z) fun kk => ⟨_, upd_same, (fold_put h2 .nil).mono kk (List.prefix_refl _)⟩
          refine ⟨hm, kvs, h1, ?_, p2.valG kw (.loc hq2)⟩
          rw [Paired.length h2]; exact hc.1
        · rw [if_neg hc] at p2; exact p2.elim
      · exact p2.elim

/-! ### calls by keywords -/
theorem rK_nil : PK X [] (rdEs g W ix .nil) := ⟨fun pos pins s σ H Q I ⟨φ, env, S, sm, er, p⟩ => pk_nil.run pos pins s σ H Q I (by
  unfold evEs at p
  exact p.val sm .nil)⟩
theorem rK_cons {kws : List Keyword} {nm : Option Str} {kp : Pos} {r : IEs} (ha : PE X ea (rdE g W ix a)) (hr : PK X kws (rdEs g W ix r)) : PK X (⟨nm, ea, kp⟩ :: kws) (rdEs g W ix (.cons a r)) :=
  ⟨fun pos pins s σ H Q I ⟨φ, env, S, sm, er, p⟩ => (pk_cons ha hr).run pos pins s σ H Q I (by
    unfold evEs at p
    exact ⟨φ, env, S, sm, er, p.bnd fun φ1 S1 H1 x d _ k r p1 => ⟨φ1, env, S1, k.sim, er.good sm k, p1.bnd fun φ2 S2 H2 xs ds _ k2 r2 p2 => p2.val k2.sim (.cons (r.good k.sim k2) r2)⟩⟩)⟩
theorem perm_vals {vs : List V} {us : List Value} (r : Vals vs us) : ∀ {pm : List Nat} {ds : List D} {ds' : List D}, VRs g φ H vs ds → pm.mapM (fun i => ds[i]?) = some ds' →
    ∃ vs' us', pm.mapM (fun i => us[i]?) = some us' ∧ Vals vs' us' ∧ VRs g φ H vs' ds'
  | [], _, _, _, h => by simp at h; subst h; exact ⟨[], [], rfl, .nil, .nil⟩
  | i :: pm, ds, ds', q, h => by
    simp only [List.mapM_cons, Option.bind_eq_bind, Option.bind_eq_some_iff, Option.pure_def, Option.some.injEq] at h
    obtain ⟨d, h1, t, h2, rfl⟩ := h
    obtain ⟨x, h3, h4⟩ := q.get h1
    obtain ⟨u, h5, h6⟩ := r.get h3
    obtain ⟨vs', us', h7, h8, h9⟩ := perm_vals r q h2
    refine ⟨x :: vs', u :: us', ?_, .cons h6 h8, .cons h4 h9⟩
    simp [List.mapM_cons, h5, h7]
theorem rE_callK {x : Str} {f : String} {F : IFun} {kws : List Keyword} {kn : List String} {pm : List Nat} (K : Kit g T P k X W) (hf : P.fn f = some F) (hx : x = Str.ofString f) (hg : Gl X x) (hdb : (x == ("__debug__" : Str)) = false) (hin : (f, kn, pm) ∈ P.kws) (hne : kn ≠ [])
    (hkw : PK X kws (rdEs g W (ixOf P k) is)) (hall : (backToKw pos (keywordEach kws X.env)).all (·.1.isSome) = true) (hks : (backToKw pos (keywordEach kws X.env)).filterMap (·.1) = kn.map Str.ofString)
    (hpl : ((backTo pos (starEach [] X.env)).any (·.1) || (backToKw pos (keywordEach kws X.env)).any (·.1.isNone)) = false) : PE X (.Call (.Name x p0) [] kws pos) (rdE g W (ixOf P k) (.call f is kn pm)) := by
  subst hx
  obtain ⟨fa, fd, ps, F1, hm, hk, _, hb⟩ := (K.call f F hf).ex
  refine ⟨fun pins s σ H Q I ⟨φ, env, S, sm, er, p⟩ => ?_⟩
  unfold evE at p
  refine wpAny_Call_Name_kw (ld_glob I hg hm ?_ hdb)
  refine PySem.W.callWith_KW0 (h₀ := X.base) I.ok.mod.kin hk hall ?_ hpl
  have h := argsG (K := fun xs H1 => ∃ φ1 S1 ds, Sim g φ1 S1 H1 ∧ VRs g φ1 H1 xs ds ∧ ds.length = kn.length ∧ ∃ ds', pm.mapM (fun i => ds[i]?) = some ds' ∧ Post g W φ1 H1 σ (VR g) (callN P k f ds' S1) Q) p sm er fun φ1 S1 H1 xs ds k1 r1 p1 => by
    cases hpd : permD kn pm ds with
    | none => rw [hpd] at p1; exact p1.elim
    | some ds' =>
      rw [hpd] at p1
      unfold permD at hpd
      split at hpd
      · exact absurd rfl hne
      · by_cases hl : ds.length = kn.length
        · rw [if_pos hl] at hpd
          exact ⟨φ1, S1, ds, k1.sim, r1, hl, ds', hpd, p1⟩
        · rw [if_neg hl] at hpd; cases hpd
  refine thn (hkw.run pos pins s σ H _ I h) fun ws s2 ⟨zs, H2, I2, rz, φ1, S1, ds, s1, r1, hl, ds', hpm, p1⟩ => ⟨I2.kIn, ?_⟩
  rw [hks]
  obtain ⟨vs', us', h7, h8, h9⟩ := perm_vals rz r1 hpm
  have hb2 := hb kn pm hin s2 ws us' I2.kIn (by rw [← rz.length, r1.length, hl]) h7
  refine wpAny_call (codeAny_mono (F1.run X.A X.stack s2 H2 ⟨[], (kn.map Str.ofString).zip ws⟩ us' vs' Q (WE W σ) K.glo.room I2.env0 hb2 h8 ⟨φ1, S1, ds', s1, h9, Post.wish p1 fun _ _ _ h => h⟩) fun r s' hq => ?_)
  cases r with
  | error e => exact passAt K.tk σ pins H2 s2 e s' I2 hq
  | ok fl =>
    cases fl with
    | ret u => exact I2.after hq
    | next => exact False.elim hq
    | brk => exact False.elim hq
    | cont => exact False.elim hq
end
end PL
set_option Elab.async false
set_option linter.all false
set_option maxRecDepth 100000

namespace PySem
open Sem (wp)
open AutoSeq1 (wpAny_loadPart')
set_option maxHeartbeats 1000000 in
theorem pl_enum_new1 {v : Value} {o : Obj} {H : Heap → Prop} (B : Begins v o H) :
    Meets (Builtin.«enumerate.__new__» ⟨[.type "enumerate", v], []⟩) (fun _ R s => H s.heap ∧
      R (.ok (.ret (.ref (s.heap.push o).objs.size))) { s with heap := (s.heap.push o).push { cls := .type "enumerate", data := .fields #[.none, .bool false, .ref s.heap.objs.size, rawInt 0, .none, .none] } }) :=
  .of_wp fun prog w A R s h => by
    obtain ⟨hp, g, d, tk, os⟩ := s; obtain ⟨h1, h⟩ := h
    have hsub := sub_enumerate
    have q1 : ∀ {A' : Around} {E : Value → Shared → Prop} {Q : Value → Shared → Prop}, Q (.ref hp.objs.size) ⟨hp.push o, g, d, tk, os⟩ → wpAny (model prog w) A' (pyIter v) Q E ⟨hp, g, d, tk, os⟩ :=
      fun q => B.iter prog w _ _ ⟨hp, g, d, tk, os⟩ _ h1 q
    wp_walk using q1
    refine wpAny_stack_any fun st => wpAny_pure ?_
    split
    · rename_i c _ _ _ _ _
      cases (c == Value.type "enumerate")
      · wp_walk using q1
        exact ⟨_, rfl, h⟩
      · wp_walk using q1
        exact ⟨_, rfl, h⟩
    · wp_walk using q1
      exact ⟨_, rfl, h⟩
section
variable {prog : Program} {w : World} {A : Around} {E : Value → Shared → Prop} {s : Shared}
theorem pl_enum_begins {v : Value} {o : Obj} {H : Heap → Prop} {Q : Value → Shared → Prop} (B : Begins v o H) (h1 : H s.heap)
    (h : ∀ h', IsEnum h' (s.heap.objs.size + 1) s.heap.objs.size 0 .none → h'.get? s.heap.objs.size = some o → h'.objs.size = s.heap.objs.size + 2 →
      (∀ b o, s.heap.get? b = some o → h'.get? b = some o) → Q (.ref (s.heap.objs.size + 1)) { s with heap := h' }) :
    wpAny (model prog w) A (call (.type "enumerate") [v]) Q E s := by
  refine callType_new F.called_enumerate (by decide) (F.typeCall_enumerate_1 _) (F.newCall_enumerate_1 _) (fun obj => F.args_object_init_2 obj _) F.entry_enumerate_new
    (pl_enum_new1 B) ⟨h1, ?_⟩
  have hz : (s.heap.push o).objs.size = s.heap.objs.size + 1 := Heap.size_push ..
  show _ ∧ _
  rw [hz]
  have he : IsEnum ((s.heap.push o).push { cls := .type "enumerate", data := .fields #[.none, .bool false, .ref s.heap.objs.size, rawInt 0, .none, .none] }) (s.heap.objs.size + 1) s.heap.objs.size 0 .none := by
    have := Heap.get?_push_size (s.heap.push o) (o := { cls := .type "enumerate", data := .fields #[.none, .bool false, .ref s.heap.objs.size, rawInt 0, .none, .none] }) rfl
    rw [hz] at this; exact this
  refine ⟨⟨_, he, rfl⟩, h _ he (Heap.get?_push_of_some _ (Heap.get?_push_size _ B.free)) (by rw [Heap.size_push, hz]) fun b o x => Heap.get?_push_of_some _ (Heap.get?_push_of_some _ x)⟩
end
end PySem

namespace PL
open PySem PySem.Spec PyProof.Rows L2
/-! ### enumerate of a tuple -/
def IteT (K : PySem.W.Frag) (a : Addr) : It :=
  ⟨fun i H => ∃ (xs : List V) (x : V), SqT K H a xs ∧ xs[i]? = some x, fun i H v H' => ∃ T x, v = .ref T ∧ H T = none ∧ H' = upd H T (.tup [.int (i : Nat), x]) ∧ ∀ xs, SqT K H a xs → xs[i]? = some x, fun i H => ∃ xs : List V, SqT K H a xs ∧ xs.length ≤ i⟩
theorem turn_enumT {P : Program} {w : World} {K : PySem.W.Frag} {elts : List Expr} {kk : Nat} {tpos : Pos} (a e it : Addr) :
    Turn P w K (.Tuple elts kk tpos) (IteT K a) [e, it] e (fun i h => (∃ old, IsEnum h e it ((i : Nat) : Int) old) ∧ h.IsTupleIter it a i ∧ e ≠ it ∧ a ≠ it ∧ a ≠ e) where
  mem := by simp
  obj := fun i h st b hb => by
    obtain ⟨⟨old, he⟩, ⟨o, ho, hc, hd⟩, _⟩ := st
    have e' : b = e ∨ b = it := by simpa using hb
    rcases e' with z | z
    · rw [z]; exact ⟨_, he, fun v q => nomatch q⟩
    · rw [z]; exact ⟨o, ho, fun v q => by rw [hd] at q; cases q⟩
  keep := fun i h h' st k => let ⟨⟨old, he⟩, hi, hne⟩ := st; ⟨⟨old, k e (by simp) _ he⟩, hi.at fun o q => k it (by simp) o q, hne⟩
  item := by
    intro X hP hw hK hc i pins s σ H E I hf st hg
    subst hP hw hK
    obtain ⟨⟨old, he⟩, hit, hne, hai, hae⟩ := st
    obtain ⟨xs, x, hq, hx⟩ := hg
    obtain ⟨its, rv, p, hz⟩ := I.tuple hq
    obtain ⟨u, hu, ru⟩ := rv.get hx
    have hel : e < s.heap.objs.size := Heap.lt_size he
    have hil : it < s.heap.objs.size := by obtain ⟨_, q, _⟩ := hit; exact Heap.lt_size q
    have hlt : i < its.toArray.size := by
      have := (List.getElem?_eq_some_iff.mp hu).1
      simpa using this
    have D := Draws.tuple (prog := X.prog) (w := X.w) (A := X.A.in1) (by rw [show X.A.in1.handled = X.A.handled from rfl]; exact I.ok.hd hc) it a hai its.toArray
    refine wpAny_pyNext_enum_itemD D he ⟨hit, show s.heap.IsTuple a its.toArray from p⟩ hlt hne (by simp [hne, Ne.symm hae]) fun x' h' tk hP ho hit' hT hsz hk => ?_
    have ex : x' = u := by
      have : its.toArray[i]? = some u := by simpa using hu
      rw [this] at hP
      exact (Option.some.inj hP).symm
    subst ex
    refine ⟨_, rfl, wpAny_letOwnedTupleGo_enum (s := { s with heap := h', toks := tk + 1 }) ho fun h'' he' sb => ?_⟩
    have hT2 : h''.get? s.heap.objs.size = some { cls := .type "tuple", data := .seq #[.int i tk, x'] } := (sb.2 _ (Nat.ne_of_gt hel)).trans hT
    have new : ObjOk X.prog X.w (upd H s.heap.objs.size (.tup [.int (i : Nat), x])) h'' s.heap.objs.size (.tup [.int (i : Nat), x]) :=
      ⟨by show 2 ≤ sizeLine; decide, [.int i tk, x'], .cons ⟨_, rfl⟩ (.cons ru .nil), ⟨_, hT2, rfl, _, rfl⟩⟩
    have I1 : Inv X pins σ (upd H s.heap.objs.size (.tup [.int (i : Nat), x])) { s with heap := h'', toks := tk + 1 } :=
      I.turnedNew (ch := [e, it]) (fun b ob hb q => (sb.2 b (fun z => hb (by simp [z]))).trans (hk b ob (fun z => hb (by simp [z])) (fun z => hb (by simp [z])) q)) hf (Nat.le_refl _) new
    refine ⟨.ref s.heap.objs.size, _, I1, rfl, ⟨_, x, rfl, I.hok.fresh (Nat.le_refl _), rfl, fun ys hy => by rw [I.tuple_inj hy hq]; exact hx⟩, ⟨⟨x', ?_⟩, hit'.1.at fun o q => (sb.2 it (Ne.symm hne)).trans q, hne, hai, hae⟩, fun b hb => ?_⟩
    · have e1 : ((i + 1 : Nat) : Int) = (i : Int) + 1 := by omega
      rw [e1]; exact he'
    · have hb' : b < s.heap.objs.size := by
        have e' : b = e ∨ b = it := by simpa using hb
        rcases e' with z | z
        · rw [z]; exact hel
        · rw [z]; exact hil
      rw [upd_ne (Nat.ne_of_lt hb')]
      exact (hf b hb).1
  done := by
    intro X hP hw hK hc i pins s σ H E I hf st hg
    subst hP hw hK
    obtain ⟨⟨old, he⟩, hit, hne, hai, hae⟩ := st
    obtain ⟨xs, hq, hx⟩ := hg
    obtain ⟨its, rv, p, hz⟩ := I.tuple hq
    have hl := rv.length
    obtain ⟨hp, g', d, tk, os⟩ := s
    have hT : Shared.TypeIs ⟨hp, g', d, tk, os⟩ (.ref e) "enumerate" := ⟨_, he, rfl⟩
    unfold pyNext
    refine wpAny_bind (wpAny_attempt (wpAny_callSpecial?_slot (name := Str.ofString "__next__") hT F.slot_enumerate_next
      (wpAny_call_entry F.slot_enumerate_next hT F.entry_enumerate_next ?_ (F.args_enumerate_next_1 _))))
    show wpAny _ _ (field (.ref e) 2 >>= _) _ _ _
    refine wpAny_bind (wpAny_field he rfl (x := .ref it) rfl ?_)
    refine wpAny_bind (wpAny_nextOf_tuple_end (by rw [show X.A.in1.handled = X.A.handled from rfl]; exact I.ok.hd hc) hit (show Heap.IsTuple hp a its.toArray from p) (by simp; omega) fun h' x he' hx' => ?_)
    obtain ⟨o, ho, hc'⟩ := hx'
    refine wpAny_bind (wpAny_isInstance (T := "StopIteration") (b := true) ⟨o, ho, hc'⟩ isSubtype_stop ?_)
    refine wpAny_pure ?_
    exact ⟨rfl, I.turnedL (t' := tk) (ch := [e, it]) (fun b o hb q => he' b o (fun z => hb (by simp [z])) q) hf⟩
  self := fun A i s Q E st h => let ⟨⟨_, he⟩, _⟩ := st; wpAny_pyIter_enum he h
def iEnumA (K : PySem.W.Frag) (ta : TA) : TI := fun σ H R => ta σ H fun vs H1 => ∃ a xs, vs = [.ref a] ∧ ((SqL K H1 a xs ∧ R (Ite K a) H1) ∨ (SqT K H1 a xs ∧ R (IteT K a) H1))
theorem pi_enumA {X : Cx} {e : Expr} {ta : TA} {p pos tpos : Pos} {elts : List Expr} {kk : Nat} (hg : Gl X "enumerate") (hm : X.mg "enumerate" = none) (ha : PA X [e] ta) (hs : starEach [e] X.env = [(false, eval e X.env)]) :
    PI X (.Tuple elts kk tpos) (.Call (.Name "enumerate" p) [e] [] pos) (iEnumA X.K ta) := by
  refine ⟨fun pins s σ H R I h => ?_⟩
  refine Call_ (ld_blt I hg hm boot_enumerate (PyProof.Rows.callWith_type1 (thn (ha.run pos pins s σ H _ I h) fun us s1 ⟨vs, H1, I1, r1, q1⟩ => ?_) hs rfl))
  obtain ⟨a, xs, ex, q⟩ := q1
  subst ex
  cases r1 with
  | cons r rr =>
    cases rr
    cases r
    have fresh2 : ∀ b, b ∈ [s1.heap.objs.size + 1, s1.heap.objs.size] → FpOk X pins H1 b := fun b hb => by
      have e' : b = s1.heap.objs.size + 1 ∨ b = s1.heap.objs.size := by simpa using hb
      have hle : s1.heap.objs.size ≤ b := by
        rcases e' with z | z
        · rw [z]; exact Nat.le_add_right _ _
        · rw [z]; exact Nat.le_refl _
      exact I1.fpOk hle (I1.hok.fresh hle)
    rcases q with ⟨hq, q⟩ | ⟨hq, q⟩
    · obtain ⟨its, rv, p', hz⟩ := I1.list hq
      refine call_enumerate_list p'.isList fun h' he hit hsz hk => wpAny_pyIter_enum he ?_
      have I2 : Inv X pins σ H1 { s1 with heap := h' } := I1.kept (t' := s1.toks) hk
      exact ⟨s1.heap.objs.size + 1, [s1.heap.objs.size + 1, s1.heap.objs.size], _, _, H1, rfl, I2, turn_enum a (s1.heap.objs.size + 1) s1.heap.objs.size, ⟨⟨.none, he⟩, hit, Nat.succ_ne_self _⟩, fresh2, q⟩
    · obtain ⟨its, rv, p', hz⟩ := I1.tuple hq
      obtain ⟨o1, ho1, _⟩ := id p'
      have hlt : a < s1.heap.objs.size := Heap.lt_size ho1
      refine pl_enum_begins (begins_tuple a its.toArray) (show s1.heap.IsTuple a its.toArray from p') fun h' he hit hsz hk => wpAny_pyIter_enum he ?_
      have I2 : Inv X pins σ H1 { s1 with heap := h' } := I1.kept (t' := s1.toks) hk
      exact ⟨s1.heap.objs.size + 1, [s1.heap.objs.size + 1, s1.heap.objs.size], _, _, H1, rfl, I2, turn_enumT a (s1.heap.objs.size + 1) s1.heap.objs.size, ⟨⟨.none, he⟩, ⟨_, hit, rfl, rfl⟩, Nat.succ_ne_self _, Nat.ne_of_lt hlt, Nat.ne_of_lt (Nat.lt_succ_of_lt hlt)⟩, fresh2, q⟩
end PL
set_option Elab.async false
set_option linter.all false
set_option maxRecDepth 100000
namespace PL
open PySem PySem.Spec PyProof.Rows L2
section
variable {g : G} {φ φ' : List Addr} {H H' : Hp} {S S' : Store} {X : Cx} {W : WX} {σ : St} {ix : Ix} {a b c : IE} {ea eb ec : Expr} {pos p0 apos : Pos} {env : Env} {T : Tab} {P : Prog} {k : Nat} {es : List Expr} {is : IEs} {e : Expr} {tg : Expr}

/-! ### targets -/
mutual
def ITg.slots : ITg → List Nat
  | .nm i => [i]
  | .tup l => slotsL l
def slotsL : List ITg → List Nat
  | [] => []
  | t :: r => t.slots ++ slotsL r
end
/-- the slots but these stay -/
def Same (l : List Nat) (σ σ' : St) : Prop := σ'.length = σ.length ∧ ∀ j, j ∉ l → σ'[j]? = σ[j]?
theorem Same.refl (l : List Nat) : Same l σ σ := ⟨rfl, fun _ _ => rfl⟩
theorem Same.trans {l m : List Nat} {σ σ' σ'' : St} (h : Same l σ σ') (h' : Same m σ' σ'') : Same (l ++ m) σ σ'' := by
  refine ⟨h'.1.trans h.1, fun j hj => ?_⟩
  simp only [List.mem_append, not_or] at hj
  exact (h'.2 j hj.2).trans (h.2 j hj.1)
theorem EnvR.set (er : EnvR g φ H σ env) {x : V} {d : D} (r : VR g φ H x d) (i : Nat) : EnvR g φ H (σ.set i (some x)) (env.set i (some d)) := by
  refine ⟨by rw [List.length_set, List.length_set]; exact er.len, fun j d' h => ?_⟩
  by_cases hij : i = j
  · subst hij
    have hl : i < env.length := by
      have := (List.getElem?_eq_some_iff.mp h).1
      simpa using this
    rw [List.getElem?_set_self hl] at h
    cases h
    exact ⟨x, by rw [List.getElem?_set_self (by rw [er.len]; exact hl)], r⟩
  · rw [List.getElem?_set_ne hij] at h
    obtain ⟨y, h1, h2⟩ := er.val j d' h
    exact ⟨y, by rw [List.getElem?_set_ne hij]; exact h1, h2⟩
theorem Same.set {l : List Nat} {i : Nat} {x : Option V} (h : i ∈ l) : Same l σ (σ.set i x) := by
  refine ⟨List.length_set .., fun j hj => ?_⟩
  rw [List.getElem?_set_ne (by rintro rfl; exact hj h)]
def rdG (g : G) (t : ITg) : TG := fun x σ H Q => ∃ φ env S d env', Sim g φ S H ∧ EnvR g φ H σ env ∧ VR g φ H x d ∧ bindT t d env = some env' ∧ ∀ σ', EnvR g φ H σ' env' → Same t.slots σ σ' → Q σ' H
def rdGs (g : G) (t : List ITg) : TGs := fun xs σ H Q => ∃ φ env S ds env', Sim g φ S H ∧ EnvR g φ H σ env ∧ VRs g φ H xs ds ∧ bindTs t ds env = some env' ∧ ∀ σ', EnvR g φ H σ' env' → Same (slotsL t) σ σ' → Q σ' H
theorem PGimp {X : Cx} {e : Expr} {t t' : TG} (h : PG X e t) (k : ∀ x σ H Q, t' x σ H Q → t x σ H Q) : PG X e t' := ⟨fun pins s σ H v u Q I r q => h.run pins s σ H v u Q I r (k v σ H Q q)⟩
theorem PGsimp {X : Cx} {e : List Expr} {t t' : TGs} (h : PGs X e t) (k : ∀ x σ H Q, t' x σ H Q → t x σ H Q) : PGs X e t' := ⟨fun pins s σ H v u Q I r q => h.run pins s σ H v u Q I r (k v σ H Q q)⟩
theorem locB_iff {k : SC} {i : Nat} {x : Str} (hN : X.N = k.N) (hsc : X.env.scope = k.sc) (hfn : X.fn = k.fn) (h : locB k i x = true) : X.N[i]? = some x ∧ Loc X.env.scope x ∧ (X.fn x = true ∨ X.env.scope.names.lookup x = some .local) := by
  unfold locB at h
  simp only [Bool.and_eq_true, beq_iff_eq] at h
  obtain ⟨h1, h2⟩ := h
  rw [hN, hsc, hfn]
  refine ⟨h1, ?_⟩
  cases e : k.sc.names.lookup x with
  | none => rw [e] at h2; cases h2
  | some v =>
    rw [e] at h2
    cases v with
    | «local» => exact ⟨.inl e, .inr rfl⟩
    | cell => exact ⟨.inr e, .inl h2⟩
    | _ => cases h2
theorem rG_nm {k : SC} {i : Nat} {x : Str} (nd : X.N.Nodup) (hN : X.N = k.N) (hsc : X.env.scope = k.sc) (hfn : X.fn = k.fn) (h : locB k i x = true) : PG X (.Name x pos) (rdG g (.nm i)) := by
  obtain ⟨h1, h2, h3⟩ := locB_iff hN hsc hfn h
  refine PGimp (pg_name nd h1 h2 h3) fun v σ H Q ⟨φ, env, S, d, env', sm, er, r, hb, q⟩ => ?_
  simp only [bindT, Option.some.injEq] at hb
  subst hb
  exact q _ (er.set r i) (Same.set (by simp [ITg.slots]))
theorem rGs_nil : PGs X [] (rdGs g []) := PGsimp pgs_nil fun v σ H Q ⟨φ, env, S, d, env', sm, er, r, hb, q⟩ => by
  cases r with
  | nil =>
    simp only [bindTs, Option.some.injEq] at hb
    subst hb
    exact ⟨rfl, q σ er (Same.refl _)⟩
  | cons _ _ => simp [bindTs] at hb
theorem rGs_cons {t : ITg} {ts : List ITg} {e : Expr} {es : List Expr} (h : PG X e (rdG g t)) (hs : PGs X es (rdGs g ts)) (hst : assignEach (e :: es) X.env = (false, assign e X.env) :: assignEach es X.env) : PGs X (e :: es) (rdGs g (t :: ts)) :=
  PGsimp (pgs_cons h hs (by rw [hst]; rfl)) fun v σ H Q ⟨φ, env, S, d, env', sm, er, r, hb, q⟩ => by
    cases r with
    | nil => simp [bindTs] at hb
    | cons rx rt =>
      simp only [bindTs, Option.bind_eq_some_iff] at hb
      obtain ⟨env1, hb1, hb2⟩ := hb
      exact ⟨_, _, rfl, φ, env, S, _, env1, sm, er, rx, hb1, fun σ1 er1 s1 => ⟨φ, env1, S, _, env', sm, er1, rt, hb2, fun σ2 er2 s2 => q σ2 er2 (s1.trans s2)⟩⟩
theorem rG_tup {ts : List ITg} {es : List Expr} {kk : Nat} (hK : X.K = g.K) (hc : X.calm = true) (hs : PGs X es (rdGs g ts)) (hl : es.length = ts.length) (hn : (assignEach es X.env).length = es.length) (hst : (assignEach es X.env).findIdx? (·.1) = none) : PG X (.Tuple es kk pos) (rdG g (.tup ts)) :=
  PGimp (pg_tup hc hs rfl hst) fun v σ H Q ⟨φ, env, S, d, env', sm, er, r, hb, q⟩ => by
    cases r with
    | tup e t =>
      rename_i a xs ds _
      have hlen : ∀ {ts : List ITg} {ds : List D} {env env' : Env}, bindTs ts ds env = some env' → ds.length = ts.length := fun {ts} => by
        induction ts with
        | nil => intro ds env env' h; cases ds with
          | nil => rfl
          | cons _ _ => simp [bindTs] at h
        | cons t ts ih => intro ds env env' h; cases ds with
          | nil => simp [bindTs] at h
          | cons d ds =>
            simp only [bindTs, Option.bind_eq_some_iff] at h
            obtain ⟨env1, _, h2⟩ := h
            rw [List.length_cons, List.length_cons, ih h2]
      have hb' : bindTs ts ds env = some env' := by simpa [bindT] using hb
      refine ⟨a, xs, rfl, .of e, ?_, φ, env, S, ds, env', sm, er, t, hb', q⟩
      rw [hn, hl, t.length, hlen hb']
    | _ => simp [bindT] at hb

/-! ### what is walked -/
structure ItR (g : G) (φ : List Addr) (H : Hp) (J : It) (l : List D) (src : Src) : Prop where
  go : ∀ φ1 S1 H1 i, Good g φ H φ1 S1 H1 → src.ok S1 → i < l.length → J.go i H1
  stop : ∀ φ1 S1 H1, Good g φ H φ1 S1 H1 → src.ok S1 → J.stop l.length H1
  yld : ∀ φ1 S1 H1 i x H2, Good g φ H φ1 S1 H1 → src.ok S1 → i < l.length → J.yld i H1 x H2 → ∃ d, l[i]? = some d ∧ Good g φ1 H1 φ1 S1 H2 ∧ VR g φ1 H2 x d
/-- a list or a tuple that stays -/
def SeqR (g : G) (t : Bool) (φ : List Addr) (H : Hp) (a : Addr) (l : List D) (src : Src) : Prop := ∀ φ1 S1 H1, Good g φ H φ1 S1 H1 → src.ok S1 → ∃ xs, (if t = true then SqT g.K H1 a xs else SqL g.K H1 a xs) ∧ VRs g φ1 H1 xs l
theorem seq_tup (sm : Sim g φ S H) {a : Addr} {xs : List V} {l : List D} (e : H a = some (.tup xs)) (r : VRs g φ H xs l) (src : Src) : SeqR g true φ H a l src := fun φ1 S1 H1 k _ => ⟨xs, .of ((k.rsv sm).1 _ _ e), r.good sm k⟩
theorem seq_free {a : Addr} {xs : List V} {l : List D} (sm : Sim g φ S H) (e : H a = some (.lst xs)) (hn : a ∉ φ) (r : VRs g φ H xs l) (src : Src) : SeqR g false φ H a l src := fun φ1 S1 H1 k _ => ⟨xs, .of (k.fm _ _ e hn), r.good sm k⟩
theorem seq_list {a : Addr} {n : Nat} {l : List D} (ha : φ[n]? = some a) {src : Src} (hs : ∀ S, src.ok S → S[n]? = some (.lst l)) : SeqR g false φ H a l src := fun φ1 S1 H1 k h => by
  obtain ⟨xs, h1, h2⟩ := k.sim.obj n a _ (k.loc ha) (hs S1 h)
  exact ⟨xs, .of h1, h2⟩
theorem SeqR.it {a : Addr} {l : List D} {src : Src} {t : Bool} (s : SeqR g t φ H a l src) : ItR g φ H (if t = true then Itt g.K a else Itl g.K a) l src := by
  refine ⟨fun φ1 S1 H1 i k h hi => ?_, fun φ1 S1 H1 k h => ?_, fun φ1 S1 H1 i x H2 k h hi y => ?_⟩
  · obtain ⟨xs, h1, h2⟩ := s φ1 S1 H1 k h
    obtain ⟨x, h3, _⟩ := h2.get (List.getElem?_eq_getElem hi)
    cases t <;> exact ⟨xs, x, h1, h3⟩
  · obtain ⟨xs, h1, h2⟩ := s φ1 S1 H1 k h
    cases t <;> exact ⟨xs, h1, by rw [h2.length]; exact Nat.le_refl _⟩
  · obtain ⟨xs, h1, h2⟩ := s φ1 S1 H1 k h
    obtain ⟨z, h3, h4⟩ := h2.get (List.getElem?_eq_getElem hi)
    cases t <;>
    · obtain ⟨rfl, y⟩ := y
      have := y xs h1
      rw [h3] at this; cases this
      exact ⟨_, List.getElem?_eq_getElem hi, .refl k.sim, h4⟩
theorem enumD_length : ∀ (l : List D) (i : Int), (enumD i l).length = l.length
  | [], _ => rfl
  | _ :: r, i => by simp [enumD, enumD_length r]
theorem enumD_get : ∀ (l : List D) (i : Int) (j : Nat), (enumD i l)[j]? = (l[j]?).map fun d => packI (i + j) d
  | [], _, _ => by simp [enumD]
  | d :: r, i, 0 => by simp [enumD]
  | d :: r, i, j + 1 => by
    simp only [enumD, List.getElem?_cons_succ]
    rw [enumD_get r (i + 1) j]
    have : i + 1 + (j : Int) = i + ((j + 1 : Nat) : Int) := by omega
    rw [this]
theorem SeqR.enum {a : Addr} {l : List D} {src : Src} {t : Bool} (s : SeqR g t φ H a l src) : ItR g φ H (if t = true then IteT g.K a else Ite g.K a) (enumD 0 l) src := by
  refine ⟨fun φ1 S1 H1 i k h hi => ?_, fun φ1 S1 H1 k h => ?_, fun φ1 S1 H1 i x H2 k h hi y => ?_⟩
  · rw [enumD_length] at hi
    obtain ⟨xs, h1, h2⟩ := s φ1 S1 H1 k h
    obtain ⟨x, h3, _⟩ := h2.get (List.getElem?_eq_getElem hi)
    cases t <;> exact ⟨xs, x, h1, h3⟩
  · obtain ⟨xs, h1, h2⟩ := s φ1 S1 H1 k h
    cases t <;> exact ⟨xs, h1, by rw [h2.length, enumD_length]; exact Nat.le_refl _⟩
  · rw [enumD_length] at hi
    obtain ⟨xs, h1, h2⟩ := s φ1 S1 H1 k h
    obtain ⟨z, h3, h4⟩ := h2.get (List.getElem?_eq_getElem hi)
    cases t <;>
    · obtain ⟨T, x', rfl, hT, rfl, y⟩ := y
      have := y xs h1
      rw [h3] at this; cases this
      have kk : Good g φ1 H1 φ1 S1 (upd H1 T (.tup [.int (i : Nat), z])) := .made k.sim hT
      refine ⟨packI i l[i], by rw [enumD_get, List.getElem?_eq_getElem hi]; simp, kk, .tup upd_same (.cons (.int _) (.one (h4.good k.sim kk)))⟩
theorem zipD_get : ∀ (l m : List D) (j : Nat), (zipD l m)[j]? = match l[j]?, m[j]? with | some a, some b => some (.tup [a, b]) | _, _ => none
  | [], _, _ => by simp [zipD]
  | a :: r, [], j => by
    simp only [zipD, List.getElem?_nil]
    cases (a :: r)[j]? <;> rfl
  | a :: r, b :: s, 0 => by simp [zipD]
  | a :: r, b :: s, j + 1 => by
    simp only [zipD, List.getElem?_cons_succ]
    exact zipD_get r s j
theorem zipD_length : ∀ (l m : List D), (zipD l m).length = min l.length m.length
  | [], _ => by simp [zipD]
  | a :: r, [] => by simp [zipD]
  | a :: r, b :: s => by simp only [zipD, List.length_cons, zipD_length r s]; omega
theorem SeqR.zip {a b : Addr} {l m : List D} {src : Src} {t : Bool} (s : SeqR g t φ H a l src) (s' : SeqR g t φ H b m src) : ItR g φ H (if t = true then RZ.ItzT g.K a b else Itz g.K a b) (zipD l m) src := by
  refine ⟨fun φ1 S1 H1 i k h hi => ?_, fun φ1 S1 H1 k h => ?_, fun φ1 S1 H1 i x H2 k h hi y => ?_⟩
  · rw [zipD_length] at hi
    obtain ⟨xs, h1, h2⟩ := s φ1 S1 H1 k h
    obtain ⟨ys, g1, g2⟩ := s' φ1 S1 H1 k h
    obtain ⟨x, h3, _⟩ := h2.get (List.getElem?_eq_getElem (show i < l.length by omega))
    obtain ⟨y, g3, _⟩ := g2.get (List.getElem?_eq_getElem (show i < m.length by omega))
    cases t <;> exact ⟨xs, ys, x, y, h1, g1, h3, g3⟩
  · obtain ⟨xs, h1, h2⟩ := s φ1 S1 H1 k h
    obtain ⟨ys, g1, g2⟩ := s' φ1 S1 H1 k h
    have : xs.length ≤ (zipD l m).length ∨ ys.length ≤ (zipD l m).length := by rw [zipD_length, h2.length, g2.length]; omega
    cases t <;> exact ⟨xs, ys, h1, g1, this⟩
  · rw [zipD_length] at hi
    obtain ⟨xs, h1, h2⟩ := s φ1 S1 H1 k h
    obtain ⟨ys, g1, g2⟩ := s' φ1 S1 H1 k h
    have i1 : i < l.length := by omega
    have i2 : i < m.length := by omega
    obtain ⟨z, h3, h4⟩ := h2.get (List.getElem?_eq_getElem i1)
    obtain ⟨z', g3, g4⟩ := g2.get (List.getElem?_eq_getElem i2)
    cases t <;>
    · obtain ⟨T, x', y', rfl, hT, rfl, y, y2⟩ := y
      have e1 := y xs h1
      have e2 := y2 ys g1
      rw [h3] at e1; cases e1
      rw [g3] at e2; cases e2
      have kk : Good g φ1 H1 φ1 S1 (upd H1 T (.tup [z, z'])) := .made k.sim hT
      refine ⟨.tup [l[i], m[i]], by rw [zipD_get, List.getElem?_eq_getElem i1, List.getElem?_eq_getElem i2], kk, .tup upd_same (.cons (h4.good k.sim kk) (.one (g4.good k.sim kk)))⟩
theorem rangeD_length (lo hi : Int) : (rangeD lo hi).length = (hi - lo).toNat := by simp [rangeD]
theorem it_range (lo hi : Int) : ItR g φ H (Itr lo (hi - lo).toNat) (rangeD lo hi) .free := by
  refine ⟨fun φ1 S1 H1 i k h hi => ?_, fun φ1 S1 H1 k h => ?_, fun φ1 S1 H1 i x H2 k h hi y => ?_⟩
  · rw [rangeD_length] at hi; exact hi
  · rw [rangeD_length]; exact Nat.le_refl _
  · obtain ⟨rfl, rfl⟩ := y
    rw [rangeD_length] at hi
    refine ⟨.int (lo + i), ?_, .refl k.sim, .int _⟩
    unfold rangeD
    rw [List.getElem?_map, List.getElem?_range hi]; rfl
end
end PL
set_option Elab.async false
set_option linter.all false
set_option maxRecDepth 100000
namespace PL
open PySem PySem.Spec PyProof.Rows L2
section
variable {g : G} {φ φ' φ0 : List Addr} {H H' H0 : Hp} {S S' S0 : Store} {X : Cx} {W : WX} {σ : St} {ix : Ix} {a b c : IE} {ea eb ec : Expr} {pos p0 apos : Pos} {env : Env} {T : Tab} {P : Prog} {k : Nat} {es : List Expr} {is : IEs} {e : Expr} {tg : Expr} {α β γ δ : Type} {rel : List Addr → Hp → β → α → Prop} {rel2 : List Addr → Hp → δ → γ → Prop}
/-- a step, what follows told from an earlier state -/
theorem Post.bndB {r : Option (R α)} {f : α → Store → Option (R γ)} {Q : δ → Hp → Prop} {K : β → Hp → Prop} (k0 : Good g φ0 H0 φ S H) (p : Post g W φ0 H0 σ rel2 (PL.bnd r f) Q)
    (h : ∀ φ1 S1 H1 x d, r = some (.val d S1) → Good g φ H φ1 S1 H1 → rel φ1 H1 x d → Post g W φ0 H0 σ rel2 (f d S1) Q → K x H1) : Post g W φ H σ rel r K := by
  cases r with
  | none => exact p
  | some r =>
    cases r with
    | val d S2 => exact fun φ2 H2 x k2 rx => h φ2 S2 H2 x d rfl k2 rx p
    | exc e S2 => exact fun φ2 H2 c d k2 rx => p φ2 H2 c d (k0.trans k2) rx
theorem Post.cmp {r : Option (R D)} {Q : VK} (sm : Sim g φ S H) (p : Post g W φ H σ (VR g) (cmpR S r) Q) : Post g W φ H σ (VR g) r Q := by
  cases r with
  | none => exact p
  | some r =>
    cases r with
    | exc e S2 => exact p
    | val d S2 =>
      intro φ' H' x k rx
      obtain ⟨φc, kc, rc⟩ := compact_good sm k rx
      exact p φc H' x kc rc
theorem Post.tst {r : Option (R D)} {Q : Bool → Hp → Prop} (sm : Sim g φ S H) (p : Post g W φ H σ bRel (tstR S r) Q) : Post g W φ H σ bRel (truR r) Q := by
  cases r with
  | none => exact p
  | some r =>
    cases r with
    | exc e S2 => exact p
    | val d S2 =>
      unfold tstR at p
      dsimp only at p
      rw [truR_val]
      cases e : truthD S2 d with
      | none => rw [e] at p; exact p
      | some b =>
        rw [e] at p
        intro φ' H' x k rx
        obtain ⟨φc, kc, rc⟩ := compact_good sm k (.bl b)
        exact p φc H' x kc rx
theorem evEs1 {F : List D → Store → Option (R γ)} : bnd (evEs ix (.cons a .nil) env S) F = bnd (evE ix a env S) fun y S2 => F [y] S2 := by
  unfold evEs
  cases evE ix a env S with
  | none => rfl
  | some r =>
    cases r with
    | exc _ _ => rfl
    | val d S2 =>
      simp only [bnd_val]
      unfold evEs
      rfl
theorem evEs2 {F : List D → Store → Option (R γ)} : bnd (evEs ix (.cons a (.cons b .nil)) env S) F = bnd (evE ix a env S) fun y S2 => bnd (evE ix b env S2) fun z S3 => F [y, z] S3 := by
  unfold evEs
  cases evE ix a env S with
  | none => rfl
  | some r =>
    cases r with
    | exc _ _ => rfl
    | val d S2 =>
      simp only [bnd_val]
      rw [← evEs1 (F := fun zs S3 => F (d :: zs) S3)]
      cases evEs ix (.cons b .nil) env S2 with
      | none => rfl
      | some r =>
        cases r with
        | exc _ _ => rfl
        | val d S2 => rfl
def itRel (g : G) : List Addr → Hp → It → List D × Src → Prop := fun φ H J p => ItR g φ H J p.1 p.2
def rdI (g : G) (W : WX) (ix : Ix) (it : IIt) : TI := fun σ H R => Start g σ H fun φ env S => Post g W φ H σ (itRel g) (evIt ix it env S) R
theorem PIimp {t t' : TI} (h : PI X tg e t) (k : ∀ σ H R, t' σ H R → t σ H R) : PI X tg e t' := ⟨fun pins s σ H R I q => h.run pins s σ H R I (k σ H R q)⟩
def iSeq (K : PySem.W.Frag) (tl : TE) : TI := fun σ H R => tl σ H fun x H1 => ∃ a, x = .ref a ∧ (((∃ xs, SqL K H1 a xs) ∧ R (Itl K a) H1) ∨ ((∃ xs, SqT K H1 a xs) ∧ R (Itt K a) H1))
theorem pi_seq {l : Expr} {tl : TE} (hl : PE X l tl) : PI X tg l (iSeq X.K tl) := by
  refine ⟨fun pins s σ H R I h => ?_⟩
  refine thn (hl.run pins s σ H _ I h) fun v s1 ⟨x, H1, I1, r1, q1⟩ => ?_
  obtain ⟨a, e, q⟩ := q1
  subst e
  cases r1
  rcases q with ⟨⟨xs, hq⟩, q⟩ | ⟨⟨xs, hq⟩, q⟩
  · obtain ⟨its, rv, p, hz⟩ := I1.list hq
    refine wpAny_pyIter_list p.isList ?_
    refine ⟨s1.heap.objs.size, [s1.heap.objs.size], _, _, H1, rfl, I1.kept (t' := s1.toks) fun b o e => Heap.get?_push_of_some _ e, turn_list a _, ⟨_, Heap.get?_push_size _ rfl, rfl, rfl⟩, fun b hb => ?_, q⟩
    have e : b = s1.heap.objs.size := by simpa using hb
    subst e
    exact I1.fpOk (Nat.le_refl _) (I1.hok.fresh (Nat.le_refl _))
  · obtain ⟨its, rv, p, hz⟩ := I1.tuple hq
    refine wpAny_pyIter_tuple (show s1.heap.IsTuple a its.toArray from p) ?_
    refine ⟨s1.heap.objs.size, [s1.heap.objs.size], _, _, H1, rfl, I1.kept (t' := s1.toks) fun b o e => Heap.get?_push_of_some _ e, turn_tuple a _, ⟨_, Heap.get?_push_size _ rfl, rfl, rfl⟩, fun b hb => ?_, q⟩
    have e : b = s1.heap.objs.size := by simpa using hb
    subst e
    exact I1.fpOk (Nat.le_refl _) (I1.hok.fresh (Nat.le_refl _))
/-- a value that is walked: how it stands -/
theorem items_of {d : D} {x : V} {f : List D × Src → List D × Src} {R : It → Hp → Prop} (sm : Sim g φ S H) (k : Good g φ H φ' S' H') (r : VR g φ' H' x d) (p : Post g W φ H σ (itRel g) ((itemsOf S (compact S (d, S')).1 (compact S (d, S')).2).map fun q => .val (f q.1) q.2) R) :
    ∃ a t l src φ1 S1, x = .ref a ∧ (∃ xs, if t = true then SqT g.K H' a xs else SqL g.K H' a xs) ∧ Good g φ H φ1 S1 H' ∧ SeqR g t φ1 H' a l src ∧ Post g W φ H σ (itRel g) (some (.val (f (l, src)) S1)) R := by
  obtain ⟨φc, kc, rc⟩ := compact_good sm k r
  revert p kc rc
  generalize compact S (d, S') = q
  obtain ⟨d', S2⟩ := q
  intro p kc rc
  dsimp only at p kc rc
  cases rc with
  | tup e t =>
    rename_i a xs l
    exact ⟨a, true, l, .free, φc, S2, rfl, ⟨xs, .of e⟩, kc, seq_tup kc.sim e t _, p⟩
  | loc e =>
    rename_i a n
    unfold itemsOf at p
    dsimp only at p
    cases el : lstAt S2 n with
    | none => rw [el] at p; exact p.elim
    | some l =>
      rw [el] at p
      dsimp only at p
      obtain ⟨xs, h1, h2⟩ := kc.sim.lstA e el
      by_cases hc : S.length ≤ n ∧ D.pures l = true ∧ Kept S S2
      · rw [if_pos hc] at p
        have kk := sm.cut kc hc.2.2
        have hn : a ∉ φ := fun z => by
          obtain ⟨m, hl, q⟩ := List.mem_iff_getElem.mp z
          obtain ⟨rr, hpre⟩ := kc.pre
          have e2 : φc[m]? = some a := by rw [← hpre, List.getElem?_append_left hl, List.getElem?_eq_getElem hl, q]
          obtain ⟨h1, q1⟩ := List.getElem?_eq_some_iff.mp e
          obtain ⟨h2, q2⟩ := List.getElem?_eq_some_iff.mp e2
          have : n = m := (List.getElem_inj kc.sim.nd).mp (q1.trans q2.symm)
          have hl' : m < S.length := by rw [← sm.len]; exact hl
          omega
        exact ⟨a, false, l, .free, φ, S2.take S.length, rfl, ⟨xs, .of h1⟩, kk, seq_free kk.sim h1 hn (h2.pure hc.2.1) _, p⟩
      · rw [if_neg hc] at p
        exact ⟨a, false, l, .list n l, φc, S2, rfl, ⟨xs, .of h1⟩, kc, seq_list e fun S h => h, p⟩
  | _ => exact p.elim
theorem rI_val (hK : X.K = g.K) (ha : PE X ea (rdE g W ix a)) : PI X tg ea (rdI g W ix (.val a)) :=
  PIimp (pi_seq ha) fun σ H R ⟨φ, env, S, sm, er, p⟩ => by
    unfold evIt at p
    exact ⟨φ, env, S, sm, er, Post.bndB (.refl sm) p fun φ1 S1 H1 x d _ k r p1 => by
      obtain ⟨z, t, l, src, φ2, S2, rfl, hs, k2, sq, p2⟩ := items_of (f := fun q => q) sm k r p1
      rw [hK]
      refine ⟨z, rfl, ?_⟩
      cases t with
      | true => exact .inr ⟨hs, p2 φ2 H1 _ k2 sq.it⟩
      | false => exact .inl ⟨hs, p2 φ2 H1 _ k2 sq.it⟩⟩
theorem rI_enum {elts : List Expr} {kk : Nat} {tpos : Pos} (hK : X.K = g.K) (hg : Gl X "enumerate") (hm : X.mg "enumerate" = none) (ha : PE X ea (rdE g W ix a)) (hs : starB ea = false) : PI X (.Tuple elts kk tpos) (.Call (.Name "enumerate" p0) [ea] [] pos) (rdI g W ix (.enum a)) :=
  PIimp (pi_enumA hg hm (rA_cons ha rA_nil (star_cons hs)) (star_cons hs)) fun σ H R ⟨φ, env, S, sm, er, p⟩ => by
    unfold evIt at p
    have p : Post g W φ H σ (itRel g) (PL.bnd (evEs ix (.cons a .nil) env S) (fun ds S1 => match ds with | [d] => (itemsOf S (compact S (d, S1)).1 (compact S (d, S1)).2).map fun p => PL.R.val (enumD 0 p.1.1, p.1.2) p.2 | _ => none)) R := by
      rw [evEs1]; exact p
    exact ⟨φ, env, S, sm, er, Post.bndB (.refl sm) p fun φ1 S1 H1 xs ds _ k r p1 => by
      split at p1
      · obtain ⟨x, rfl, rx⟩ := r.inv1
        obtain ⟨z, t, l, src, φ2, S2, rfl, ⟨ys, hs⟩, k2, sq, p2⟩ := items_of (f := fun q => (enumD 0 q.1, q.2)) sm k rx p1
        rw [hK]
        refine ⟨z, ys, rfl, ?_⟩
        cases t with
        | true => exact .inr ⟨hs, p2 φ2 H1 _ k2 sq.enum⟩
        | false => exact .inl ⟨hs, p2 φ2 H1 _ k2 sq.enum⟩
      · exact p1.elim⟩
theorem okRange_iff {i : Int} (h : okRange i = true) : -(2 ^ 62) ≤ i ∧ i < 2 ^ 62 := by
  unfold okRange at h
  rw [Bool.and_eq_true] at h
  exact ⟨of_decide_eq_true h.1, of_decide_eq_true h.2⟩
theorem rI_range1 (hg : Gl X "range") (hm : X.mg "range" = none) (ha : PE X ea (rdE g W ix a)) (hs : starB ea = false) : PI X tg (.Call (.Name "range" p0) [ea] [] pos) (rdI g W ix (.range1 a)) :=
  PIimp (pi_range1 hg hm (rA_cons ha rA_nil (star_cons hs)) (star_cons hs)) fun σ H R ⟨φ, env, S, sm, er, p⟩ => by
    unfold evIt at p
    have p : Post g W φ H σ (itRel g) (PL.bnd (evEs ix (.cons a .nil) env S) (fun ds S1 => match ds with | [d] => (match d with | .int i => if okRange i then some (PL.R.val (rangeD 0 i, Src.free) (compact S (d, S1)).2) else none | _ => none) | _ => none)) R := by
      rw [evEs1]; exact p
    exact ⟨φ, env, S, sm, er, Post.bndB (.refl sm) p fun φ1 S1 H1 xs ds _ k r p1 => by
      split at p1
      · obtain ⟨x, rfl, rx⟩ := r.inv1
        split at p1
        · rename_i i _
          cases rx
          by_cases hr : okRange i = true
          · rw [if_pos hr] at p1
            obtain ⟨φc, kc, rc⟩ := compact_good sm k (.int i)
            obtain ⟨h1, h2⟩ := okRange_iff hr
            have := it_range (g := g) (φ := φc) (H := H1) 0 i
            rw [Int.sub_zero] at this
            exact ⟨i, rfl, h1, h2, p1 φc H1 _ kc this⟩
          · rw [if_neg hr] at p1; exact p1.elim
        · exact p1.elim
      · exact p1.elim⟩
theorem rI_range2 (hg : Gl X "range") (hm : X.mg "range" = none) (ha : PE X ea (rdE g W ix a)) (hb : PE X eb (rdE g W ix b)) (hs : starB ea = false) (hs2 : starB eb = false) : PI X tg (.Call (.Name "range" p0) [ea, eb] [] pos) (rdI g W ix (.range2 a b)) :=
  PIimp (pi_range2 hg hm (rA_cons ha (rA_cons hb rA_nil (star_cons hs2)) (star_cons hs)) (by rw [star_cons hs, star_cons hs2]; rfl) (star_cons hs2)) fun σ H R ⟨φ, env, S, sm, er, p⟩ => by
    unfold evIt at p
    have p : Post g W φ H σ (itRel g) (PL.bnd (evEs ix (.cons a (.cons b .nil)) env S) (fun ds S2 => match ds with | [d, e] => (match d, e with | .int i, .int j => if okRange i && okRange j then some (PL.R.val (rangeD i j, Src.free) (compact S (d, S2)).2) else none | _, _ => none) | _ => none)) R := by
      rw [evEs2]; exact p
    exact ⟨φ, env, S, sm, er, Post.bndB (.refl sm) p fun φ1 S1 H1 xs ds _ k r p1 => by
      split at p1
      · obtain ⟨x, y, rfl, rx, ry⟩ := r.inv2
        split at p1
        · rename_i i j _
          cases rx
          cases ry
          by_cases hr : (okRange i && okRange j) = true
          · rw [if_pos hr] at p1
            obtain ⟨φc, kc, rc⟩ := compact_good sm k (.int i)
            rw [Bool.and_eq_true] at hr
            obtain ⟨h1, h2⟩ := okRange_iff hr.1
            obtain ⟨h3, h4⟩ := okRange_iff hr.2
            exact ⟨i, j, rfl, ⟨h1, h2, h3, h4⟩, p1 φc H1 _ kc (it_range i j)⟩
          · rw [if_neg hr] at p1; exact p1.elim
        · exact p1.elim
      · exact p1.elim⟩
open Classical in
theorem rI_zip {elts : List Expr} {kk : Nat} {tpos : Pos} (hK : X.K = g.K) (hg : Gl X "zip") (hm : X.mg "zip" = none) (ha : PE X ea (rdE g W ix a)) (hb : PE X eb (rdE g W ix b)) (hs : starB ea = false) (hs2 : starB eb = false) :
    PI X (.Tuple elts kk tpos) (.Call (.Name "zip" p0) [ea, eb] [] pos) (rdI g W ix (.zip a b)) :=
  PIimp (RZ.pi_zipA hg hm (rA_cons ha (rA_cons hb rA_nil (star_cons hs2)) (star_cons hs)) (star_cons hs) (by rw [star_cons hs2]; rfl)) fun σ H R ⟨φ, env, S, sm, er, p⟩ => by
    unfold evIt at p
    have p : Post g W φ H σ (itRel g) (PL.bnd (evEs ix (.cons a (.cons b .nil)) env S) (fun ds S2 => match ds with
      | [x, y] => (match x, y with
        | .tup l, .tup m => some (PL.R.val (zipD l m, Src.free) (compact S (.tup [x, y], S2)).2)
        | .loc n, .loc m => match lstAt S2 n, lstAt S2 m with
          | some l, some l' => if D.pures l = true ∧ D.pures l' = true ∧ Kept S S2 then some (PL.R.val (zipD l l', .two (if n < S.length then some (n, l) else none) (if m < S.length then some (m, l') else none)) (S2.take S.length)) else none
          | _, _ => none
        | _, _ => none)
      | _ => none)) R := by
      rw [evEs2]; exact p
    exact ⟨φ, env, S, sm, er, Post.bndB (.refl sm) p fun φ1 S1 H1 xs ds _ k r p1 => by
      split at p1
      · obtain ⟨x, y, rfl, rx, ry⟩ := r.inv2
        split at p1
        · rename_i l m _
          cases rx with
          | tup e1 t1 =>
            cases ry with
            | tup e2 t2 =>
              rename_i a1 xs1 a2 xs2
              -- a pair that stands nowhere tells that both may be kept
              have key : ∃ φc, Good g φ H φc (compact S (.tup [.tup l, .tup m], S1)).2 H1 ∧ VRs g φc H1 xs1 l ∧ VRs g φc H1 xs2 m := by
                unfold compact
                by_cases hk : Kept S S1
                · rw [if_pos hk]
                  by_cases hp : (D.tup [.tup l, .tup m]).pure = true
                  · rw [if_pos hp]
                    simp only [D.pure, D.pures, Bool.and_eq_true, Bool.and_true] at hp
                    exact ⟨φ, sm.cut k hk, t1.pure hp.1, t2.pure hp.2⟩
                  · rw [if_neg hp]; exact ⟨φ1, k, t1, t2⟩
                · rw [if_neg hk]; exact ⟨φ1, k, t1, t2⟩
              obtain ⟨φc, kc, r1, r2⟩ := key
              exact ⟨a1, a2, xs1, xs2, rfl, .inr ⟨by rw [hK]; exact .of e1, by rw [hK]; exact .of e2, by rw [hK]; exact p1 φc H1 _ kc (SeqR.zip (t := true) (seq_tup kc.sim e1 r1 _) (seq_tup kc.sim e2 r2 _))⟩⟩
        · rename_i n m _
          cases rx with
          | loc e1 =>
            cases ry with
            | loc e2 =>
              rename_i a1 a2
              cases f1 : lstAt S1 n with
              | none => rw [f1] at p1; exact p1.elim
              | some l =>
                cases f2 : lstAt S1 m with
                | none => rw [f1, f2] at p1; exact p1.elim
                | some l' =>
                  rw [f1, f2] at p1
                  dsimp only at p1
                  by_cases hc : D.pures l = true ∧ D.pures l' = true ∧ Kept S S1
                  · rw [if_pos hc] at p1
                    obtain ⟨xs1, h1, h2⟩ := k.sim.lstA e1 f1
                    obtain ⟨xs2, g1, g2⟩ := k.sim.lstA e2 f2
                    have kk := sm.cut k hc.2.2
                    have fr : ∀ {n a}, φ1[n]? = some a → ¬ n < S.length → a ∉ φ := fun {n a} e hn z => by
                      obtain ⟨j, hl, q⟩ := List.mem_iff_getElem.mp z
                      obtain ⟨rr, hpre⟩ := k.pre
                      have e2 : φ1[j]? = some a := by rw [← hpre, List.getElem?_append_left hl, List.getElem?_eq_getElem hl, q]
                      obtain ⟨h1, q1⟩ := List.getElem?_eq_some_iff.mp e
                      obtain ⟨h2, q2⟩ := List.getElem?_eq_some_iff.mp e2
                      have : n = j := (List.getElem_inj k.sim.nd).mp (q1.trans q2.symm)
                      have hl' : j < S.length := by rw [← sm.len]; exact hl
                      omega
                    have old : ∀ {n a}, φ1[n]? = some a → n < S.length → φ[n]? = some a := fun {n a} e hn => by
                      obtain ⟨rr, hpre⟩ := k.pre
                      rw [← hpre, List.getElem?_append_left (by rw [sm.len]; exact hn)] at e
                      exact e
                    have s1 : SeqR g false φ H1 a1 l (.two (if n < S.length then some (n, l) else none) (if m < S.length then some (m, l') else none)) := by
                      by_cases hn : n < S.length
                      · rw [if_pos hn]; exact seq_list (old e1 hn) fun S h => h.1 _ rfl
                      · exact seq_free kk.sim h1 (fr e1 hn) (h2.pure hc.1) _
                    have s2 : SeqR g false φ H1 a2 l' (.two (if n < S.length then some (n, l) else none) (if m < S.length then some (m, l') else none)) := by
                      by_cases hn : m < S.length
                      · rw [if_pos hn]; exact seq_list (old e2 hn) fun S h => h.2 _ rfl
                      · exact seq_free kk.sim g1 (fr e2 hn) (g2.pure hc.2.1) _
                    exact ⟨a1, a2, xs1, xs2, rfl, .inl ⟨by rw [hK]; exact .of h1, by rw [hK]; exact .of g1, by rw [hK]; exact p1 φ H1 _ kk (SeqR.zip (t := false) s1 s2)⟩⟩
                  · rw [if_neg hc] at p1; exact p1.elim
        · exact p1.elim
      · exact p1.elim⟩
end
end PL
set_option Elab.async false
set_option linter.all false
set_option maxRecDepth 100000
namespace PL
open PySem PySem.Spec PyProof.Rows L2
section
variable {g : G} {φ φ' φ0 φ1 φ2 : List Addr} {H H' H0 H1 H2 : Hp} {S S' S0 S1 S2 : Store} {X : Cx} {W : WX} {σ : St} {ix : Ix} {a b c : IE} {ea eb ec : Expr} {pos p0 apos : Pos} {env : Env} {T : Tab} {P : Prog} {k : Nat} {es : List Expr} {is : IEs} {e : Expr} {tg : Expr}
/-! ### slots that are forgotten -/
theorem wipe_get (vs : List Nat) : ∀ (σ : St) (j : Nat), (wipe σ vs)[j]? = if j ∈ vs then (σ[j]?).map fun _ => none else σ[j]? := by
  induction vs with
  | nil => intro σ j; simp [wipe]
  | cons v vs ih =>
    intro σ j
    unfold wipe
    by_cases hj : v = j
    · subst hj
      rw [if_pos List.mem_cons_self]
      by_cases hv : v < (wipe σ vs).length
      · rw [List.getElem?_set_self hv]
        rw [wipe_length] at hv
        rw [List.getElem?_eq_getElem hv]; rfl
      · rw [List.getElem?_eq_none (by simpa using hv)]
        rw [wipe_length] at hv
        rw [List.getElem?_eq_none (by omega)]; rfl
    · rw [List.getElem?_set_ne hj, ih]
      have : (j ∈ v :: vs) ↔ j ∈ vs := by
        rw [List.mem_cons]
        exact ⟨fun h => h.resolve_left fun z => hj z.symm, .inr⟩
      simp only [this]
theorem wipeE_length (env : Env) : ∀ vs : List Nat, (wipeE env vs).length = env.length
  | [] => rfl
  | v :: vs => by unfold wipeE; rw [List.length_set, wipeE_length env vs]
theorem wipeE_some {env : Env} {i : Nat} {x : D} : ∀ {vs : List Nat}, (wipeE env vs)[i]? = some (some x) → env[i]? = some (some x) ∧ i ∉ vs
  | [], h => ⟨h, by simp⟩
  | v :: vs, h => by
    unfold wipeE at h
    by_cases hi : v = i
    · subst hi
      by_cases hv : v < (wipeE env vs).length
      · rw [List.getElem?_set_self hv] at h; cases h
      · rw [List.getElem?_eq_none (by simpa using hv)] at h; cases h
    · rw [List.getElem?_set_ne hi] at h
      obtain ⟨h1, h2⟩ := wipeE_some h
      exact ⟨h1, by simp only [List.mem_cons, not_or]; exact ⟨fun e => hi e.symm, h2⟩⟩
theorem EnvR.wipe (er : EnvR g φ H σ env) (vs : List Nat) : EnvR g φ H (L2.wipe σ vs) (wipeE env vs) := by
  refine ⟨by rw [wipe_length, wipeE_length]; exact er.len, fun i d h => ?_⟩
  obtain ⟨h1, h2⟩ := wipeE_some h
  obtain ⟨x, h3, h4⟩ := er.val i d h1
  exact ⟨x, by rw [wipe_get, if_neg h2]; exact h3, h4⟩
theorem Same.wipe {l vs : List Nat} {σ' : St} (h : Same l (L2.wipe σ vs) σ') (hl : ∀ i ∈ l, i ∈ vs) : L2.wipe σ' vs = L2.wipe σ vs := by
  refine List.ext_getElem? fun j => ?_
  rw [wipe_get, wipe_get]
  by_cases hj : j ∈ vs
  · rw [if_pos hj, if_pos hj]
    by_cases hs : j < σ.length
    · have h1 : j < σ'.length := by rw [h.1, wipe_length]; exact hs
      rw [List.getElem?_eq_getElem h1, List.getElem?_eq_getElem hs]; rfl
    · have h1 : σ'.length ≤ j := by rw [h.1, wipe_length]; omega
      rw [List.getElem?_eq_none h1, List.getElem?_eq_none (by omega)]
  · rw [if_neg hj, if_neg hj, h.2 j fun z => hj (hl j z), wipe_get, if_neg hj]

/-! ### tests of a comprehension -/
def rdTs (g : G) (W : WX) (ix : Ix) (cs : IEs) : TT := fun σ H Q => Start g σ H fun φ env S => Post g W φ H σ bRel (evTs ix cs env S) Q
theorem PTsimp {cs : List Expr} {t t' : TT} (h : PTs X cs t) (k : ∀ σ H Q, t' σ H Q → t σ H Q) : PTs X cs t' := ⟨fun pins s σ H Q I q => h.run pins s σ H Q I (k σ H Q q)⟩
theorem rTs_nil : PTs X [] (rdTs g W ix .nil) := PTsimp pts_nil fun σ H Q ⟨φ, env, S, sm, er, p⟩ => by
  unfold evTs at p
  exact p.val sm rfl
theorem evTs1 : evTs ix (.cons a .nil) env S = tstR S (evE ix a env S) := by
  unfold evTs
  cases h : tstR S (evE ix a env S) with
  | none => rfl
  | some r =>
    cases r with
    | exc _ _ => rfl
    | val b S1 =>
      cases b with
      | true => unfold evTs; rfl
      | false => rfl
theorem rTs_one (ha : PT X ea (rdT g W ix a)) : PTs X [ea] (rdTs g W ix (.cons a .nil)) := PTsimp (pts_one ha) fun σ H Q ⟨φ, env, S, sm, er, p⟩ => by
  dsimp only at p
  rw [evTs1] at p
  exact ⟨φ, env, S, sm, er, Post.tst sm p⟩

/-! ### a comprehension -/
noncomputable def compF (ix : Ix) (a : IE) (t : ITg) (cs : IEs) (own : List Nat) (env : Env) : D → Store → Option (Option D × Store) := fun d S => match bindT t d (wipeE env own) with
      | some env2 => match evTs ix cs env2 S with
        | some (.val true S2) => match cmpR S2 (evE ix a env2 S2) with
          | some (.val x S3) => some (some x, S3)
          | _ => none
        | some (.val false S2) => some (none, S2)
        | _ => none
      | none => none
theorem Good.side (k : Good g φ0 H0 φ S H) {D : Addr} {xs ys : List V} (h0 : H0 D = none) (hn : D ∉ φ) (hD : H D = some (.lst xs)) : Good g φ0 H0 φ S (upd H D (.lst ys)) ∧ Rsv g H (upd H D (.lst ys)) := by
  have rs : Rsv g H (upd H D (.lst ys)) := ⟨fun a zs e => by rw [upd_ne (fun z => by rw [z, hD] at e; cases e)]; exact e, fun c C fs a dx zs _ e => by rw [upd_ne (fun z => by rw [z, hD] at e; cases e)]; exact e, fun a o zs e => by rw [upd_ne (fun z => by rw [z, hD] at e; cases e)]; exact e⟩
  refine ⟨⟨k.pre, ⟨k.sim.len, k.sim.nd, fun n a o e1 e2 => ?_⟩, fun a o e n => ?_, k.new, fun a o u e => ?_⟩, rs⟩
  · refine (k.sim.obj n a o e1 e2).mono rs (List.prefix_refl _) fun u q => ?_
    rw [upd_ne (fun z => hn (by rw [← z]; exact List.mem_of_getElem? e1))]; exact q
  · rw [upd_ne (fun z => by rw [z, h0] at e; cases e)]; exact k.fm a o e n
  · rw [upd_ne (fun z => by rw [z, h0] at e; cases e)]; exact k.lk a o u e
theorem Good.notin (k : Good g φ H φ' S' H') {D : Addr} {o : HO} (hn : D ∉ φ) (hD : H D = some o) : D ∉ φ' ∧ H' D = some o :=
  ⟨fun z => (by have := k.new D z hn; rw [hD] at this; cases this), k.fm D o hD hn⟩
abbrev WF : WX := fun _ _ _ _ => False
theorem lc_turns {J : It} {l : List D} {src : Src} {vs : List Nat} {t : ITg} {cs : IEs} {acc : List D} {Sf : Store} {Q : VK} (sm : Sim g φ1 S1 H1) (er : EnvR g φ1 H1 σ env) (it : ItR g φ1 H1 J l src) (hv : ∀ i ∈ t.slots, i ∈ vs)
    (hc : compI (compF ix a t cs vs env) src l [] S1 = some (acc, Sf))
    (hQ : ∀ D φ2 H', H1 D = none → Good g φ1 H1 (φ2 ++ [D]) (Sf ++ [.lst acc]) H' → φ2.length = Sf.length → src.ok Sf → Q (.ref D) H') :
    ∀ D, H1 D = none → ∃ Wv : Nat → Nat → Hp → Prop, (∃ m, Wv 0 m (upd H1 D (.lst []))) ∧ ∀ i m H, Wv i m H →
      (J.stop i H ∧ Q (.ref D) H) ∨ (J.go i H ∧ ∃ Nx : Hp → Prop, (∀ H', Nx H' → ∃ m', m' < m ∧ Wv (i + 1) m' H') ∧ ∀ x H', J.yld i H x H' → rdG g t x (L2.wipe σ vs) H' fun σ2 H2 => L2.wipe σ2 vs = L2.wipe σ vs ∧ rdTs g WF ix cs σ2 H2 fun b H3 =>
        if b = true then rdE g WF ix a σ2 H3 fun y H4 => ∃ acc, H4 D = some (.lst acc) ∧ acc.length < sizeLine ∧ Nx (upd H4 D (.lst (acc ++ [y]))) else Nx H3) := by
  intro D hD
  refine ⟨fun i m H => m = l.length - i ∧ i ≤ l.length ∧ ∃ φ2 S2 ds ys, Good g φ1 H1 φ2 S2 H ∧ H D = some (.lst ys) ∧ D ∉ φ2 ∧ VRs g φ2 H ys ds ∧ compI (compF ix a t cs vs env) src (l.drop i) ds S2 = some (acc, Sf), ⟨l.length, rfl, Nat.zero_le _, φ1, S1, [], [], .made sm hD, upd_same, fun z => ?_, .nil, hc⟩, ?_⟩
  · obtain ⟨_, _, _, _, r⟩ := sm.at z
    obtain ⟨u, e, _⟩ := r.mut
    rw [hD] at e; cases e
  rintro i m H ⟨rfl, hi, φ2, S2, ds, ys, k, hy, hn, rv, hr⟩
  by_cases hlt : i < l.length
  · have hd : l.drop i = l[i] :: l.drop (i + 1) := List.drop_eq_getElem_cons hlt
    rw [hd] at hr
    unfold compI at hr
    by_cases hok : src.ok S2
    · rw [if_pos hok] at hr
      refine .inr ⟨it.go φ2 S2 H i k hok hlt, _, fun H' p => ⟨l.length - (i + 1), by omega, p⟩, fun x H' y => ?_⟩
      obtain ⟨d, hld, k', rx⟩ := it.yld φ2 S2 H i x H' k hok hlt y
      rw [List.getElem?_eq_getElem hlt] at hld
      cases hld
      obtain ⟨hn', hy'⟩ := k'.notin hn hy
      unfold compF at hr
      cases hb : bindT t l[i] (wipeE env vs) with
      | none => rw [hb] at hr; cases hr
      | some env2 =>
        rw [hb] at hr
        dsimp only at hr
        refine ⟨φ2, wipeE env vs, S2, l[i], env2, k'.sim, ((er.good sm k).good k.sim k').wipe vs, rx, hb, fun σ' er' same => ⟨same.wipe hv, φ2, env2, S2, k'.sim, er', ?_⟩⟩
        cases ht : evTs ix cs env2 S2 with
        | none => rw [ht] at hr; cases hr
        | some r =>
          rw [ht] at hr
          cases r with
          | exc _ _ => cases hr
          | val bb S3 =>
            cases bb with
            | false =>
              dsimp only at hr
              dsimp only
              rw [ht]
              intro φ3 H3 b3 k3 hb3
              cases hb3
              obtain ⟨hn3, hy3⟩ := k3.notin hn' hy'
              rw [if_neg (by decide)]
              exact ⟨rfl, hlt, φ3, S3, ds, ys, (k.trans k').trans k3, hy3, hn3, (rv.good k.sim k').good k'.sim k3, hr⟩
            | true =>
              dsimp only at hr
              dsimp only
              rw [ht]
              intro φ3 H3 b3 k3 hb3
              cases hb3
              obtain ⟨hn3, hy3⟩ := k3.notin hn' hy'
              rw [if_pos rfl]
              refine ⟨φ3, env2, S3, k3.sim, er'.good k'.sim k3, Post.cmp k3.sim ?_⟩
              cases hx : cmpR S3 (evE ix a env2 S3) with
              | none => rw [hx] at hr; cases hr
              | some r =>
                rw [hx] at hr
                cases r with
                | exc _ _ => cases hr
                | val z S4 =>
                  dsimp only at hr
                  intro φ4 H4 yv k4 ry
                  obtain ⟨hn4, hy4⟩ := k4.notin hn3 hy3
                  by_cases hlen : ds.length < line
                  · rw [if_pos hlen] at hr
                    have kk := ((k.trans k').trans k3).trans k4
                    have rv4 := ((rv.good k.sim k').good k'.sim k3).good k3.sim k4
                    obtain ⟨ks, rs⟩ := Good.side (ys := ys ++ [yv]) kk hD hn4 hy4
                    refine ⟨ys, hy4, by rw [rv.length, ← line_eq]; exact hlen, rfl, hlt, φ4, S4, ds ++ [z], ys ++ [yv], ks, upd_same, hn4, ?_, hr⟩
                    exact (rv4.append (.one ry)).mono rs (List.prefix_refl _)
                  · rw [if_neg hlen] at hr; cases hr
    · rw [if_neg hok] at hr; cases hr
  · have e : i = l.length := by omega
    subst e
    rw [List.drop_length] at hr
    unfold compI at hr
    by_cases hok : src.ok S2
    · rw [if_pos hok] at hr
      cases hr
      refine .inl ⟨it.stop φ2 _ H k hok, hQ D φ2 H hD ⟨k.pre.trans (List.prefix_append _ _), ⟨?_, ?_, fun n a o e1 e2 => ?_⟩, k.fm, fun a ha n => ?_, k.lk⟩ k.sim.len hok⟩
      · rw [List.length_append, List.length_append, k.sim.len]; rfl
      · rw [List.nodup_append]
        refine ⟨k.sim.nd, by simp, fun x hx y hy => ?_⟩
        rw [List.mem_singleton.mp hy]
        rintro rfl
        exact hn hx
      · by_cases hl : n < φ2.length
        · rw [List.getElem?_append_left hl] at e1
          rw [List.getElem?_append_left (by rw [← k.sim.len]; exact hl)] at e2
          exact (k.sim.obj n a o e1 e2).mono ⟨fun _ _ h => h, fun _ _ _ _ _ _ _ h => h, fun _ _ _ h => h⟩ (List.prefix_append _ _) fun _ q => q
        · have hl2 : n = φ2.length := by
            have := (List.getElem?_eq_some_iff.mp e1).1
            rw [List.length_append, List.length_singleton] at this
            omega
          subst hl2
          rw [List.getElem?_append_right (Nat.le_refl _), Nat.sub_self] at e1
          rw [List.getElem?_append_right (by rw [k.sim.len]; exact Nat.le_refl _), k.sim.len, Nat.sub_self] at e2
          cases e1; cases e2
          exact ⟨ys, hy, rv.mono ⟨fun _ _ h => h, fun _ _ _ _ _ _ _ h => h, fun _ _ _ h => h⟩ (List.prefix_append _ _)⟩
      · rcases List.mem_append.mp ha with z | z
        · exact k.new a z n
        · rw [List.mem_singleton.mp z]; exact hD
    · rw [if_neg hok] at hr; cases hr
def IIt.locks : IIt → Bool
  | .items _ => true
  | .keys _ => true
  | _ => false
/-- a source that is no locked dict -/
def Src.open : Src → Bool
  | .dict _ _ _ => false
  | _ => true
theorem unlk_open {src : Src} (h : src.open = true) (ok : src.ok S) : unlk S src = some S := by
  unfold unlk
  rw [if_pos ok]
  cases src <;> first | rfl | cases h
theorem itemsOf_open {d : D} {r : (List D × Src) × Store} (h : itemsOf S d S' = some r) : r.1.2.open = true := by
  unfold itemsOf at h
  cases d with
  | tup l => cases h; rfl
  | loc n =>
    dsimp only at h
    cases e : lstAt S' n with
    | none => rw [e] at h; cases h
    | some l =>
      rw [e] at h
      dsimp only at h
      split at h <;> · cases h; rfl
  | _ => cases h
theorem bnd_val_inv {α β : Type} {r : Option (PL.R α)} {f : α → Store → Option (PL.R β)} {x : β} {T : Store} (h : PL.bnd r f = some (.val x T)) : ∃ d S1, r = some (.val d S1) ∧ f d S1 = some (.val x T) := by
  cases r with
  | none => cases h
  | some r =>
    cases r with
    | exc _ _ => cases h
    | val d S1 => exact ⟨d, S1, rfl, h⟩
theorem evIt_open {it : IIt} (hl : it.locks = false) {p : List D × Src} {S1 : Store} (h : evIt ix it env S = some (.val p S1)) : p.2.open = true := by
  cases it with
  | items _ => cases hl
  | keys _ => cases hl
  | val e =>
    unfold evIt at h
    obtain ⟨d, S2, _, h2⟩ := bnd_val_inv h
    obtain ⟨r, h3, h4⟩ := Option.map_eq_some_iff.mp h2
    cases h4
    exact itemsOf_open h3
  | enum e =>
    unfold evIt at h
    obtain ⟨d, S2, _, h2⟩ := bnd_val_inv h
    obtain ⟨r, h3, h4⟩ := Option.map_eq_some_iff.mp h2
    cases h4
    exact itemsOf_open h3
  | range1 e =>
    unfold evIt at h
    obtain ⟨d, S2, _, h2⟩ := bnd_val_inv h
    split at h2
    · split at h2
      · cases h2; rfl
      · cases h2
    · cases h2
  | range2 a b =>
    unfold evIt at h
    obtain ⟨d, S2, _, h2⟩ := bnd_val_inv h
    obtain ⟨d', S3, _, h3⟩ := bnd_val_inv h2
    split at h3
    · split at h3
      · cases h3; rfl
      · cases h3
    · cases h3
  | zip a b =>
    unfold evIt at h
    obtain ⟨d, S2, _, h2⟩ := bnd_val_inv h
    obtain ⟨d', S3, _, h3⟩ := bnd_val_inv h2
    split at h3
    · cases h3; rfl
    · split at h3
      · split at h3
        · cases h3; rfl
        · cases h3
      · cases h3
    · cases h3
/-- what a comprehension over anything but a dict comes to -/
theorem lc_of {t : ITg} {it : IIt} {cs : IEs} {vs : List Nat} {Q : VK} (hl : it.locks = false) (hv : ∀ i ∈ t.slots, i ∈ vs) (h : rdE g W ix (.comp a t it cs vs) σ H Q) : tLc (rdI g W ix it) (rdG g t) (rdTs g WF ix cs) (rdE g WF ix a) vs σ H Q := by
  obtain ⟨φ, env, S, sm, er, p⟩ := h
  unfold evE at p
  exact ⟨φ, env, S, sm, er, Post.bndB (.refl sm) p fun φ1 S1 H1 J q he k it1 p1 => by
    have ho := evIt_open hl he
    have p1 : Post g W φ H σ (VR g) (((compI (compF ix a t cs vs env) q.2 q.1 [] S1).bind fun r => (unlk r.2 q.2).map fun S2 => (r.1, S2)).map fun r => R.val (D.loc r.2.length) (r.2 ++ [.lst r.1])) Q := p1
    cases hc : compI (compF ix a t cs vs env) q.2 q.1 [] S1 with
    | none => rw [hc] at p1; exact p1.elim
    | some r =>
      obtain ⟨acc, Sf⟩ := r
      rw [hc] at p1
      refine lc_turns k.sim (er.good sm k) it1 hv hc fun D φ2 H' hD kk hlen ok => ?_
      simp only [Option.bind_some, unlk_open ho ok, Option.map_some] at p1
      refine p1 _ H' _ (k.trans kk) (.loc ?_)
      rw [← hlen, List.getElem?_append_right (Nat.le_refl _), Nat.sub_self]; rfl⟩
end
end PL
set_option Elab.async false
set_option linter.all false
set_option maxRecDepth 100000
namespace PL
open PySem PySem.Spec PyProof.Rows L2
section
variable {g : G} {φ φ' φ0 φ1 φ2 : List Addr} {H H' H0 H1 H2 : Hp} {S S' S0 S1 S2 : Store} {X : Cx} {W : WX} {σ : St} {ix : Ix} {a b c : IE} {ea eb ec : Expr} {pos p0 apos : Pos} {env : Env} {T : Tab} {P : Prog} {k : Nat} {es : List Expr} {is : IEs} {e : Expr} {tg : Expr} {α β : Type} {rel : List Addr → Hp → β → α → Prop}
/-! ### statements -/
def PostS (g : G) (W : WX) (φ : List Addr) (H : Hp) (r : Option SR) (D : Ends) : Prop := match r with
  | none => False
  | some (.nx env S') => ∀ φ' H' σ', Good g φ H φ' S' H' → EnvR g φ' H' σ' env → D.nx σ' H'
  | some (.rt d S') => ∀ φ' H' x, Good g φ H φ' S' H' → VR g φ' H' x d → D.rt x H'
  | some (.bk env S') => ∀ φ' H' σ', Good g φ H φ' S' H' → EnvR g φ' H' σ' env → D.bk σ' H'
  | some (.ct env S') => ∀ φ' H' σ', Good g φ H φ' S' H' → EnvR g φ' H' σ' env → D.ct σ' H'
  | some (.ex e env S') => ∀ φ' H' σ' cls dd, Good g φ H φ' S' H' → EnvR g φ' H' σ' env → ExR g φ' H' cls dd e → W cls dd σ' H'
def rdS (g : G) (W : WX) (ix : Ix) (s : IS) : TS := fun D σ H => Start g σ H fun φ env S => PostS g W φ H (exS ix s env S) D
def rdSs (g : G) (W : WX) (ix : Ix) (s : List IS) : TS := fun D σ H => Start g σ H fun φ env S => PostS g W φ H (exSs ix s env S) D
theorem PostS.from {r : Option SR} {D : Ends} (p : PostS g W φ H r D) (k : Good g φ H φ' S' H') : PostS g W φ' H' r D := by
  cases r with
  | none => exact p
  | some r =>
    cases r with
    | nx env S2 => exact fun φ2 H2 x k2 rx => p φ2 H2 x (k.trans k2) rx
    | rt env S2 => exact fun φ2 H2 x k2 rx => p φ2 H2 x (k.trans k2) rx
    | bk env S2 => exact fun φ2 H2 x k2 rx => p φ2 H2 x (k.trans k2) rx
    | ct env S2 => exact fun φ2 H2 x k2 rx => p φ2 H2 x (k.trans k2) rx
    | ex e env S2 => exact fun φ2 H2 x c d k2 rx => p φ2 H2 x c d (k.trans k2) rx
theorem PSimp {X : Cx} {e : Stmt} {t t' : TS} (h : PS X e t) (k : ∀ D σ H, t' D σ H → t D σ H) : PS X e t' := ⟨fun pins s σ H D I q => h.run pins s σ H D I (k D σ H q)⟩
theorem PSsimp {X : Cx} {e : List Stmt} {t t' : TS} (h : PSs X e t) (k : ∀ D σ H, t' D σ H → t D σ H) : PSs X e t' := ⟨fun pins s σ H D I q => h.run pins s σ H D I (k D σ H q)⟩
/-- an expression, then what follows told from an earlier state -/
theorem PostS.sbnd {r : Option (PL.R α)} {f : α → Store → Option SR} {D : Ends} {K : β → Hp → Prop} (k0 : Good g φ0 H0 φ S H) (er : EnvR g φ H σ env) (p : PostS g W φ0 H0 (PL.sbnd r env f) D)
    (h : ∀ φ1 S1 H1 x d, r = some (.val d S1) → Good g φ H φ1 S1 H1 → rel φ1 H1 x d → PostS g W φ0 H0 (f d S1) D → K x H1) : Post g W φ H σ rel r K := by
  cases r with
  | none => exact p
  | some r =>
    cases r with
    | val d S2 => exact fun φ2 H2 x k2 rx => h φ2 S2 H2 x d rfl k2 rx p
    | exc e S2 => exact fun φ2 H2 c d k2 rx => p φ2 H2 σ c d (k0.trans k2) (er.good k0.sim k2) rx
theorem rSs_nil : PSs X [] (rdSs g W ix []) := PSsimp pss_nil fun D σ H ⟨φ, env, S, sm, er, p⟩ => by
  unfold exSs at p
  exact p φ H σ (.refl sm) er
theorem rSs_cons {st : Stmt} {rest : List Stmt} {i : IS} {is : List IS} (h : PS X st (rdS g W ix i)) (hs : PSs X rest (rdSs g W ix is)) : PSs X (st :: rest) (rdSs g W ix (i :: is)) :=
  PSsimp (pss_cons h hs) fun D σ H ⟨φ, env, S, sm, er, p⟩ => by
    unfold exSs at p
    refine ⟨φ, env, S, sm, er, ?_⟩
    show PostS g W φ H (exS ix i env S) { D with nx := rdSs g W ix is D }
    cases he : exS ix i env S with
    | none => rw [he] at p; exact p
    | some r =>
      rw [he] at p
      cases r with
      | nx env1 S1 =>
        rw [snx_nx] at p
        exact fun φ1 H1 σ1 k1 er1 => ⟨φ1, env1, S1, k1.sim, er1, p.from k1⟩
      | rt d S1 => exact p
      | bk env1 S1 => exact p
      | ct env1 S1 => exact p
      | ex e env1 S1 => exact p
theorem rS_pass : PS X (.Pass pos) (rdS g W ix .pass) := PSimp ps_pass fun D σ H ⟨φ, env, S, sm, er, p⟩ => by
  unfold exS at p
  exact p φ H σ (.refl sm) er
theorem rS_brk : PS X (.Break pos) (rdS g W ix .brk) := PSimp ps_break fun D σ H ⟨φ, env, S, sm, er, p⟩ => by
  unfold exS at p
  exact p φ H σ (.refl sm) er
theorem rS_cont : PS X (.Continue pos) (rdS g W ix .cont) := PSimp ps_continue fun D σ H ⟨φ, env, S, sm, er, p⟩ => by
  unfold exS at p
  exact p φ H σ (.refl sm) er
theorem rS_retN : PS X (.Return none pos) (rdS g W ix .retN) := PSimp ps_retN fun D σ H ⟨φ, env, S, sm, er, p⟩ => by
  unfold exS at p
  exact p φ H _ (.refl sm) .non
theorem rS_ret (ha : PE X ea (rdE g W ix a)) : PS X (.Return (some ea) pos) (rdS g W ix (.ret a)) := PSimp (ps_ret ha) fun D σ H ⟨φ, env, S, sm, er, p⟩ => by
  unfold exS at p
  exact ⟨φ, env, S, sm, er, Post.cmp sm (PostS.sbnd (.refl sm) er p fun φ1 S1 H1 x d _ k r p1 => p1 φ1 H1 x k r)⟩
theorem rS_expr (ha : PE X ea (rdE g W ix a)) (hs : swapsWith ea none pos.line X.env = pure false) : PS X (.Expr ea pos) (rdS g W ix (.expr a)) := PSimp (ps_expr ha hs) fun D σ H ⟨φ, env, S, sm, er, p⟩ => by
  unfold exS at p
  exact ⟨φ, env, S, sm, er, PostS.sbnd (.refl sm) er p fun φ1 S1 H1 x d _ k r p1 => by
    obtain ⟨φc, kc, _⟩ := compact_good sm k .non
    exact p1 φc H1 σ kc (er.good sm kc)⟩
theorem rS_never {st : Stmt} {c : Nat} : PS X st (rdS g W ix (.raise c .dead)) := PSimp ps_never fun D σ H ⟨φ, env, S, sm, er, p⟩ => by
  unfold exS at p
  unfold evEs at p
  unfold evE at p
  exact p
theorem rS_asg {t : ITg} (ha : PE X ea (rdE g W ix a)) (hg : PG X tg (rdG g t)) (hs : swapsWithSole [tg] ea pos.line X.env = pure false) (hw : swappedStores [tg] ea X.env = pure none) (h1 : (assignEach [tg] X.env).map (·.2) = [assign tg X.env]) :
    PS X (.Assign [tg] ea pos) (rdS g W ix (.unp t a)) := PSimp (ps_asg ha hg hs hw h1) fun D σ H ⟨φ, env, S, sm, er, p⟩ => by
  unfold exS at p
  exact ⟨φ, env, S, sm, er, Post.cmp sm (PostS.sbnd (.refl sm) er p fun φ1 S1 H1 x d _ k r p1 => by
    cases hb : bindT t d env with
    | none => rw [hb] at p1; exact p1.elim
    | some env' =>
      rw [hb] at p1
      exact ⟨φ1, env, S1, d, env', k.sim, er.good sm k, r, hb, fun σ' er' _ => p1 φ1 H1 σ' k er'⟩)⟩
theorem rS_set {i : Nat} {x : Str} {px : Pos} {c : SC} (nd : X.N.Nodup) (hN : X.N = c.N) (hsc : X.env.scope = c.sc) (hfn : X.fn = c.fn) (h : locB c i x = true) (ha : PE X ea (rdE g W ix a)) (hs : swapsWith ea (some (.Name x px)) pos.line X.env = pure false) :
    PS X (.Assign [.Name x px] ea pos) (rdS g W ix (.set i a)) := by
  obtain ⟨h1, h2, h3⟩ := locB_iff hN hsc hfn h
  refine PSimp (ps_set nd h1 h2 ha hs h3) fun D σ H ⟨φ, env, S, sm, er, p⟩ => ?_
  unfold exS at p
  exact ⟨φ, env, S, sm, er, Post.cmp sm (PostS.sbnd (.refl sm) er p fun φ1 S1 H1 x d _ k r p1 => p1 φ1 H1 _ k ((er.good sm k).set r i))⟩
theorem rS_if {t : IE} {et : Expr} {A B : List Stmt} {iA iB : List IS} (ht : PT X et (rdT g W ix t)) (hA : PSs X A (rdSs g W ix iA)) (hB : PSs X B (rdSs g W ix iB)) : PS X (.If et A B pos) (rdS g W ix (.ite t iA iB)) :=
  PSimp (ps_if ht hA hB) fun D σ H ⟨φ, env, S, sm, er, p⟩ => by
    unfold exS at p
    exact ⟨φ, env, S, sm, er, Post.tst sm (PostS.sbnd (rel := bRel) (.refl sm) er p fun φ1 S1 H1 x d _ k r p1 => by
      cases r
      have p1 := p1.from k
      cases x with
      | true => rw [if_pos rfl] at p1 ⊢; exact ⟨φ1, env, S1, k.sim, er.good sm k, p1⟩
      | false => rw [if_neg (by decide)] at p1 ⊢; exact ⟨φ1, env, S1, k.sim, er.good sm k, p1⟩)⟩

/-! ### stores -/
def sliceB : Expr → Bool
  | .Slice _ _ _ _ => true
  | _ => false
def rPut (g : G) : TSet := fun o i v H Q => ∃ φ S a b c, Sim g φ S H ∧ VR g φ H o a ∧ VR g φ H i b ∧ VR g φ H v c ∧ match putD a b c S with
  | none => False
  | some S' => ∀ φ' H', Good g φ H φ' S' H' → Q H'
theorem pset_put (hu : X.A.units + 64 < cLine) : PSet X (rPut g) := by
  intro pins s σ H o i v ov iv u Q I ro ri rv ⟨φ, S, a, b, c, sm, ra, rb, rc, p⟩
  cases ra with
  | loc e =>
    rename_i ad n
    cases en : S[n]? with
    | none =>
      unfold putD at p
      dsimp only at p
      rw [en] at p
      exact p.elim
    | some ob =>
      have so := sm.obj n ad _ e en
      cases ob with
      | lst l =>
        unfold putD at p
        dsimp only at p
        rw [en] at p
        cases rb with
        | int k =>
          dsimp only at p
          obtain ⟨xs, h1, h2⟩ := so
          cases ej : L2.ixN l.length k with
          | none => rw [ej] at p; exact p.elim
          | some j =>
            rw [ej] at p
            refine set_list pins s σ H _ _ v ov iv u Q I ro ri rv ⟨ad, xs, k, j, rfl, rfl, h1, by rw [h2.length]; exact ej, ?_⟩
            exact p φ _ (Good.write sm e (by rw [h1]; intro _ _ z; cases z) fun kk => ⟨_, upd_same, (h2.set rc j).mono kk (List.prefix_refl _)⟩)
        | _ => exact p.elim
      | lock t l =>
        unfold putD at p
        dsimp only at p
        rw [en] at p
        exact p.elim
      | dict t l =>
        have p' : match (if (keyOk t b && decide (l.length < line)) = true then some (S.set n (.dict t (putK l b c))) else none) with
          | none => False
          | some S' => ∀ φ' H', Good g φ H φ' S' H' → Q H' := by
          unfold putD at p
          dsimp only at p
          rw [en] at p
          dsimp only at p
          exact p
        clear p
        by_cases hk : (keyOk t b && decide (l.length < line)) = true
        · rw [if_pos hk] at p'
          rw [Bool.and_eq_true] at hk
          obtain ⟨hk1, hk2⟩ := hk
          have hk2 := of_decide_eq_true hk2
          cases ro
          cases t with
          | false =>
            obtain ⟨m, h1, h2⟩ := so
            obtain ⟨kk, ek⟩ := Option.isSome_iff_exists.mp (show (kD b).isSome = true by simpa [keyOk] using hk1)
            have hl : m.length = l.length := Paired.length h2
            refine d_setItem (H' := upd H ad (.dK (L2.putK m kk v))) (by omega) I (.inl ⟨m, kk, h1, rb.keyK ek, by rw [hl, ← line_eq]; exact hk2, rfl⟩) ri rv fun s' I' => ⟨_, I', ?_⟩
            exact p' φ _ (Good.write sm e (by rw [h1]; intro _ _ z; cases z) fun kk' => ⟨_, upd_same, (h2.put (fun h1 h2 => keyEq_k h1 h2) ek rc).mono kk' (List.prefix_refl _)⟩)
          | true =>
            obtain ⟨m, h1, h2⟩ := so
            obtain ⟨kk, ek⟩ := Option.isSome_iff_exists.mp (show (kDs b).isSome = true by simpa [keyOk] using hk1)
            have hl : m.length = l.length := Paired.length h2
            obtain ⟨bb, ey, eb⟩ := rb.keyT ek
            refine d_setItem (H' := upd H ad (.dT (L2.putK m kk v))) (by omega) I (.inr ⟨m, kk, bb, h1, ey, eb, by rw [hl, ← line_eq]; exact hk2, rfl⟩) ri rv fun s' I' => ⟨_, I', ?_⟩
            exact p' φ _ (Good.write sm e (by rw [h1]; intro _ _ z; cases z) fun kk' => ⟨_, upd_same, (h2.put (fun h1 h2 => keyEq_t h1 h2) ek rc).mono kk' (List.prefix_refl _)⟩)
        · rw [if_neg hk] at p'; exact p'.elim
  | _ => exact p.elim
theorem rS_put {tpos : Pos} (hu : X.A.units + 64 < cLine) (ho : PE X ea (rdE g W ix a)) (hi : PE X eb (rdE g W ix b)) (hv : PE X ec (rdE g W ix c)) (hsl : sliceB eb = false) (hs : swapsWithSole [.Subscript ea eb tpos] ec pos.line X.env = pure false) (hw : swappedStores [.Subscript ea eb tpos] ec X.env = pure none) :
    PS X (.Assign [.Subscript ea eb tpos] ec pos) (rdS g W ix (.put a b c)) := by
  refine PSimp (ps_asg hv (pg_sub ho hi (pset_put (g := g) hu) (fun v => ?_)) hs hw rfl) fun D σ H ⟨φ, env, S, sm, er, p⟩ => ?_
  · have : ∀ {i : Expr}, sliceB i = false → ∀ v, assign (.Subscript ea i tpos) X.env v = (do
      let ov ← holding [v] (eval ea X.env)
      let iv ← holding [v, ov] (eval i X.env)
      standAt tpos
      holding [v, ov, iv] (setItem ov iv v)
      release [v, ov, iv] []) := fun {i} h v => by
      cases i <;> first | rfl | cases h
    exact this hsl v
  · unfold exS at p
    exact ⟨φ, env, S, sm, er, PostS.sbnd (.refl sm) er p fun φ1 S1 H1 z dz _ k1 rz p1 => ⟨φ1, env, S1, k1.sim, er.good sm k1, PostS.sbnd k1 (er.good sm k1) p1 fun φ2 S2 H2 x dx _ k2 rx p2 =>
      ⟨φ2, env, S2, k2.sim, (er.good sm k1).good k1.sim k2, PostS.sbnd (k1.trans k2) ((er.good sm k1).good k1.sim k2) p2 fun φ3 S3 H3 y dy _ k3 ry p3 => ⟨φ3, S3, dx, dy, dz, k3.sim, rx.good k2.sim k3, ry, (rz.good k1.sim k2).good k2.sim k3, by
        cases hp : putD dx dy dz S3 with
        | none => rw [hp] at p3; exact p3.elim
        | some S4 =>
          rw [hp] at p3
          intro φ4 H4 k4
          obtain ⟨φc, kc, _⟩ := compact_good sm (((k1.trans k2).trans k3).trans k4) .non
          exact p3 φc H4 σ kc (er.good sm kc)⟩⟩⟩⟩
end
end PL
set_option Elab.async false
set_option linter.all false
set_option maxRecDepth 100000
namespace PL
open PySem PySem.Spec PyProof.Rows L2
section
variable {g : G} {φ φ' : List Addr} {H H' : Hp} {S S' : Store} {X : Cx} {W : WX} {σ : St} {ix : Ix} {a : IE} {ea : Expr} {env : Env}
/-! ### raise, try -/
theorem rS_raise {x : Str} {c k : Nat} {C D fI : Addr} {p pos pos2 : Pos} (hc : X.calm = true) (tk : Takes X W) (hR : Room k X.A) (hK : X.K = g.K) (e1 : g.err c = some C) (e2 : X.mg x = some (.ref C)) (T : PySem.ErrX.ErrTxt X.prog g.K C D fI) (ms : X.mg "super" = none)
    (hg : Gl X x) (hd : (x == ("__debug__" : Str)) = false) (ha : PA X [ea] (rdEs g W ix (.cons a .nil))) (he : starEach [ea] X.env = (false, eval ea X.env) :: starEach [] X.env) :
    PS X (.Raise (some (.Call (.Name x p) [ea] [] pos)) none pos2) (rdS g W ix (.raise c a)) :=
  PSimp (ps_raise hc tk (pmk_err (D := D) (fI := fI) (by rw [hK]; exact T) e2 ms hR ha hg hd he rfl)) fun D σ H ⟨φ, env, S, sm, er, p⟩ => by
    unfold exS at p
    refine ⟨φ, env, S, sm, er, PostS.sbnd (.refl sm) er p fun φ1 S1 H1 xs ds _ k1 r p1 => ?_⟩
    match xs, ds, r, p1 with
    | [v], [d], .cons r1 .nil, p1 =>
      refine ⟨v, rfl, fun q hq => ?_⟩
      have k2 : Good g φ1 H1 φ1 S1 (upd H1 q (.xd [(Str.ofString "what", v)])) := .made k1.sim hq
      exact p1 φ1 _ σ (.ref C) (some q) (k1.trans k2) ((er.good sm k1).good k1.sim k2) ⟨C, q, v, e1, rfl, rfl, upd_same, r1.good k1.sim k2⟩
    | _, [], .nil, p1 => exact p1.elim
    | _, _ :: _ :: _, .cons _ (.cons _ _), p1 => exact p1.elim
/-- what an exception bears, read in a clause -/
def tXW (K : PySem.W.Frag) (a : Addr) (cls : Value) (d : Option Addr) (i : Nat) : TE := fun σ H Q => ∃ C, XfC K C ∧ PySem.W.findIn K (.ref C) (Str.ofString "what") = some none ∧ tXf a cls d C (Str.ofString "what") (tVar i) σ H Q
theorem pe_xw {a : Addr} {oe : Obj} {cls : Value} {d : Option Addr} {pn : List (Addr × Obj)} {n : Str} {i : Nat} {p pos : Pos} (hz : Zc cls d oe) (hf : ∃ vs, oe.data = .fields vs) (he : PE (X.suite a ((a, oe) :: pn)) (.Name n p) (tVar i)) :
    PE (X.suite a ((a, oe) :: pn)) (.Attribute (.Name n p) (Str.ofString "what") pos) (tXW X.K a cls d i) :=
  ⟨fun pins s σ H Q I ⟨C, T, hno, h⟩ => (pe_xf (n := Str.ofString "what") T hno hz hf he rfl).run pins s σ H Q I h⟩
/-- a clause's suite -/
def tHd (K : PySem.W.Frag) (i : Nat) (ls : Bool) (w : Str) (a : Addr) (cls : Value) (d : Option Addr) : TS :=
  if ls then tRet (tLst (tCons (tC (.str w)) (tCons (tXW K a cls d i) tNil))) else tRet (tTup (tCons (tC (.str w)) (tCons (tXW K a cls d i) tNil)))
/-- the clauses of a try, as the text has them -/
inductive Hds (g : G) (X : Cx) : List (List Nat × Nat × Bool × Str) → List ExceptHandler → List Clause → Prop
  | nil : Hds g X [] [] []
  | cons {ids : List Nat} {i : Nat} {ls : Bool} {w : Str} {e : ExceptHandler} {es : List ExceptHandler} {cv : Value} {r : List (List Nat × Nat × Bool × Str)} {l : List Clause} (hx : ∀ c C, g.err c = some C → PySem.W.exmOne g.K (.ref C) cv = some (decide (c ∈ ids)))
      (ok : ∀ {es : List ExceptHandler} {l : List Clause}, ClsOk' X es l → ClsOk' X (e :: es) ((cv, i, tHd X.K i ls w) :: l)) (t : Hds g X r es l) : Hds g X ((ids, i, ls, w) :: r) (e :: es) ((cv, i, tHd X.K i ls w) :: l)
theorem Hds.cls {hs : List (List Nat × Nat × Bool × Str)} {es : List ExceptHandler} {l : List Clause} (h : Hds g X hs es l) : ClsOk' X es l := by
  induction h with
  | nil => exact .nil
  | cons _ ok _ ih => exact ok ih
theorem hd_tup {x n : Str} {i : Nat} {cv : Value} {w : Str} {np p1 p2 p3 pt pr pos' : Pos} {kk kt : Nat} (hi : X.N[i]? = some n) (hln : X.env.kindOf n = some .local) (hc : Names X x cv) (hd : (n == ("__debug__" : Str)) = false) (hcd : (n == ("__classdict__" : Str)) = false) {es : List ExceptHandler} {l : List Clause} (r : ClsOk' X es l) :
    ClsOk' X (.ExceptHandler (some (.Name x np)) (some n) [.Return (some (.Tuple [.Constant (.str w) kk p1, .Attribute (.Name n p2) (Str.ofString "what") p3] kt pt)) pr] pos' :: es) ((cv, i, tHd X.K i false w) :: l) :=
  .cons hi hln hc (fun a oe cls d pn hz hf => by
    have hv : PE (X.suite a ((a, oe) :: pn)) (.Name n p2) (tVar i) := pe_var hi (Or.inl hln) hd hcd
    exact pss_one (ps_ret (pe_tup (pa_cons pe_str (pa_cons (pe_xw hz hf hv) pa_nil))))) r
theorem hd_lst {x n : Str} {i : Nat} {cv : Value} {w : Str} {np p1 p2 p3 pt pr pos' : Pos} {kk : Nat} (hi : X.N[i]? = some n) (hln : X.env.kindOf n = some .local) (hc : Names X x cv) (hd : (n == ("__debug__" : Str)) = false) (hcd : (n == ("__classdict__" : Str)) = false) {es : List ExceptHandler} {l : List Clause} (r : ClsOk' X es l) :
    ClsOk' X (.ExceptHandler (some (.Name x np)) (some n) [.Return (some (.List [.Constant (.str w) kk p1, .Attribute (.Name n p2) (Str.ofString "what") p3] pt)) pr] pos' :: es) ((cv, i, tHd X.K i true w) :: l) :=
  .cons hi hln hc (fun a oe cls d pn hz hf => by
    have hv : PE (X.suite a ((a, oe) :: pn)) (.Name n p2) (tVar i) := pe_var hi (Or.inl hln) hd hcd
    exact pss_one (ps_ret (pe_lst (pa_cons pe_str (pa_cons (pe_xw hz hf hv) pa_nil))))) r
theorem hds_post {hs : List (List Nat × Nat × Bool × Str)} {es : List ExceptHandler} {l : List Clause} (hK : X.K = g.K) (ern : ∀ c C, g.err c = some C → XfC g.K C ∧ PySem.W.findIn g.K (.ref C) (Str.ofString "what") = some none) (h : Hds g X hs es l) {D : Ends} {e : Ex} {env1 : Env} {S1 : Store} (p : PostS g W φ H (hndW hs e env1 S1) D) :
    ∀ φ' H' σ' cls dd, Good g φ H φ' S1 H' → EnvR g φ' H' σ' env1 → ExR g φ' H' cls dd e → wCls X.K W D l cls dd σ' H' := by
  induction h with
  | nil => exact p
  | @cons ids i ls w e' es cv r l hx ok t ih =>
    intro φ' H' σ' cls dd k er ⟨C, q, v, e1, ec, ed, hH, rv⟩
    subst ec ed
    unfold hndW at p
    refine ⟨decide (e.c ∈ ids), by rw [hK]; exact hx e.c C e1, fun hb a na => ?_, fun hb => ?_⟩
    · rw [if_pos (of_decide_eq_true hb)] at p
      by_cases hl : env1.length ≤ i
      · rw [if_pos hl] at p; exact p.elim
      · rw [if_neg hl] at p
        have hi : i < σ'.length := by rw [er.len]; omega
        have hv : (σ'.set i (some (.ref a)))[i]? = some (some (V.ref a)) := List.getElem?_set_self hi
        have xf := ern e.c C e1
        rw [← hK] at xf
        have hlk : List.lookup (Str.ofString "what") [(Str.ofString "what", v)] = some v := by simp [List.lookup]
        have sz : ([V.str w, v] : List V).length ≤ sizeLine := by rw [sizeLine_eq]; show 2 ≤ _; decide
        cases ls with
        | false =>
          refine ⟨C, xf.1, xf.2, .ref a, hv, rfl, rfl, q, _, v, rfl, hH, hlk, sz, fun t ht => ?_⟩
          have k2 : Good g φ' H' φ' S1 (upd H' t (.tup [.str w, v])) := .made k.sim ht
          exact p φ' _ (.ref t) (k.trans k2) (.tup upd_same (.cons (.str w) (.cons (rv.good k.sim k2) .nil)))
        | true =>
          refine ⟨C, xf.1, xf.2, .ref a, hv, rfl, rfl, q, _, v, rfl, hH, hlk, sz, fun t ht => ?_⟩
          have k2 := Good.alloc (g := g) (φ := φ') (S := S1) (ob := .lst [.str w, e.what]) (o := .lst [.str w, v]) k.sim ht fun φ2 pre kk => ⟨_, upd_same, .cons (.str w) (.cons (rv.mono kk pre) .nil)⟩
          exact p _ _ (.ref t) (k.trans k2) (.loc (Good.alloc_at k.sim))
    · rw [if_neg (of_decide_eq_false hb)] at p
      exact ih p φ' H' σ' _ _ k er ⟨C, q, v, e1, rfl, rfl, hH, rv⟩
theorem rS_try {is : List IS} {hs : List (List Nat × Nat × Bool × Str)} {body : List Stmt} {h₀ : ExceptHandler} {hds : List ExceptHandler} {l : List Clause} {pos : Pos} (hsx : X.stack = X.env :: X.outer) (hf : X.env.frame = some X.env.locals) (hN : X.N.Nodup) (tk : Takes X W) (hK : X.K = g.K)
    (ern : ∀ c C, g.err c = some C → XfC g.K C ∧ PySem.W.findIn g.K (.ref C) (Str.ofString "what") = some none)
    (hb : ∀ (W' : WX) (pn : List (Addr × Obj)) (xe : Value → Shared → Prop), Takes (X.tr pn xe) W' → PassesOwn (model X.prog X.w) X.A X.env xe → PSs (X.tr pn xe) body (rdSs g W' ix is)) (h : Hds g X hs (h₀ :: hds) l) :
    PS X (.Try body (h₀ :: hds) [] [] pos) (rdS g W ix (.tryW is hs)) :=
  PSimp (ps_try_cls hsx hf hN tk hb h.cls) fun D σ H ⟨φ, env, S, sm, er, p⟩ => by
    unfold exS at p
    refine ⟨φ, env, S, sm, er, ?_⟩
    show PostS g _ φ H (exSs ix is env S) D
    cases he : exSs ix is env S with
    | none => rw [he] at p; exact p
    | some r =>
      rw [he] at p
      cases r with
      | ex e env1 S1 => exact hds_post hK ern h p
      | nx env1 S1 => exact p
      | rt env1 S1 => exact p
      | bk env1 S1 => exact p
      | ct env1 S1 => exact p
end
end PL
set_option Elab.async false
set_option linter.all false
set_option maxRecDepth 100000
namespace PL
open PySem PySem.Spec PyProof.Rows L2
section
variable {g : G} {φ φ' φ0 φ1 φ2 : List Addr} {H H' H0 H1 H2 : Hp} {S S' S0 S1 S2 : Store} {X : Cx} {W : WX} {σ : St} {ix : Ix} {a b c : IE} {ea eb ec : Expr} {pos p0 apos : Pos} {env : Env} {T : Tab} {P : Prog} {k : Nat} {es : List Expr} {is : IEs} {e : Expr} {tg : Expr}
/-! ### two or three names at once -/
theorem VRs.inv3 {xs : List V} {d e f : D} (r : VRs g φ H xs [d, e, f]) : ∃ x y z, xs = [x, y, z] ∧ VR g φ H x d ∧ VR g φ H y e ∧ VR g φ H z f := by
  cases r with
  | cons h t =>
    obtain ⟨y, z, rfl, r2, r3⟩ := t.inv2
    exact ⟨_, y, z, rfl, h, r2, r3⟩
theorem rS_par {i j : Nat} {x y : Str} {A B : Expr} {px py pt : Pos} {kt k2 : Nat} {pt2 : Pos} (hc : X.calm = true) (hN : X.N.Nodup) (hi : X.N[i]? = some x) (hj : X.N[j]? = some y) (hij : i ≠ j)
    (hx : X.env.scope.names.lookup x = some .local) (hy : X.env.scope.names.lookup y = some .local) (ha : PA X [A, B] (rdEs g W ix is))
    (hw : swappedStores [.Tuple [.Name x px, .Name y py] kt pt] (.Tuple [A, B] k2 pt2) X.env = pure (some [x, y])) :
    PS X (.Assign [.Tuple [.Name x px, .Name y py] kt pt] (.Tuple [A, B] k2 pt2) pos) (rdS g W ix (.par [i, j] is)) := PSimp (ps_par hc hN hi hj hij hx hy ha hw) fun D σ H ⟨φ, env, S, sm, er, p⟩ => by
  unfold exS at p
  exact ⟨φ, env, S, sm, er, PostS.sbnd (.refl sm) er p fun φ1 S1 H1 xs ds _ k r p1 => by
    match ds, r, p1 with
    | [d, e], r, p1 =>
      obtain ⟨v, w, rfl, rv, rw'⟩ := r.inv2
      exact ⟨v, w, rfl, p1 φ1 H1 _ k (((er.good sm k).set rv i).set rw' j)⟩
    | [], r, p1 => exact p1.elim
    | [_], r, p1 => exact p1.elim
    | _ :: _ :: _ :: _, r, p1 => exact p1.elim⟩
theorem rS_par3 {i j l : Nat} {x y z : Str} {A B C : Expr} {px py pz pt : Pos} {kt k2 : Nat} {pt2 : Pos} (hc : X.calm = true) (hN : X.N.Nodup) (hi : X.N[i]? = some x) (hj : X.N[j]? = some y) (hl : X.N[l]? = some z) (hij : i ≠ j) (hil : i ≠ l) (hjl : j ≠ l)
    (hx : X.env.scope.names.lookup x = some .local) (hy : X.env.scope.names.lookup y = some .local) (hz : X.env.scope.names.lookup z = some .local) (ha : PA X [A, B, C] (rdEs g W ix is))
    (hw : swappedStores [.Tuple [.Name x px, .Name y py, .Name z pz] kt pt] (.Tuple [A, B, C] k2 pt2) X.env = pure (some [x, y, z])) :
    PS X (.Assign [.Tuple [.Name x px, .Name y py, .Name z pz] kt pt] (.Tuple [A, B, C] k2 pt2) pos) (rdS g W ix (.par [i, j, l] is)) := PSimp (ps_par3 hc hN hi hj hl hij hil hjl hx hy hz ha hw) fun D σ H ⟨φ, env, S, sm, er, p⟩ => by
  unfold exS at p
  exact ⟨φ, env, S, sm, er, PostS.sbnd (.refl sm) er p fun φ1 S1 H1 xs ds _ k r p1 => by
    match ds, r, p1 with
    | [d, e, f], r, p1 =>
      obtain ⟨v, w, u, rfl, rv, rw', ru⟩ := r.inv3
      exact ⟨v, w, u, rfl, p1 φ1 H1 _ k ((((er.good sm k).set rv i).set rw' j).set ru l)⟩
    | [], r, p1 => exact p1.elim
    | [_], r, p1 => exact p1.elim
    | [_, _], r, p1 => exact p1.elim
    | _ :: _ :: _ :: _ :: _, r, p1 => exact p1.elim⟩
def augB : BOp → Operator → Bool
  | .add, .Add => true
  | .sub, .Sub => true
  | _, _ => false
theorem rS_aug {i : Nat} {x : Str} {px : Pos} {c : SC} {o : BOp} {op : Operator} (hop : augB o op = true) (nd : X.N.Nodup) (hN : X.N = c.N) (hsc : X.env.scope = c.sc) (hfn : X.fn = c.fn) (h : locB c i x = true) (ha : PE X ea (rdE g W ix a)) :
    PS X (.AugAssign (.Name x px) op ea pos) (rdS g W ix (.aug i o a)) := by
  obtain ⟨h1, h2, h3⟩ := locB_iff hN hsc hfn h
  have go : ∀ {f : Int → Int → Int}, PIp X op (ipI f) → (∀ n (y : D) (env : Env) S1, (match o, y with
      | .add, .int m => some (SR.nx (env.set i (some (.int (n + m)))) S1)
      | .sub, .int m => some (.nx (env.set i (some (.int (n - m)))) S1)
      | _, _ => none) = match y with
      | .int m => some (.nx (env.set i (some (.int (f n m)))) S1)
      | _ => none) → PS X (.AugAssign (.Name x px) op ea pos) (rdS g W ix (.aug i o a)) := fun {f} hf hm =>
    PSimp (ps_aug nd h1 h2 ha hf h3) fun D σ H ⟨φ, env, S, sm, er, p⟩ => by
      unfold exS at p
      split at p
      · rename_i n hn
        obtain ⟨v, hv, rv⟩ := er.val i _ hn
        cases rv
        refine ⟨.int n, hv, φ, env, S, sm, er, Post.cmp sm (PostS.sbnd (.refl sm) er p fun φ1 S1 H1 x d _ k r p1 => ?_)⟩
        have p1 := Eq.mp (congrArg (fun z => PostS g W φ H z D) (hm n d env S1)) p1
        cases r with
        | int m => exact ⟨n, m, rfl, rfl, p1 φ1 H1 _ k ((er.good sm k).set (.int _) i)⟩
        | _ => exact p1.elim
      · exact p.elim
  cases o <;> cases op <;> first | cases hop | skip
  · exact go ip_add fun n y env S1 => by cases y <;> rfl
  · exact go ip_sub fun n y env S1 => by cases y <;> rfl

/-! ### while -/
theorem rS_while {t : IE} {et : Expr} {A : List Stmt} {iA : List IS} (hp : PassesOwn (model X.prog X.w) X.A X.env X.xe) (ht : PT X et (rdT g W ix t)) (hA : PSs X A (rdSs g W ix iA)) : PS X (.While et A [] pos) (rdS g W ix (.while_ t iA)) :=
  PSimp (ps_while hp ht hA) fun D σ H ⟨φ, env, S, sm, er, p⟩ => by
    unfold exS at p
    refine ⟨fun m σ H => ∃ φ env S, Sim g φ S H ∧ EnvR g φ H σ env ∧ PostS g W φ H (whileI (fun env S => tstR S (evE ix t env S)) (fun env S => exSs ix iA env S) m env S) D, ⟨turns, φ, env, S, sm, er, p⟩, ?_⟩
    intro m σ H ⟨φ, env, S, sm, er, p⟩
    cases m with
    | zero => unfold whileI at p; exact p.elim
    | succ n =>
      unfold whileI at p
      refine ⟨φ, env, S, sm, er, Post.tst sm (PostS.sbnd (rel := bRel) (.refl sm) er p fun φ1 S1 H1 x d _ k r p1 => ?_)⟩
      cases r
      cases x with
      | false => rw [if_neg (by decide)] at p1 ⊢; exact p1 φ1 H1 σ k (er.good sm k)
      | true =>
        rw [if_pos rfl] at p1 ⊢
        refine ⟨fun σ' H' => ∃ φ env S, Sim g φ S H' ∧ EnvR g φ H' σ' env ∧ PostS g W φ H' (whileI (fun env S => tstR S (evE ix t env S)) (fun env S => exSs ix iA env S) n env S) D, fun σ' H' h => ⟨n, Nat.lt_succ_self _, h⟩, φ1, env, S1, k.sim, er.good sm k, ?_⟩
        have p1 := p1.from k
        show PostS g W φ1 H1 (exSs ix iA env S1) _
        cases he : exSs ix iA env S1 with
        | none => rw [he] at p1; exact p1
        | some r =>
          rw [he] at p1
          cases r with
          | nx env2 S2 => exact fun φ2 H2 σ2 k2 er2 => ⟨φ2, env2, S2, k2.sim, er2, p1.from k2⟩
          | ct env2 S2 => exact fun φ2 H2 σ2 k2 er2 => ⟨φ2, env2, S2, k2.sim, er2, p1.from k2⟩
          | bk env2 S2 => exact p1
          | rt d S2 => exact p1
          | ex e env2 S2 => exact p1

/-! ### for -/
noncomputable def forF (ix : Ix) (t : ITg) (body : List IS) : D → Env → Store → Option SR := fun d env S => match bindT t d env with
      | some env' => exSs ix body env' S
      | none => none
theorem for_turns {J : It} {l : List D} {src : Src} {t : ITg} {iA : List IS} {D : Ends} (er : EnvR g φ1 H1 σ env) (sm : Sim g φ1 S1 H1) (it : ItR g φ1 H1 J l src) (p : PostS g W φ1 H1 (forI (forF ix t iA) src l env S1) D) :
    ∃ Wv : Nat → Nat → St → Hp → Prop, (∃ m, Wv 0 m σ H1) ∧ ∀ i m σ H, Wv i m σ H →
      (J.stop i H ∧ D.nx σ H) ∨ (J.go i H ∧ ∃ N : St → Hp → Prop, (∀ σ' H', N σ' H' → ∃ m', m' < m ∧ Wv (i + 1) m' σ' H') ∧ ∀ x H', J.yld i H x H' → rdG g t x σ H' fun σ2 H2 => rdSs g W ix iA { D with nx := N, ct := N, bk := D.nx } σ2 H2) := by
  refine ⟨fun i m σ H => m = l.length - i ∧ i ≤ l.length ∧ ∃ φ2 env2 S2, Good g φ1 H1 φ2 S2 H ∧ EnvR g φ2 H σ env2 ∧ PostS g W φ2 H (forI (forF ix t iA) src (l.drop i) env2 S2) D, ⟨l.length, rfl, Nat.zero_le _, φ1, env, S1, .refl sm, er, p⟩, ?_⟩
  rintro i m σ H ⟨rfl, hi, φ2, env2, S2, k, er, p⟩
  by_cases hlt : i < l.length
  · have hd : l.drop i = l[i] :: l.drop (i + 1) := List.drop_eq_getElem_cons hlt
    rw [hd] at p
    unfold forI at p
    by_cases hok : src.ok S2
    · rw [if_pos hok] at p
      refine .inr ⟨it.go φ2 S2 H i k hok hlt, _, fun σ' H' q => ⟨l.length - (i + 1), by omega, q⟩, fun x H' y => ?_⟩
      obtain ⟨d, hld, k', rx⟩ := it.yld φ2 S2 H i x H' k hok hlt y
      rw [List.getElem?_eq_getElem hlt] at hld
      cases hld
      unfold forF at p
      cases hb : bindT t l[i] env2 with
      | none => rw [hb] at p; exact p.elim
      | some env3 =>
        rw [hb] at p
        dsimp only at p
        refine ⟨φ2, env2, S2, l[i], env3, k'.sim, er.good k.sim k', rx, hb, fun σ3 er3 _ => ⟨φ2, env3, S2, k'.sim, er3, ?_⟩⟩
        have p := p.from k'
        show PostS g W φ2 H' (exSs ix iA env3 S2) _
        cases he : exSs ix iA env3 S2 with
        | none => rw [he] at p; exact p
        | some r =>
          rw [he] at p
          cases r with
          | nx env4 S4 => exact fun φ4 H4 σ4 k4 er4 => ⟨rfl, hlt, φ4, env4, S4, (k.trans k').trans k4, er4, p.from k4⟩
          | ct env4 S4 => exact fun φ4 H4 σ4 k4 er4 => ⟨rfl, hlt, φ4, env4, S4, (k.trans k').trans k4, er4, p.from k4⟩
          | bk env4 S4 => exact p
          | rt d S4 => exact p
          | ex e env4 S4 => exact p
    · rw [if_neg hok] at p; exact p.elim
  · have e : i = l.length := by omega
    subst e
    rw [List.drop_length] at p
    unfold forI at p
    by_cases hok : src.ok S2
    · rw [if_pos hok] at p
      exact .inl ⟨it.stop φ2 S2 H k hok, p φ2 H σ (.refl k.sim) er⟩
    · rw [if_neg hok] at p; exact p.elim
theorem unlS_open {src : Src} (ho : src.open = true) {r : Option SR} {D : Ends} (p : PostS g W φ H (unlS src r) D) : PostS g W φ H r D := by
  have key : ∀ {S : Store} {f : Store → SR} {K : Prop}, PostS g W φ H ((unlk S src).map f) D → (PostS g W φ H (some (f S)) D → K) → K := fun {S f K} q h => by
    by_cases ok : src.ok S
    · rw [unlk_open ho ok] at q; exact h q
    · have : unlk S src = none := by unfold unlk; rw [if_neg ok]
      rw [this] at q; exact q.elim
  cases r with
  | none => exact p
  | some r =>
    cases r with
    | nx env S2 => exact key (f := fun S => .nx env S) p fun q => q
    | rt env S2 => exact key (f := fun S => .rt env S) p fun q => q
    | bk env S2 => exact key (f := fun S => .bk env S) p fun q => q
    | ct env S2 => exact key (f := fun S => .ct env S) p fun q => q
    | ex e env S2 => exact p
theorem rS_for {t : ITg} {it : IIt} {iter : Expr} {A : List Stmt} {iA : List IS} (hl : it.locks = false) (hp : PassesOwn (model X.prog X.w) X.A X.env X.xe) (hc : X.calm = true) (hi : PI X tg iter (rdI g W ix it)) (hg : PG X tg (rdG g t)) (hA : PSs X A (rdSs g W ix iA))
    (hs : ∀ x, foldedSetIterable iter X.env x = pure x) : PS X (.For tg iter A [] pos) (rdS g W ix (.for_ t it iA)) :=
  PSimp (ps_for hp hc hi hg hA hs) fun D σ H ⟨φ, env, S, sm, er, p⟩ => by
    unfold exS at p
    exact ⟨φ, env, S, sm, er, PostS.sbnd (.refl sm) er p fun φ1 S1 H1 J q he k it1 p1 => by
      have ho := evIt_open hl he
      have p1 : PostS g W φ H (unlS q.2 (forI (forF ix t iA) q.2 q.1 env S1)) D := p1
      exact for_turns (er.good sm k) k.sim it1 ((unlS_open ho p1).from k)⟩
end
end PL
set_option Elab.async false
set_option linter.all false
set_option maxRecDepth 100000
namespace PL
open PySem PySem.Spec PyProof.Rows L2
section
variable {g : G} {φ φ' φ0 φ1 φ2 : List Addr} {H H' H0 H1 H2 : Hp} {S S' S0 S1 S2 : Store} {X : Cx} {W : WX} {σ : St} {ix : Ix} {a b c : IE} {ea eb ec : Expr} {pos p0 apos : Pos} {env : Env} {T : Tab} {P : Prog} {k : Nat} {es : List Expr} {is : IEs} {e : Expr} {tg : Expr}
/-! ### a dict that is walked -/
theorem lock_good (sm : Sim g φ S H) {n : Nat} {d : Addr} {m : List (Key × V)} {l : List (D × D)} (hd : φ[n]? = some d) (e : H d = some (.dK m)) (r : DR g φ H kD m l) (od : Obj) : Good g φ H φ (S.set n (.lock false l)) (upd H d (.frz od (.dK m))) :=
  Good.write sm hd (by rw [e]; intro _ _ z; cases z) fun kk => ⟨od, m, upd_same, r.mono kk (List.prefix_refl _)⟩
theorem unlock_good (sm : Sim g φ S H) {n : Nat} {d : Addr} {m : List (Key × V)} {l : List (D × D)} {od : Obj} (hd : φ[n]? = some d) (e : H d = some (.dK m)) (r : DR g φ H kD m l) (k : Good g φ (upd H d (.frz od (.dK m))) φ' S' H') :
    Good g φ H φ' (S'.set n (.dict false l)) (upd H' d (.dK m)) ∧ Rsv g H' (upd H' d (.dK m)) ∧ H' d = some (.frz od (.dK m)) := by
  have hf : H' d = some (.frz od (.dK m)) := k.lk d od (.dK m) upd_same
  have hne : ∀ {a o}, H a = some o → (∀ m, o ≠ .dK m) → a ≠ d := fun {a o} h1 h2 z => by rw [z, e] at h1; cases h1; exact h2 _ rfl
  have rs : Rsv g H' (upd H' d (.dK m)) := ⟨fun a zs e => by rw [upd_ne (fun z => by rw [z, hf] at e; cases e)]; exact e, fun c C fs a dx zs _ e => by rw [upd_ne (fun z => by rw [z, hf] at e; cases e)]; exact e, fun a o zs e => by rw [upd_ne (fun z => by rw [z, hf] at e; cases e)]; exact e⟩
  have hm : d ∈ φ := List.mem_of_getElem? hd
  have hd' := k.loc hd
  have rs0 : Rsv g H (upd H' d (.dK m)) := by
    refine ⟨fun a zs h => ?_, fun c C fs a dx zs hc h => ?_, fun a o zs h => ?_⟩
    · have ha := hne h (fun _ z => nomatch z)
      rw [upd_ne ha]
      exact k.fm a _ (by rw [upd_ne ha]; exact h) (sm.apart h (.inl ⟨_, rfl⟩))
    · have ha := hne h (fun _ z => nomatch z)
      rw [upd_ne ha]
      exact k.fm a _ (by rw [upd_ne ha]; exact h) (sm.apart h (.inr (.inr (.inl ⟨_, _, _, rfl⟩))))
    · have ha := hne h (fun _ z => nomatch z)
      rw [upd_ne ha]
      exact k.fm a _ (by rw [upd_ne ha]; exact h) (sm.apart h (.inr (.inr (.inr ⟨_, _, rfl⟩))))
  refine ⟨⟨k.pre, ⟨by rw [List.length_set]; exact k.sim.len, k.sim.nd, fun j a o e1 e2 => ?_⟩, fun a o h na => ?_, fun a ha na => ?_, fun a o u h => ?_⟩, rs, hf⟩
  · by_cases hj : j = n
    · subst hj
      rw [hd'] at e1; cases e1
      have hl : j < S'.length := by rw [← k.sim.len]; exact (List.getElem?_eq_some_iff.mp hd').1
      rw [List.getElem?_set_self hl] at e2
      cases e2
      exact ⟨m, upd_same, r.mono rs0 k.pre⟩
    · rw [List.getElem?_set_ne (Ne.symm hj)] at e2
      have hne : a ≠ d := fun z => by
        subst z
        obtain ⟨h1, q1⟩ := List.getElem?_eq_some_iff.mp e1
        obtain ⟨h2, q2⟩ := List.getElem?_eq_some_iff.mp hd'
        exact hj ((List.getElem_inj k.sim.nd).mp (q1.trans q2.symm))
      exact (k.sim.obj j a o e1 e2).mono rs (List.prefix_refl _) fun u q => by rw [upd_ne hne]; exact q
  · have ha : a ≠ d := fun z => na (by rw [z]; exact hm)
    rw [upd_ne ha]
    exact k.fm a o (by rw [upd_ne ha]; exact h) na
  · have h2 := k.new a ha na
    have had : a ≠ d := fun z => na (by rw [z]; exact hm)
    rw [upd_ne had] at h2
    exact h2
  · have ha := hne h (fun _ z => nomatch z)
    rw [upd_ne ha]
    exact k.lk a o u (by rw [upd_ne ha]; exact h)
/-- the items of a locked dict, by its keys or its pairs -/
def lockItems : IIt → List (D × D) → List D
  | .items _, l => l.map fun p => .tup [p.1, p.2]
  | _, l => l.map (·.1)
def lockSlot : IIt → Nat
  | .items i => i
  | .keys i => i
  | _ => 0
def rdL (g : G) (it : IIt) : TI := fun σ H R => ∃ φ env S n l, Sim g φ S H ∧ EnvR g φ H σ env ∧ env[lockSlot it]? = some (some (.loc n)) ∧ S[n]? = some (.lock false l) ∧ ∀ J, ItR g φ H J (lockItems it l) (.dict n false l) → R J H
theorem it_items {d : Addr} {o : Obj} {m : List (Key × V)} {l : List (D × D)} {n : Nat} (sm : Sim g φ S H) (e : H d = some (.frz o (.dK m))) (r : DR g φ H kD m l) : ItR g φ H (Iti d o m) (l.map fun p => .tup [p.1, p.2]) (.dict n false l) := by
  have hlen : m.length = l.length := Paired.length r
  refine ⟨fun φ1 S1 H1 i k _ hi => ⟨k.lk _ _ _ e, by rw [hlen]; simpa using hi⟩, fun φ1 S1 H1 k _ => ⟨k.lk _ _ _ e, by rw [hlen]; simp⟩, fun φ1 S1 H1 i x H2 k _ hi y => ?_⟩
  obtain ⟨T, kk, v, h1, rfl, hT, rfl⟩ := y
  have hi : i < l.length := by simpa using hi
  have g1 : Good g φ1 H1 φ1 S1 (upd H1 T (.tup [kV kk, v])) := .made k.sim hT
  have at_ : ∀ {m : List (Key × V)} {l : List (D × D)} {i : Nat} {p : Key × V}, DR g φ H kD m l → m[i]? = some p → ∃ q, l[i]? = some q ∧ kD q.1 = some p.1 ∧ VR g φ H p.2 q.2 := fun {m l i p} r => by
    unfold DR at r
    induction r generalizing i with
    | nil => intro h; simp at h
    | @cons p' q' m l h t ih =>
      intro hm
      cases i with
      | zero => simp at hm; subst hm; exact ⟨q', rfl, h⟩
      | succ i => exact ih (by simpa using hm)
  obtain ⟨q, hq, h2, h3⟩ := at_ r h1
  refine ⟨.tup [q.1, q.2], by rw [List.getElem?_map, hq]; rfl, g1, .tup upd_same (.cons ?_ (.one ((h3.good sm k).good k.sim g1)))⟩
  cases hk : q.1 <;> rw [hk] at h2 <;> cases h2
  · exact .int _
  · exact .str _
theorem it_keys {d : Addr} {o : Obj} {m : List (Key × V)} {l : List (D × D)} {n : Nat} (sm : Sim g φ S H) (e : H d = some (.frz o (.dK m))) (r : DR g φ H kD m l) : ItR g φ H (Itk d o m) (l.map (·.1)) (.dict n false l) := by
  have hlen : m.length = l.length := Paired.length r
  refine ⟨fun φ1 S1 H1 i k _ hi => ⟨k.lk _ _ _ e, by rw [hlen]; simpa using hi⟩, fun φ1 S1 H1 k _ => ⟨k.lk _ _ _ e, by rw [hlen]; simp⟩, fun φ1 S1 H1 i x H2 k _ hi y => ?_⟩
  obtain ⟨rfl, kk, v, h1, rfl⟩ := y
  have hi : i < l.length := by simpa using hi
  have at_ : ∀ {m : List (Key × V)} {l : List (D × D)} {i : Nat} {p : Key × V}, DR g φ H kD m l → m[i]? = some p → ∃ q, l[i]? = some q ∧ kD q.1 = some p.1 := fun {m l i p} r => by
    unfold DR at r
    induction r generalizing i with
    | nil => intro h; simp at h
    | @cons p' q' m l h t ih =>
      intro hm
      cases i with
      | zero => simp at hm; subst hm; exact ⟨q', rfl, h.1⟩
      | succ i => exact ih (by simpa using hm)
  obtain ⟨q, hq, h2⟩ := at_ r h1
  refine ⟨q.1, by rw [List.getElem?_map, hq]; rfl, .refl k.sim, ?_⟩
  cases hk : q.1 <;> rw [hk] at h2 <;> cases h2
  · exact .int _
  · exact .str _
theorem rL_items {i : Nat} {x : Str} {px : Pos} {kc : SC} {elts : List Expr} {kk : Nat} {tpos : Pos} (hN : X.N = kc.N) (hsc : X.env.scope = kc.sc) (h : slotB kc i x = true) (hline : (apos.endLine == pos.line) = true) :
    PI X (.Tuple elts kk tpos) (.Call (.Attribute (.Name x px) "items" apos) [] [] pos) (rdL g (.items i)) := by
  unfold slotB at h
  simp only [Bool.and_eq_true, Bool.not_eq_true', beq_iff_eq] at h
  obtain ⟨⟨⟨h1, h2⟩, h3⟩, h4⟩ := h
  refine PIimp (pi_items (pe_var (i := i) (by rw [hN]; exact h1) (by rw [hsc]; exact visB_iff h2) h3 h4) rfl hline) fun σ H R ⟨φ, env, S, n, l, sm, er, he, hl, q⟩ => ?_
  obtain ⟨v, h5, h6⟩ := er.val _ _ he
  cases h6 with
  | loc hd =>
    obtain ⟨o, m, e, r⟩ := sm.obj n _ _ hd hl
    exact ⟨_, h5, _, o, m, rfl, e, q _ (it_items sm e r)⟩
theorem rL_keys {i : Nat} {x : Str} {px : Pos} {kc : SC} (hN : X.N = kc.N) (hsc : X.env.scope = kc.sc) (h : slotB kc i x = true) : PI X tg (.Name x px) (rdL g (.keys i)) := by
  unfold slotB at h
  simp only [Bool.and_eq_true, Bool.not_eq_true', beq_iff_eq] at h
  obtain ⟨⟨⟨h1, h2⟩, h3⟩, h4⟩ := h
  refine PIimp (pi_keys (pe_var (i := i) (by rw [hN]; exact h1) (by rw [hsc]; exact visB_iff h2) h3 h4)) fun σ H R ⟨φ, env, S, n, l, sm, er, he, hl, q⟩ => ?_
  obtain ⟨v, h5, h6⟩ := er.val _ _ he
  cases h6 with
  | loc hd =>
    obtain ⟨o, m, e, r⟩ := sm.obj n _ _ hd hl
    exact ⟨_, h5, _, o, rfl, .inl ⟨m, e, q _ (it_keys sm e r)⟩⟩
/-- what a locked source's start gives -/
theorem evL {it : IIt} (hl : it.locks = true) (h : evIt ix it env S ≠ none) : ∃ n l, env[lockSlot it]? = some (some (.loc n)) ∧ S[n]? = some (.dict false l) ∧ evIt ix it env S = some (.val (lockItems it l, .dict n false l) (S.set n (.lock false l))) := by
  cases it with
  | items i =>
    unfold evIt at h ⊢
    cases he : env[i]? with
    | none => rw [he] at h; exact absurd rfl h
    | some o =>
      rw [he] at h
      cases o with
      | none => exact absurd rfl h
      | some d =>
        cases d with
        | loc n =>
          dsimp only at h ⊢
          cases hs : S[n]? with
          | none => rw [hs] at h; exact absurd rfl h
          | some o =>
            rw [hs] at h
            cases o with
            | dict t l =>
              cases t with
              | false => exact ⟨n, l, he, hs, by rfl⟩
              | true => exact absurd rfl h
            | _ => exact absurd rfl h
        | _ => exact absurd rfl h
  | keys i =>
    unfold evIt at h ⊢
    cases he : env[i]? with
    | none => rw [he] at h; exact absurd rfl h
    | some o =>
      rw [he] at h
      cases o with
      | none => exact absurd rfl h
      | some d =>
        cases d with
        | loc n =>
          dsimp only at h ⊢
          cases hs : S[n]? with
          | none => rw [hs] at h; exact absurd rfl h
          | some o =>
            rw [hs] at h
            cases o with
            | dict t l =>
              cases t with
              | false => exact ⟨n, l, he, hs, by rfl⟩
              | true => exact absurd rfl h
            | _ => exact absurd rfl h
        | _ => exact absurd rfl h
  | _ => cases hl
theorem src_ok_dict {n : Nat} {l : List (D × D)} (h : (Src.dict n false l).ok S) : unlk S (.dict n false l) = some (S.set n (.dict false l)) := by
  unfold unlk
  rw [if_pos h]
theorem rS_forL {t : ITg} {it : IIt} {iter : Expr} {A : List Stmt} {iA : List IS} (hl : it.locks = true) (hp : PassesOwn (model X.prog X.w) X.A X.env X.xe) (hc : X.calm = true) (hi : PI X tg iter (rdL g it)) (hg : PG X tg (rdG g t)) (hA : PSs X A (rdSs g W ix iA))
    (hs : ∀ x, foldedSetIterable iter X.env x = pure x) : PS X (.For tg iter A [] pos) (rdS g W ix (.for_ t it iA)) :=
  PSimp (ps_lock (ps_for hp hc hi hg hA hs)) fun D σ H ⟨φ, env, S, sm, er, p⟩ => by
    unfold exS at p
    obtain ⟨n, l, he, hs, hv⟩ := evL (ix := ix) (env := env) (S := S) hl (fun z => by rw [z] at p; exact p)
    rw [hv] at p
    obtain ⟨x, hx, rx⟩ := er.val _ _ he
    cases rx with
    | loc hd =>
      rename_i d
      obtain ⟨m, e, r⟩ := sm.obj n d _ hd hs
      refine ⟨d, .dK m, e, True.intro, fun od => ?_⟩
      have kl := lock_good sm hd e r od
      have hn : n < S.length := (List.getElem?_eq_some_iff.mp hs).1
      have p : PostS g W φ H (unlS (.dict n false l) (forI (forF ix t iA) (.dict n false l) (lockItems it l) env (S.set n (.lock false l)))) D := p
      refine ⟨φ, env, S.set n (.lock false l), n, l, kl.sim, er.good sm kl, he, by rw [List.getElem?_set_self hn], fun J hJ => ?_⟩
      refine for_turns (er.good sm kl) kl.sim hJ ?_
      cases hr : forI (forF ix t iA) (.dict n false l) (lockItems it l) env (S.set n (.lock false l)) with
      | none => rw [hr] at p; exact p
      | some r0 =>
        rw [hr] at p
        have key : ∀ {S' : Store} {f : Store → SR} {φ' : List Addr} {H' : Hp}, PostS g W φ H ((unlk S' (.dict n false l)).map f) D → Good g φ (upd H d (.frz od (.dK m))) φ' S' H' →
            H' d = some (.frz od (.dK m)) ∧ PostS g W φ H (some (f (S'.set n (.dict false l)))) D ∧ Good g φ H φ' (S'.set n (.dict false l)) (upd H' d (.dK m)) ∧ Rsv g H' (upd H' d (.dK m)) := fun {S' f φ' H'} q k => by
          by_cases ok : (Src.dict n false l).ok S'
          · rw [src_ok_dict ok] at q
            obtain ⟨h1, h2, h3⟩ := unlock_good sm hd e r k
            exact ⟨h3, q, h1, h2⟩
          · have : unlk S' (.dict n false l) = none := by unfold unlk; rw [if_neg ok]
            rw [this] at q; exact q.elim
        have envR : ∀ {φ' : List Addr} {H' : Hp} {σ' : St} {env' : Env}, EnvR g φ' H' σ' env' → Rsv g H' (upd H' d (.dK m)) → EnvR g φ' (upd H' d (.dK m)) σ' env' := fun er rs => ⟨er.len, fun i d h => let ⟨x, h1, h2⟩ := er.val i d h; ⟨x, h1, h2.mono rs (List.prefix_refl _)⟩⟩
        cases r0 with
        | nx env' S' =>
          intro φ' H' σ' k er'
          obtain ⟨h1, h2, h3, h4⟩ := key (f := fun S => .nx env' S) p k
          exact ⟨h1, h2 _ _ _ h3 (envR er' h4)⟩
        | bk env' S' =>
          intro φ' H' σ' k er'
          obtain ⟨h1, h2, h3, h4⟩ := key (f := fun S => .bk env' S) p k
          exact ⟨h1, h2 _ _ _ h3 (envR er' h4)⟩
        | ct env' S' =>
          intro φ' H' σ' k er'
          obtain ⟨h1, h2, h3, h4⟩ := key (f := fun S => .ct env' S) p k
          exact ⟨h1, h2 _ _ _ h3 (envR er' h4)⟩
        | rt v S' =>
          intro φ' H' x k rx
          obtain ⟨h1, h2, h3, h4⟩ := key (f := fun S => .rt v S) p k
          exact ⟨h1, h2 _ _ _ h3 (rx.mono h4 (List.prefix_refl _))⟩
        | ex e' env' S' => exact fun φ' H' σ' cls dd k er' rx => p φ' H' σ' cls dd (kl.trans k) er' rx
/-- .. of a comprehension -/
theorem lcL_of {t : ITg} {it : IIt} {cs : IEs} {vs : List Nat} {Q : VK} (hl : it.locks = true) (hv : ∀ i ∈ t.slots, i ∈ vs) (h : rdE g W ix (.comp a t it cs vs) σ H Q) : tLockE (tLc (rdL g it) (rdG g t) (rdTs g WF ix cs) (rdE g WF ix a) vs) σ H Q := by
  obtain ⟨φ, env, S, sm, er, p⟩ := h
  unfold evE at p
  obtain ⟨n, l, he, hs, hev⟩ := evL (ix := ix) (env := env) (S := S) hl (fun z => by rw [z] at p; exact p)
  rw [hev] at p
  obtain ⟨x, hx, rx⟩ := er.val _ _ he
  cases rx with
  | loc hd =>
    rename_i d
    obtain ⟨m, e, r⟩ := sm.obj n d _ hd hs
    refine ⟨d, .dK m, e, True.intro, fun od => ?_⟩
    have kl := lock_good sm hd e r od
    have hn : n < S.length := (List.getElem?_eq_some_iff.mp hs).1
    have p : Post g W φ H σ (VR g) (((compI (compF ix a t cs vs env) (.dict n false l) (lockItems it l) [] (S.set n (.lock false l))).bind fun r => (unlk r.2 (.dict n false l)).map fun S2 => (r.1, S2)).map fun r => R.val (D.loc r.2.length) (r.2 ++ [.lst r.1])) Q := p
    refine ⟨φ, env, S.set n (.lock false l), n, l, kl.sim, er.good sm kl, he, by rw [List.getElem?_set_self hn], fun J hJ => ?_⟩
    cases hc : compI (compF ix a t cs vs env) (.dict n false l) (lockItems it l) [] (S.set n (.lock false l)) with
    | none => rw [hc] at p; exact p.elim
    | some r1 =>
      obtain ⟨acc, Sf⟩ := r1
      rw [hc] at p
      refine lc_turns (Q := fun v H' => H' d = some (.frz od (.dK m)) ∧ Q v (upd H' d (.dK m))) kl.sim (er.good sm kl) hJ hv hc fun D φ2 H' hD kk hlen ok => ?_
      simp only [Option.bind_some, src_ok_dict ok, Option.map_some] at p
      obtain ⟨h1, h2, h3⟩ := unlock_good sm hd e r kk
      refine ⟨h3, ?_⟩
      have hsl : (Sf ++ [O.lst acc]).set n (O.dict false l) = Sf.set n (O.dict false l) ++ [O.lst acc] := by
        have : n < Sf.length := by
          have := (List.getElem?_eq_some_iff.mp (show Sf[n]? = some (O.lock false l) from ok)).1
          exact this
        exact List.set_append_left _ _ this
      rw [hsl] at h1
      refine p _ _ _ h1 (.loc ?_)
      rw [List.length_set, ← hlen, List.getElem?_append_right (Nat.le_refl _), Nat.sub_self]; rfl
/-- what shows of a comprehension's text -/
structure LcOk (g : G) (ix : Ix) (X : Cx) (elt tg : Expr) (ifs : List Expr) (scope : Scope) (own : List (Str × Nat)) (a : IE) (t : ITg) (cs : IEs) : Prop where
  ok : BlkOk X.N X.env.scope scope own
  sl : ∀ i ∈ t.slots, i ∈ own.map (·.2)
  hg : ∀ (s : Shared) (H : Hp) (C : Addr) (cl : List (Str × Addr)) (fp : List Addr), PG (X.blk s H scope (compEnvC scope cl C X.env) fp) tg (rdG g t)
  ht : ∀ (s : Shared) (H : Hp) (C : Addr) (cl : List (Str × Addr)) (fp : List Addr), PTs (X.blk s H scope (compEnvC scope cl C X.env) fp) ifs (rdTs g WF ix cs)
  he : ∀ (s : Shared) (H : Hp) (C : Addr) (cl : List (Str × Addr)) (fp : List Addr), PE (X.blk s H scope (compEnvC scope cl C X.env) fp) elt (rdE g WF ix a)
section
variable {elt iter : Expr} {ifs : List Expr} {scope : Scope} {own : List (Str × Nat)} {t : ITg} {cs : IEs} {it : IIt}
variable (hc : X.calm = true) (hN : X.N.Nodup) (L : LcOk g ix X elt tg ifs scope own a t cs) (hs : ∀ x, foldedSetIterable iter X.env x = pure x)
include hc hN L hs
theorem rE_comp (hl : it.locks = false) (hi : PI X tg iter (rdI g W ix it)) : PE X (.ListComp elt [⟨tg, iter, ifs, 0⟩] scope pos) (rdE g W ix (.comp a t it cs (own.map (·.2)))) :=
  PEimp (pe_lc hc hN hi L.ok L.hg L.ht L.he hs) fun _ _ _ h => lc_of hl L.sl h
theorem rE_compL (hl : it.locks = true) (hi : PI X tg iter (rdL g it)) : PE X (.ListComp elt [⟨tg, iter, ifs, 0⟩] scope pos) (rdE g W ix (.comp a t it cs (own.map (·.2)))) :=
  PEimp (pe_lock (pe_lc hc hN hi L.ok L.hg L.ht L.he hs)) fun _ _ _ h => lcL_of hl L.sl h
theorem rS_setLc {i : Nat} {y : Str} {py spos : Pos} (hy : X.N[i]? = some y) (hyl : X.env.scope.names.lookup y = some .local) (hsw : swapsWith (.ListComp elt [⟨tg, iter, ifs, 0⟩] scope pos) (some (.Name y py)) spos.line X.env = pure true)
    (hl : it.locks = false) (hi : PI X tg iter (rdI g W ix it)) : PS X (.Assign [.Name y py] (.ListComp elt [⟨tg, iter, ifs, 0⟩] scope pos) spos) (rdS g W ix (.set i (.comp a t it cs (own.map (·.2))))) :=
  PSimp (ps_setLc hc hN hy hyl hsw hi L.ok L.hg L.ht L.he hs) fun D σ H ⟨φ, env, S, sm, er, p⟩ => by
    unfold exS at p
    exact lc_of hl L.sl ⟨φ, env, S, sm, er, Post.cmp sm (PostS.sbnd (.refl sm) er p fun φ1 S1 H1 x d _ k r p1 => p1 φ1 H1 _ k ((er.good sm k).set r i))⟩
theorem rS_setLcL {i : Nat} {y : Str} {py spos : Pos} (hy : X.N[i]? = some y) (hyl : X.env.scope.names.lookup y = some .local) (hsw : swapsWith (.ListComp elt [⟨tg, iter, ifs, 0⟩] scope pos) (some (.Name y py)) spos.line X.env = pure true)
    (hl : it.locks = true) (hi : PI X tg iter (rdL g it)) : PS X (.Assign [.Name y py] (.ListComp elt [⟨tg, iter, ifs, 0⟩] scope pos) spos) (rdS g W ix (.set i (.comp a t it cs (own.map (·.2))))) :=
  PSimp (ps_lock (ps_setLc hc hN hy hyl hsw hi L.ok L.hg L.ht L.he hs)) fun D σ H ⟨φ, env, S, sm, er, p⟩ => by
    unfold exS at p
    obtain ⟨d, u, h1, h2, h3⟩ := lcL_of hl L.sl ⟨φ, env, S, sm, er, Post.cmp sm (PostS.sbnd (K := fun x H1 => D.nx (σ.set i (some x)) H1) (.refl sm) er p fun φ1 S1 H1 x d _ k r p1 => p1 φ1 H1 _ k ((er.good sm k).set r i))⟩
    exact ⟨d, u, h1, h2, fun od => h3 od⟩
end
end
end PL
set_option Elab.async false
set_option linter.all false
set_option maxRecDepth 100000
namespace PL
open PySem PySem.Spec PyProof.Rows L2
section
variable {g : G} {φ φ' : List Addr} {H H' : Hp} {S S' : Store} {X : Cx} {W : WX} {σ : St} {ix : Ix} {a b c : IE} {ea eb ec : Expr} {pos p0 apos : Pos} {env : Env} {T : Tab} {P : Prog} {k : Nat} {es : List Expr} {is : IEs} {e : Expr} {tg : Expr}
theorem rE_one {op : BoolOp} {t : TE} (h : PE X ea t) : PE X (.BoolOp op [ea] pos) t := ⟨fun pins s σ H Q I q => h.run pins s σ H Q I q⟩
theorem rW_and1 (h : PT X ea (rdT g W ix a)) : PW X (.BoolOp .And [ea] pos) (rdT g W ix a) := pw_and1 h
theorem rW_or1 (h : PT X ea (rdT g W ix a)) : PW X (.BoolOp .Or [ea] pos) (rdT g W ix a) := pw_or1 h
theorem truR_ite {t : IE} : truR (evE ix (.ite t a b) env S) = bnd (truR (evE ix t env S)) fun c S1 => if c = true then truR (evE ix a env S1) else truR (evE ix b env S1) := by
  rw [truR_bnd]
  conv => lhs; unfold evE
  cases evE ix t env S with
  | none => rfl
  | some r =>
    cases r with
    | exc e S => rfl
    | val d S =>
      simp only [bnd_val]
      cases e : truthD S d with
      | none => rfl
      | some c => cases c <;> rfl
theorem rT_ite {t : IE} {et : Expr} (ht : PT X et (rdT g W ix t)) (ha : PT X ea (rdT g W ix a)) (hb : PT X eb (rdT g W ix b)) : PT X (.IfExp et ea eb pos) (rdT g W ix (.ite t a b)) := by
  refine ⟨fun pins s σ H Q I ⟨φ, env, S, sm, er, p⟩ => ?_⟩
  dsimp only at p
  rw [truR_ite] at p
  have q := tstT (K := fun c H1 => if c = true then rdT g W ix a σ H1 Q else rdT g W ix b σ H1 Q) p sm er fun φ1 S1 H1 c s1 er1 p1 => by
    cases c with
    | true => rw [if_pos rfl] at p1 ⊢; exact ⟨φ1, env, S1, s1, er1, p1⟩
    | false => rw [if_neg (by decide)] at p1 ⊢; exact ⟨φ1, env, S1, s1, er1, p1⟩
  show wpAny _ _ (isTrue et X.env (eval et X.env) >>= fun c => if c = true then isTrue ea X.env (eval ea X.env) else isTrue eb X.env (eval eb X.env)) _ _ _
  refine wpAny_bind (thn (ht.run pins s σ H _ I q) fun c s1 ⟨H1, I1, q1⟩ => ?_)
  cases c with
  | true => rw [if_pos rfl] at q1 ⊢; exact ha.run pins s1 σ H1 Q I1 q1
  | false => rw [if_neg (by decide)] at q1 ⊢; exact hb.run pins s1 σ H1 Q I1 q1
/-- a test that is asked for its value's truth -/
def plainT : Expr → Bool
  | .UnaryOp .Not _ _ => false
  | .BoolOp _ _ _ => false
  | .IfExp _ _ _ _ => false
  | .Compare _ _ _ _ => false
  | _ => true
theorem plain_true {e : Expr} (h : plainT e = true) (env : PySem.Env) (whole : Sem Value) : isTrue e env whole = (do let v ← whole; standAt e.pos; holding [v] (truthy v)) := by
  cases e <;> first | rfl | (cases h; done) | skip
  rename_i op x p
  cases op <;> first | rfl | cases h
def setB : Expr → Bool
  | .Set _ _ _ => true
  | _ => false
theorem fold_none {e : Expr} (h : setB e = false) (env : PySem.Env) (x : Value) : foldedSetIterable e env x = pure x := by
  cases e <;> first | rfl | cases h
theorem set_none {e : Expr} (h : setB e = false) : ∀ es k p, e ≠ .Set es k p := fun es k p z => by subst z; cases h
theorem plainIx_of {e : Expr} (h : sliceB e = false) : PlainIx e := fun o i => by
  cases e <;> first | rfl | cases h
/-- a comprehension's value that is stored at once, or not -/
def compB : Expr → Bool
  | .ListComp _ _ _ _ => true
  | .SetComp _ _ _ _ => true
  | .DictComp _ _ _ _ _ => true
  | _ => false
theorem sw_none {e : Expr} (h : compB e = false) (t : Option Expr) (l : Nat) (env : PySem.Env) : swapsWith e t l env = pure false := by
  cases e <;> first | rfl | cases h
/-- whether a comprehension is stored at once, into a name -/
def swB (sc : Scope) (names : List (Str × NameKind)) (x : Str) (l1 l2 : Nat) : Bool := (sc.names.lookup x == some .local) && l1 == l2 && !(names.any fun (n, k) => n == x && (k == .local || k == .cell))
theorem sw_name {elt : Expr} {gs : List Comprehension} {scope : Scope} {pos py : Pos} {y : Str} {l : Nat} {env : PySem.Env} (hk : env.scope.kind = .function) : swapsWith (.ListComp elt gs scope pos) (some (.Name y py)) l env = pure (swB env.scope scope.names y py.line pos.line) := by
  have hb : env.blockKind = .function := by unfold Env.blockKind; rw [hk]; rfl
  unfold swapsWith swB
  simp only [hb, Expr.pos]
  rfl
theorem sw_other {e : Expr} {t : Expr} (h : ∀ x p, t ≠ .Name x p) (l : Nat) (env : PySem.Env) : swapsWith e (some t) l env = pure false := by
  cases e <;> first | rfl | skip
  all_goals
    cases t <;> first | rfl | exact absurd rfl (h _ _)
/-- two or three names that are stored from the right -/
def swN (sc : Scope) (ts vs : List Expr) : Option (Option (List Str)) :=
  if !(ts.length == 2 || ts.length == 3) || vs.length != ts.length then some none
  else if vs.any starB then some none
  else
    let line := (ts.head?.map (·.pos.line)).getD 0
    let names := ts.filterMap fun
      | .Name id pos => if sc.names.lookup id == some .local && pos.line == line then some id else none
      | _ => none
    if names.length != ts.length || names.eraseDups.length != names.length then some none
    else if vs.all (foldedForSure 8) then some none
    else if vs.all (constantsAlone 8) then none
    else some (some names)
theorem swN_of {ts vs : List Expr} {k1 k2 : Nat} {p1 p2 : Pos} {env : PySem.Env} {r : Option (List Str)} (hk : env.scope.kind = .function) (h : swN env.scope ts vs = some r) : swappedStores [.Tuple ts k1 p1] (.Tuple vs k2 p2) env = pure r := by
  have hb : env.blockKind = .function := by unfold Env.blockKind; rw [hk]; rfl
  unfold swN at h
  unfold swappedStores
  simp only [hb]
  by_cases h1 : (!(ts.length == 2 || ts.length == 3) || vs.length != ts.length) = true
  · rw [if_pos h1] at h
    cases h
    have h1' : (!(ts.length == 2 || ts.length == 3) || vs.length != ts.length || (ScopeKind.function != .function)) = true := by rw [h1]; rfl
    simp only [h1', if_true]
  · rw [if_neg h1] at h
    have h1' : (!(ts.length == 2 || ts.length == 3) || vs.length != ts.length || (ScopeKind.function != .function)) = false := by
      rw [Bool.not_eq_true] at h1
      rw [h1]; rfl
    simp only [h1', Bool.false_eq_true, if_false]
    have hkf : ∀ id, env.kindOf id = List.lookup id env.scope.names := fun _ => rfl
    simp only [hkf]
    change (if vs.any starB = true then _ else _) = _
    by_cases h2 : vs.any starB = true
    · rw [if_pos h2] at h
      cases h
      rw [if_pos h2]
    · rw [if_neg h2] at h
      rw [if_neg h2]
      dsimp only at h
      generalize List.filterMap _ ts = names at h ⊢
      by_cases h3 : (names.length != ts.length || names.eraseDups.length != names.length) = true
      · rw [if_pos h3] at h ⊢
        cases h; rfl
      · rw [if_neg h3] at h ⊢
        by_cases h4 : vs.all (foldedForSure 8) = true
        · rw [if_pos h4] at h ⊢
          cases h; rfl
        · rw [if_neg h4] at h ⊢
          by_cases h5 : vs.all (constantsAlone 8) = true
          · rw [if_pos h5] at h; cases h
          · rw [if_neg h5] at h ⊢
            cases h; rfl
theorem swn_other {t v : Expr} {env : PySem.Env} (h : (∀ ts k p, t ≠ .Tuple ts k p) ∧ (∀ ts p, t ≠ .List ts p) ∨ ∀ ts k p, v ≠ .Tuple ts k p) : swappedStores [t] v env = pure none := by
  rcases h with ⟨h1, h2⟩ | h
  · cases t <;> first | rfl | exact absurd rfl (h1 _ _ _) | exact absurd rfl (h2 _ _)
  · cases v <;> first | (cases t <;> rfl) | exact absurd rfl (h _ _ _)
end
end PL
set_option Elab.async false
set_option linter.all false
set_option maxRecDepth 100000
namespace PL
open PySem PySem.Spec PyProof.Rows L2
/-! ### the check -/
def glB (c : SC) (x : Str) : Bool := (c.sc.names.lookup x == some .globalImplicit) && !(x == ("__debug__" : Str))
def SC.blk (c : SC) (scope : Scope) : SC := ⟨c.N, relS scope c.sc, fun x => scope.names.lookup x == some .cell⟩
mutual
def chkG (c : SC) : ITg → Expr → Bool
  | .nm i, ex => match ex with
    | .Name x _ => locB c i x
    | _ => false
  | .tup ts, ex => match ex with
    | .Tuple es _ _ => chkGs c ts es
    | _ => false
def chkGs (c : SC) : List ITg → List Expr → Bool
  | [], es => match es with
    | [] => true
    | _ => false
  | t :: ts, es => match es with
    | e :: es => chkG c t e && chkGs c ts es
    | _ => false
end
def tyN : Ty → Option Str
  | .int => some "int"
  | .bool => some "bool"
  | .tuple => some "tuple"
  | .str => some "str"
  | .cls _ => none
def tyB (T : Tab) (c : SC) (t : Ty) (ex : Expr) : Bool := match ex with
  | .Name x _ => glB c x && (match t with
    | .cls k => T.cn x == some k
    | t => tyN t == some x)
  | _ => false
def ownP (c : SC) (own : List Nat) : List (Str × Nat) := own.filterMap fun i => (c.N[i]?).map fun x => (x, i)
def blkB (c : SC) (scope : Scope) (own : List Nat) : Bool :=
  scope.kind == .function && scope.names.all (fun y => scope.names.lookup y.1 == some y.2)
  && scope.names.all (fun y => !(y.2 == .free) || (c.sc.names.lookup y.1 == some .cell || c.sc.names.lookup y.1 == some .free))
  && scope.names.all (fun y => !(y.2 == .local || y.2 == .cell) || ((ownP c own).any (fun p => p.1 == y.1) || !(c.N.contains y.1)))
  && ((ownP c own).map (·.2) == own)
def isTupB : Expr → Bool
  | .Tuple _ _ _ => true
  | _ => false
mutual
def chkE (T : Tab) (P : Prog) : IE → SC → Expr → Bool
  | .dead, _, ex => !starB ex && !setB ex && !sliceB ex
  | .slot i, c, ex => match ex with
    | .Name x _ => slotB c i x
    | _ => false
  | .cst d, c, ex => match ex with
    | .Constant cn _ _ => constB d cn
    | _ => false
  | .glob f, c, ex => match ex with
    | .Name x _ => (x == Str.ofString f) && glB c x && (P.glob f).isSome
    | _ => false
  | .bin o a b, c, ex => match ex with
    | .BinOp ea op eb _ => bopB o op && chkE T P a c ea && chkE T P b c eb
    | _ => false
  | .neg a, c, ex => match ex with
    | .UnaryOp .USub ea _ => chkE T P a c ea
    | _ => false
  | .not a, c, ex => match ex with
    | .UnaryOp .Not ea _ => chkE T P a c ea
    | _ => false
  | .cmp o a b, c, ex => match ex with
    | .Compare ea [op] [eb] _ => copB o op && chkE T P a c ea && chkE T P b c eb
    | _ => false
  | .chn a r, c, ex => match ex with
    | .Compare ea (op :: op' :: ops) (e :: e' :: es) _ => chkE T P a c ea && chkC T P r c (op :: op' :: ops) (e :: e' :: es) && !lastMarks (op :: op' :: ops) (e :: e' :: es)
    | _ => false
  | .and a b, c, ex => match ex with
    | .BoolOp .And (ea :: eb :: rest) pos => chkE T P a c ea && (match rest with
      | [] => chkE T P b c eb
      | r :: rs => chkE T P b c (.BoolOp .And (eb :: r :: rs) pos))
    | _ => false
  | .or a b, c, ex => match ex with
    | .BoolOp .Or (ea :: eb :: rest) pos => chkE T P a c ea && (match rest with
      | [] => chkE T P b c eb
      | r :: rs => chkE T P b c (.BoolOp .Or (eb :: r :: rs) pos))
    | _ => false
  | .ite t a b, c, ex => match ex with
    | .IfExp et ea eb _ => chkE T P t c et && chkE T P a c ea && chkE T P b c eb
    | _ => false
  | .tup es, c, ex => match ex with
    | .Tuple xs _ _ => chkEs T P es c xs
    | _ => false
  | .lst es, c, ex => match ex with
    | .List xs _ => chkEs T P es c xs
    | _ => false
  | .dict t ps, c, ex => match ex with
    | .Dict keys vals _ => decide (keys.length ≤ 15) && chkPs T P ps c keys vals
    | _ => false
  | .idx a i, c, ex => match ex with
    | .Subscript ea ei _ => chkE T P a c ea && chkE T P i c ei
    | _ => false
  | .slc a lo hi, c, ex => match ex with
    | .Subscript ea (.Slice elo ehi none _) _ => chkE T P a c ea && chkO T P lo c elo && chkO T P hi c ehi
    | _ => false
  | .fld a n k, c, ex => match ex with
    | .Attribute ea f _ => baseB ea && (match T.fs n with
      | some fl => fl[k]? == some f
      | none => false) && chkE T P a c ea
    | _ => false
  | .isa a t, c, ex => match ex with
    | .Call (.Name x _) [ea, et] [] _ => (x == ("isinstance" : Str)) && glB c x && tyB T c t et && chkE T P a c ea
    | _ => false
  | .call f es kn pm, c, ex => match ex with
    | .Call (.Name x _) args kws _ => (x == Str.ofString f) && glB c x && (P.fn f).isSome && (match kn with
      | [] => (match kws with
        | [] => (match args with
          | [] => false
          | e :: r => pm.isEmpty && chkEs T P es c (e :: r))
        | _ => false)
      | n :: ns => (match args with
        | [] => P.kws.contains (f, n :: ns, pm) && chkK T P es c (n :: ns) kws
        | _ => false))
    | _ => false
  | .bif f es, c, ex => match ex with
    | .Call (.Name x _) (e :: r) [] _ => (x == bifN f) && glB c x && chkEs T P es c (e :: r)
    | _ => false
  | .meth m a es, c, ex => match ex with
    | .Call (.Attribute ea nm apos) args [] pos => baseB ea && (apos.endLine == pos.line) && chkE T P a c ea && decide (args.length < 30) && chkEs T P es c args && (match m, args with
      | .append, _ :: _ => nm == ("append" : Str)
      | .extend, _ :: _ => nm == ("extend" : Str)
      | .pop, [] => nm == ("pop" : Str)
      | .pop, [_] => nm == ("pop" : Str)
      | .get, [_] => nm == ("get" : Str)
      | .get, [_, _] => nm == ("get" : Str)
      | _, _ => false)
    | _ => false
  | .mk n es, c, ex => match ex with
    | .Call (.Name x _) (e :: r) [] _ => (T.cn x == some n) && (P.ar n).isSome && glB c x && chkEs T P es c (e :: r)
    | _ => false
  | .comp a t it cs own, c, ex => match ex with
    | .ListComp elt [⟨tg, iter, ifs, 0⟩] scope _ => blkB c scope own && t.slots.all (fun i => own.contains i) && chkG (c.blk scope) t tg && chkI T P it c iter tg && chkE T P a (c.blk scope) elt && (match ifs with
      | [] => (match cs with
        | .nil => true
        | _ => false)
      | [f] => (match cs with
        | .cons b r => r.isNil && chkE T P b (c.blk scope) f
        | _ => false)
      | _ => false)
    | _ => false
def chkEs (T : Tab) (P : Prog) : IEs → SC → List Expr → Bool
  | .nil, c, xs => match xs with
    | [] => true
    | _ => false
  | .cons a r, c, xs => match xs with
    | e :: es => chkE T P a c e && chkEs T P r c es
    | _ => false
def chkPs (T : Tab) (P : Prog) : IPs → SC → List (Option Expr) → List Expr → Bool
  | .nil, c, ks, vs => match ks, vs with
    | [], [] => true
    | _, _ => false
  | .cons a b r, c, ks, vs => match ks, vs with
    | some k :: ks, v :: vs => chkE T P a c k && chkE T P b c v && chkPs T P r c ks vs
    | _, _ => false
def chkC (T : Tab) (P : Prog) : ICh → SC → List CmpOp → List Expr → Bool
  | .last o b, c, ops, es => match ops, es with
    | [op], [e] => copB o op && chkE T P b c e
    | _, _ => false
  | .more o b r, c, ops, es => match ops, es with
    | op :: op' :: ops, e :: e' :: es => copB o op && chkE T P b c e && chkC T P r c (op' :: ops) (e' :: es)
    | _, _ => false
def chkO (T : Tab) (P : Prog) : Option IE → SC → Option Expr → Bool
  | none, c, ex => match ex with
    | none => true
    | _ => false
  | some a, c, ex => match ex with
    | some e => chkE T P a c e
    | _ => false
def chkK (T : Tab) (P : Prog) : IEs → SC → List String → List Keyword → Bool
  | .nil, c, ns, kws => match ns, kws with
    | [], [] => true
    | _, _ => false
  | .cons a r, c, ns, kws => match ns, kws with
    | n :: ns, ⟨nm, e, _⟩ :: kws => (nm == some (Str.ofString n)) && chkE T P a c e && chkK T P r c ns kws
    | _, _ => false
def chkI (T : Tab) (P : Prog) : IIt → SC → Expr → Expr → Bool
  | .val a, c, ex, tg => chkE T P a c ex
  | .range1 a, c, ex, tg => match ex with
    | .Call (.Name x _) [e] [] _ => (x == ("range" : Str)) && glB c x && chkE T P a c e
    | _ => false
  | .range2 a b, c, ex, tg => match ex with
    | .Call (.Name x _) [e, f] [] _ => (x == ("range" : Str)) && glB c x && chkE T P a c e && chkE T P b c f
    | _ => false
  | .enum a, c, ex, tg => match ex with
    | .Call (.Name x _) [e] [] _ => (x == ("enumerate" : Str)) && glB c x && isTupB tg && chkE T P a c e
    | _ => false
  | .zip a b, c, ex, tg => match ex with
    | .Call (.Name x _) [e, f] [] _ => (x == ("zip" : Str)) && glB c x && isTupB tg && chkE T P a c e && chkE T P b c f
    | _ => false
  | .items i, c, ex, tg => match ex with
    | .Call (.Attribute (.Name x _) nm apos) [] [] pos => (nm == ("items" : Str)) && (apos.endLine == pos.line) && isTupB tg && slotB c i x
    | _ => false
  | .keys i, c, ex, tg => match ex with
    | .Name x _ => slotB c i x
    | _ => false
end
def IE.isComp : IE → Bool
  | .comp _ _ _ _ _ => true
  | _ => false
def IE.isDead : IE → Bool
  | .dead => true
  | _ => false
/-- a clause that gives (a word, what is borne) back -/
def hdB (T : Tab) (c : SC) : List Nat × Nat × Bool × Str → ExceptHandler → Bool
  | (ids, i, ls, w), .ExceptHandler (some (.Name x _)) (some n) [.Return (some v) _] _ => T.hn x == some ids && glB c x && c.N[i]? == some n && c.sc.names.lookup n == some .local && (match v with
    | .Tuple [.Constant (.str w') _ _, .Attribute (.Name n' _) f _] _ _ => !ls && w' == w && slotB c i n' && f == Str.ofString "what"
    | .List [.Constant (.str w') _ _, .Attribute (.Name n' _) f _] _ => ls && w' == w && slotB c i n' && f == Str.ofString "what"
    | _ => false)
  | _, _ => false
def hdsB (T : Tab) (c : SC) : List (List Nat × Nat × Bool × Str) → List ExceptHandler → Bool
  | [], [] => true
  | h :: hs, e :: es => hdB T c h e && hdsB T c hs es
  | _, _ => false
mutual
def chkS (T : Tab) (P : Prog) : IS → SC → Stmt → Bool
  | .set i e, c, st => match st with
    | .Assign [.Name x px] v _ => locB c i x && chkE T P e c v && (match v with
      | .ListComp _ _ scope p => !(swB c.sc scope.names x px.line p.line) || (e.isComp && (c.N[i]? == some x && c.sc.names.lookup x == some .local))
      | v => !compB v)
    | _ => false
  | .unp t e, c, st => match st with
    | .Assign [.Tuple ts k p] v _ => chkG c t (.Tuple ts k p) && chkE T P e c v && !compB v && (match v with
      | .Tuple vs _ _ => (match swN c.sc ts vs with
        | some none => true
        | _ => false)
      | _ => true)
    | _ => false
  | .par is es, c, st => match st with
    | .Assign [.Tuple [.Name x px, .Name y py] kt pt] (.Tuple [a, b] k2 pt2) _ => (match is with
      | [i, j] => c.N[i]? == some x && c.N[j]? == some y && i != j && c.sc.names.lookup x == some .local && c.sc.names.lookup y == some .local && chkEs T P es c [a, b] && swN c.sc [.Name x px, .Name y py] [a, b] == some (some [x, y])
      | _ => false)
    | .Assign [.Tuple [.Name x px, .Name y py, .Name z pz] kt pt] (.Tuple [a, b, d] k2 pt2) _ => (match is with
      | [i, j, l] => c.N[i]? == some x && c.N[j]? == some y && c.N[l]? == some z && i != j && i != l && j != l && c.sc.names.lookup x == some .local && c.sc.names.lookup y == some .local && c.sc.names.lookup z == some .local && chkEs T P es c [a, b, d] && swN c.sc [.Name x px, .Name y py, .Name z pz] [a, b, d] == some (some [x, y, z])
      | _ => false)
    | _ => false
  | .put a i v, c, st => match st with
    | .Assign [.Subscript ea ei _] ev _ => chkE T P a c ea && chkE T P i c ei && chkE T P v c ev
    | _ => false
  | .aug i o e, c, st => match st with
    | .AugAssign (.Name x _) op ev _ => locB c i x && augB o op && chkE T P e c ev
    | _ => false
  | .expr e, c, st => match st with
    | .Expr ev _ => !compB ev && chkE T P e c ev
    | _ => false
  | .ret e, c, st => match st with
    | .Return (some ev) _ => chkE T P e c ev
    | _ => false
  | .retN, c, st => match st with
    | .Return none _ => true
    | _ => false
  | .ite t a b, c, st => match st with
    | .If et A B _ => chkE T P t c et && chkSs T P a c A && chkSs T P b c B
    | _ => false
  | .for_ t it body, c, st => match st with
    | .For tg iter A [] _ => chkG c t tg && chkI T P it c iter tg && chkSs T P body c A
    | _ => false
  | .while_ t body, c, st => match st with
    | .While et A [] _ => chkE T P t c et && chkSs T P body c A
    | _ => false
  | .brk, c, st => match st with
    | .Break _ => true
    | _ => false
  | .cont, c, st => match st with
    | .Continue _ => true
    | _ => false
  | .pass, c, st => match st with
    | .Pass _ => true
    | _ => false
  | .raise k e, c, st => e.isDead || (match st with
    | .Raise (some (.Call (.Name x _) [ea] [] _)) none _ => glB c x && T.en x == some k && chkEs T P (.cons e .nil) c [ea]
    | _ => false)
  | .tryW body hs, c, st => match st with
    | .Try A (h :: hds) [] [] _ => chkSs T P body c A && hdsB T c hs (h :: hds)
    | _ => false
def chkSs (T : Tab) (P : Prog) : List IS → SC → List Stmt → Bool
  | [], c, sts => match sts with
    | [] => true
    | _ => false
  | s :: r, c, sts => match sts with
    | st :: rest => chkS T P s c st && chkSs T P r c rest
    | _ => false
end
end PL
set_option Elab.async false
set_option linter.all false
set_option maxRecDepth 100000
set_option maxHeartbeats 1000000
namespace PL
open PySem PySem.Spec PyProof.Rows L2
structure Ctx (g : G) (T : Tab) (P : Prog) (k : Nat) (c : SC) (X : Cx) (W : WX) : Prop where
  kit : Kit g T P k X W
  N : X.N = c.N
  sc : X.env.scope = c.sc
  fn : X.fn = c.fn
  kd : c.sc.kind = .function
section
variable {g : G} {T : Tab} {P : Prog} {k : Nat} {c : SC} {X : Cx} {W : WX} {pos p0 apos : Pos}
theorem Ctx.hK (C : Ctx g T P k c X W) : X.K = g.K := C.kit.hK
theorem Ctx.hu (C : Ctx g T P k c X W) : X.A.units + 64 < cLine := C.kit.hu
theorem Ctx.gl (C : Ctx g T P k c X W) {x : Str} (h : glB c x = true) : Gl X x ∧ (x == ("__debug__" : Str)) = false := by
  unfold glB at h
  simp only [Bool.and_eq_true, beq_iff_eq, Bool.not_eq_true'] at h
  refine ⟨?_, h.2⟩
  show X.env.scope.names.lookup x = _
  rw [C.sc]; exact h.1
theorem Ctx.bn (C : Ctx g T P k c X W) {x : Str} (h : x ∈ bNames) : X.mg x = none := C.kit.bn x h
theorem ownP_mem {own : List Nat} {p : Str × Nat} (h : p ∈ ownP c own) : c.N[p.2]? = some p.1 := by
  unfold ownP at h
  obtain ⟨i, _, h2⟩ := List.mem_filterMap.mp h
  obtain ⟨x, h3, h4⟩ := Option.map_eq_some_iff.mp h2
  subst h4
  exact h3
theorem blkB_ok {scope : Scope} {own : List Nat} (h : blkB c scope own = true) : BlkOk c.N c.sc scope (ownP c own) ∧ (ownP c own).map (·.2) = own ∧ scope.kind = .function := by
  unfold blkB at h
  simp only [Bool.and_eq_true, beq_iff_eq] at h
  obtain ⟨⟨⟨⟨h1, h2⟩, h3⟩, h4⟩, h5⟩ := h
  refine ⟨⟨h1, fun y hy => ?_, fun p hp => ownP_mem hp, fun y hy e => ?_, fun y hy e => ?_⟩, h5, h1⟩
  · have := List.all_eq_true.mp h2 y hy
    simpa using this
  · have := List.all_eq_true.mp h3 y hy
    simp only [e, beq_self_eq_true, Bool.not_true, Bool.false_or, Bool.or_eq_true, beq_iff_eq] at this
    exact this
  · have := List.all_eq_true.mp h4 y hy
    have e' : (y.2 == .local || y.2 == .cell) = true := by
      rcases e with e | e <;> simp [e]
    rw [e'] at this
    simp only [Bool.not_true, Bool.false_or, Bool.or_eq_true] at this
    rcases this with z | z
    · left
      obtain ⟨p, hp, e⟩ := List.any_eq_true.mp z
      exact List.mem_map.mpr ⟨p, hp, by simpa using e⟩
    · right
      simp only [Bool.not_eq_true', List.contains_eq_mem, decide_eq_false_iff_not] at z
      exact z
theorem Ctx.blk (C : Ctx g T P k c X W) {scope : Scope} (hk : scope.kind = .function) (s : Shared) (H : Hp) (A : Addr) (cl : List (Str × Addr)) (fp : List Addr) : Ctx g T P k (c.blk scope) (X.blk s H scope (compEnvC scope cl A X.env) fp) WF := by
  obtain ⟨⟨⟨a1, a2, a3, a4, a5, a6, a7⟩, tk, bn, call, glob, fs, cn, mak, er, ern, hnd, msu⟩, h1, h2, h3, h4⟩ := C
  refine ⟨⟨⟨a1, a2, a3, a4, a5, a6, a7⟩, ?_, bn, fun f F hf => ?_, glob, fs, cn, fun n m hm => ?_, er, ern, hnd, msu⟩, h1, ?_, rfl, hk⟩
  · rintro u s' ⟨a, B, sI, pins, σ, H, cls, d, e, I, nb, up, sky, na, os, ag, w⟩
    exact w.elim
  · obtain ⟨z⟩ := call f F hf
    exact ⟨z⟩
  · obtain ⟨C, fs, e1, e2, ⟨z⟩⟩ := mak n m hm
    exact ⟨C, fs, e1, e2, ⟨z⟩⟩
  · show (compEnvC scope cl A X.env).scope = relS scope c.sc
    rw [← h2]; rfl
theorem chk_plain {ie : IE} {ex : Expr} (h : chkE T P ie c ex = true) : starB ex = false ∧ setB ex = false ∧ sliceB ex = false := by
  refine ⟨?_, ?_, ?_⟩
  · cases ex <;> first | rfl | skip
    cases ie <;> simp [chkE, starB, setB, sliceB] at h
  · cases ex <;> first | rfl | skip
    cases ie <;> simp [chkE, starB, setB, sliceB] at h
  · cases ex <;> first | rfl | skip
    cases ie <;> simp [chkE, starB, setB, sliceB] at h
theorem chk_stars : ∀ {is : IEs} {es : List Expr}, chkEs T P is c es = true → es.all (fun e => !starB e) = true
  | .nil, [], _ => rfl
  | .nil, _ :: _, h => by simp [chkEs] at h
  | .cons _ _, [], h => by simp [chkEs] at h
  | .cons a r, e :: es, h => by
    simp only [chkEs, Bool.and_eq_true] at h
    rw [List.all_cons, (chk_plain h.1).1, chk_stars h.2]
    rfl
theorem ctx_slot (C : Ctx g T P k c X W) {i : Nat} {x : Str} (h : slotB c i x = true) : PE X (.Name x pos) (rdE g W (ixOf P k) (.slot i)) := rE_slot C.N C.sc h

/-! ### targets -/
mutual
theorem sndG (C : Ctx g T P k c X W) : ∀ (t : ITg) (ex : Expr), chkG c t ex = true → PG X ex (rdG g t) ∧ starB ex = false
  | .nm i, ex, h => by
    cases ex with
    | Name x p => exact ⟨rG_nm C.kit.glo.nd C.N C.sc C.fn (by simpa [chkG] using h), rfl⟩
    | _ => simp [chkG] at h
  | .tup ts, ex, h => by
    cases ex with
    | Tuple es kk p =>
      have h' : chkGs c ts es = true := by simpa [chkG] using h
      obtain ⟨h1, h2, h3, h4⟩ := sndGs C ts es h'
      exact ⟨rG_tup C.hK C.kit.glo.calm h1 h2 h3 h4, rfl⟩
    | _ => simp [chkG] at h
theorem sndGs (C : Ctx g T P k c X W) : ∀ (ts : List ITg) (es : List Expr), chkGs c ts es = true → PGs X es (rdGs g ts) ∧ es.length = ts.length ∧ (assignEach es X.env).length = es.length ∧ (assignEach es X.env).findIdx? (·.1) = none
  | [], es, h => by
    cases es with
    | nil => exact ⟨rGs_nil, rfl, rfl, rfl⟩
    | cons _ _ => simp [chkGs] at h
  | t :: ts, es, h => by
    cases es with
    | nil => simp [chkGs] at h
    | cons e es =>
      simp only [chkGs, Bool.and_eq_true] at h
      obtain ⟨h1, hst⟩ := sndG C t e h.1
      obtain ⟨h2, h3, h4, h5⟩ := sndGs C ts es h.2
      have ha : assignEach (e :: es) X.env = (false, assign e X.env) :: assignEach es X.env := by
        cases e <;> first | rfl | cases hst
      exact ⟨rGs_cons h1 h2 ha, by simp [h3], by rw [ha]; simp [h4], by rw [ha, List.findIdx?_cons]; simp [h5]⟩
end
end
end PL
set_option Elab.async false
set_option linter.all false
set_option maxRecDepth 100000
set_option maxHeartbeats 4000000
namespace PL
open PySem PySem.Spec PyProof.Rows L2
section
variable {g : G} {T : Tab} {P : Prog} {k : Nat} {c : SC} {X : Cx} {W : WX} {pos p0 apos : Pos}
/-- a value, and as a test by its truth -/
theorem both (C : Ctx g T P k c X W) {a : IE} {ex : Expr} (h : PE X ex (rdE g W (ixOf P k) a)) (hp : plainT ex = true) : PE X ex (rdE g W (ixOf P k) a) ∧ PT X ex (rdT g W (ixOf P k) a) :=
  ⟨h, rT_val C.hK h fun whole => plain_true hp _ _⟩
theorem pw_of {op : BoolOp} {es : List Expr} {t : TT} (h : PT X (.BoolOp op es pos) t) : PW X (.BoolOp op es pos) t := ⟨fun _ pins s σ H Q I q => h.run pins s σ H Q I q⟩
theorem chk_nil {es : IEs} {e : Expr} {r : List Expr} (h : chkEs T P es c (e :: r) = true) : es.isNil = false := by
  cases es with
  | nil => simp [chkEs] at h
  | cons _ _ => rfl
mutual
theorem sndE : ∀ (a : IE) {c : SC} {X : Cx} {W : WX} {ex : Expr}, Ctx g T P k c X W → chkE T P a c ex = true → PE X ex (rdE g W (ixOf P k) a) ∧ PT X ex (rdT g W (ixOf P k) a)
  | .dead, c, X, W, ex, C, h => by
    have no : ∀ σ H Q, ¬ rdE g W (ixOf P k) .dead σ H Q := fun σ H Q ⟨φ, env, S, sm, er, p⟩ => by
      unfold evE at p; exact p
    have no2 : ∀ σ H Q, ¬ rdT g W (ixOf P k) .dead σ H Q := fun σ H Q ⟨φ, env, S, sm, er, p⟩ => by
      unfold evE at p; exact p
    exact ⟨⟨fun pins s σ H Q I q => absurd q (no σ H Q)⟩, ⟨fun pins s σ H Q I q => absurd q (no2 σ H Q)⟩⟩
  | .slot i, c, X, W, ex, C, h => by
    cases ex with
    | Name x p => exact both C (ctx_slot C (by simpa [chkE] using h)) rfl
    | _ => simp [chkE] at h
  | .cst d, c, X, W, ex, C, h => by
    cases ex with
    | Constant cn j p => exact both C (rE_cst (by simpa [chkE] using h)) rfl
    | _ => simp [chkE] at h
  | .glob f, c, X, W, ex, C, h => by
    cases ex with
    | Name x p =>
      simp only [chkE, Bool.and_eq_true, beq_iff_eq] at h
      obtain ⟨⟨h1, h2⟩, h3⟩ := h
      obtain ⟨d, hd⟩ := Option.isSome_iff_exists.mp h3
      obtain ⟨h4, h5⟩ := C.gl h2
      exact both C (rE_glob C.kit hd h1 h4 h5) rfl
    | _ => simp [chkE] at h
  | .bin o a b, c, X, W, ex, C, h => by
    cases ex with
    | BinOp ea op eb p =>
      simp only [chkE, Bool.and_eq_true] at h
      obtain ⟨⟨h1, h2⟩, h3⟩ := h
      exact both C (rE_bin h1 C.hK (sndE a C h2).1 (sndE b C h3).1) rfl
    | _ => simp [chkE] at h
  | .neg a, c, X, W, ex, C, h => by
    cases ex with
    | UnaryOp op ea p =>
      cases op with
      | USub =>
        simp only [chkE] at h
        exact both C (rE_neg (sndE a C h).1) rfl
      | _ => simp [chkE] at h
    | _ => simp [chkE] at h
  | .not a, c, X, W, ex, C, h => by
    cases ex with
    | UnaryOp op ea p =>
      cases op with
      | Not =>
        simp only [chkE] at h
        exact ⟨rE_not C.hK (sndE a C h).1, rT_not (sndE a C h).2⟩
      | _ => simp [chkE] at h
    | _ => simp [chkE] at h
  | .cmp o a b, c, X, W, ex, C, h => by
    cases ex with
    | Compare ea ops es p =>
      match ops, es, h with
      | [op], [eb], h =>
        simp only [chkE, Bool.and_eq_true] at h
        obtain ⟨⟨h1, h2⟩, h3⟩ := h
        exact ⟨rE_cmp h1 C.hK C.hu (set_none (chk_plain h3).2.1) (sndE a C h2).1 (sndE b C h3).1, rT_cmp h1 C.hK C.hu (set_none (chk_plain h3).2.1) (sndE a C h2).1 (sndE b C h3).1⟩
      | [], _, h => simp [chkE] at h
      | _ :: _ :: _, _, h => simp [chkE] at h
      | [_], [], h => simp [chkE] at h
      | [_], _ :: _ :: _, h => simp [chkE] at h
    | _ => simp [chkE] at h
  | .chn a r, c, X, W, ex, C, h => by
    cases ex with
    | Compare ea ops es p =>
      match ops, es, h with
      | op :: op' :: ops, e :: e' :: es, h =>
        simp only [chkE, Bool.and_eq_true, Bool.not_eq_true'] at h
        obtain ⟨⟨h1, h2⟩, h3⟩ := h
        obtain ⟨q1, q2⟩ := sndC r C h2
        exact ⟨rE_chn (sndE a C h1).1 q1 h3, rT_chn (sndE a C h1).1 q2 h3⟩
      | [], _, h => simp [chkE] at h
      | [_], _, h => simp [chkE] at h
      | _ :: _ :: _, [], h => simp [chkE] at h
      | _ :: _ :: _, [_], h => simp [chkE] at h
    | _ => simp [chkE] at h
  | .and a b, c, X, W, ex, C, h => by
    cases ex with
    | BoolOp op es p =>
      cases op with
      | And =>
        match es, h with
        | [ea, eb], h =>
          simp only [chkE, Bool.and_eq_true] at h
          obtain ⟨a1, a2⟩ := sndE a C h.1
          obtain ⟨b1, b2⟩ := sndE b C h.2
          exact ⟨rE_and C.hK a1 (rE_one b1), (rW_and a2 (rW_and1 b2)).pt⟩
        | ea :: eb :: r :: rs, h =>
          simp only [chkE, Bool.and_eq_true] at h
          obtain ⟨a1, a2⟩ := sndE a C h.1
          obtain ⟨b1, b2⟩ := sndE b C h.2
          exact ⟨rE_and C.hK a1 b1, (rW_and a2 (pw_of b2)).pt⟩
        | [], h => simp [chkE] at h
        | [_], h => simp [chkE] at h
      | _ => simp [chkE] at h
    | _ => simp [chkE] at h
  | .or a b, c, X, W, ex, C, h => by
    cases ex with
    | BoolOp op es p =>
      cases op with
      | Or =>
        match es, h with
        | [ea, eb], h =>
          simp only [chkE, Bool.and_eq_true] at h
          obtain ⟨a1, a2⟩ := sndE a C h.1
          obtain ⟨b1, b2⟩ := sndE b C h.2
          exact ⟨rE_or C.hK a1 (rE_one b1), (rW_or a2 (rW_or1 b2)).pt⟩
        | ea :: eb :: r :: rs, h =>
          simp only [chkE, Bool.and_eq_true] at h
          obtain ⟨a1, a2⟩ := sndE a C h.1
          obtain ⟨b1, b2⟩ := sndE b C h.2
          exact ⟨rE_or C.hK a1 b1, (rW_or a2 (pw_of b2)).pt⟩
        | [], h => simp [chkE] at h
        | [_], h => simp [chkE] at h
      | _ => simp [chkE] at h
    | _ => simp [chkE] at h
  | .ite t a b, c, X, W, ex, C, h => by
    cases ex with
    | IfExp et ea eb p =>
      simp only [chkE, Bool.and_eq_true] at h
      obtain ⟨⟨h1, h2⟩, h3⟩ := h
      obtain ⟨a1, a2⟩ := sndE a C h2
      obtain ⟨b1, b2⟩ := sndE b C h3
      exact ⟨rE_ite (sndE t C h1).2 a1 b1, rT_ite (sndE t C h1).2 a2 b2⟩
    | _ => simp [chkE] at h
  | .tup es, c, X, W, ex, C, h => by
    cases ex with
    | Tuple xs kk p => exact both C (rE_tup (sndEs es C (by simpa [chkE] using h))) rfl
    | _ => simp [chkE] at h
  | .lst es, c, X, W, ex, C, h => by
    cases ex with
    | List xs p => exact both C (rE_lst (sndEs es C (by simpa [chkE] using h))) rfl
    | _ => simp [chkE] at h
  | .dict t ps, c, X, W, ex, C, h => by
    cases ex with
    | Dict keys vals p =>
      simp only [chkE, Bool.and_eq_true, decide_eq_true_eq] at h
      have hp := sndPs ps C (pos := p) h.2
      cases ps with
      | nil =>
        match keys, vals, h.2 with
        | [], [], _ => exact both C rE_dict0 rfl
        | _ :: _, _, h => simp [chkPs] at h
        | [], _ :: _, h => simp [chkPs] at h
      | cons ka va r =>
        have h0 : keys ≠ [] := fun z => by
          subst z
          have := h.2
          simp [chkPs] at this
        exact both C (rE_dict hp h0 h.1) rfl
    | _ => simp [chkE] at h
  | .idx a i, c, X, W, ex, C, h => by
    cases ex with
    | Subscript ea ei p =>
      simp only [chkE, Bool.and_eq_true] at h
      exact both C (rE_idx C.hK C.hu (plainIx_of (chk_plain h.2).2.2) (sndE a C h.1).1 (sndE i C h.2).1) rfl
    | _ => simp [chkE] at h
  | .slc a lo hi, c, X, W, ex, C, h => by
    cases ex with
    | Subscript ea ei p =>
      cases ei with
      | Slice elo ehi st p2 =>
        cases st with
        | none =>
          simp only [chkE, Bool.and_eq_true] at h
          obtain ⟨⟨h1, h2⟩, h3⟩ := h
          exact both C (rE_slc C.hK (sndE a C h1).1 (sndO lo C h2) (sndO hi C h3)) rfl
        | some _ => simp [chkE] at h
      | _ => simp [chkE] at h
    | _ => simp [chkE] at h
  | .fld a n j, c, X, W, ex, C, h => by
    cases ex with
    | Attribute ea f p =>
      simp only [chkE, Bool.and_eq_true] at h
      obtain ⟨⟨h1, h2⟩, h3⟩ := h
      cases hf : T.fs n with
      | none => rw [hf] at h2; cases h2
      | some fl =>
        rw [hf] at h2
        obtain ⟨A, hA⟩ := C.kit.fs n fl hf
        exact both C (rE_fld C.hK hA (C.kit.glo.cls n A fl hA) (by simpa using h2) (sndE a C h3).1 (base_of h1)) rfl
    | _ => simp [chkE] at h
  | .isa a t, c, X, W, ex, C, h => by
    cases ex with
    | Call fe args kws p =>
      match fe, args, kws, h with
      | .Name x px, [ea, et], [], h =>
        simp only [chkE, Bool.and_eq_true, beq_iff_eq] at h
        obtain ⟨⟨⟨h1, h2⟩, h3⟩, h4⟩ := h
        subst h1
        obtain ⟨g1, _⟩ := C.gl h2
        cases et with
        | Name y py =>
          simp only [tyB, Bool.and_eq_true] at h3
          obtain ⟨g2, g3⟩ := C.gl h3.1
          have hst : starEach [ea, Expr.Name y py] X.env = [(false, eval ea X.env), (false, eval (.Name y py) X.env)] := by
            rw [star_cons (chk_plain h4).1]; rfl
          have fin : ∀ {tv : V}, tyV g t = some tv → PE X (.Name y py) (tC tv) → PE X (.Call (.Name "isinstance" px) [ea, .Name y py] [] p) (rdE g W (ixOf P k) (.isa a t)) := fun {tv} e1 e2 =>
            rE_isa C.kit.glo e1 g1 (C.bn (by decide +kernel)) (sndE a C h4).1 e2 hst
          cases t with
          | cls n =>
            have hn : T.cn y = some n := by simpa using h3.2
            obtain ⟨A, fl, e1, e2⟩ := C.kit.cn y n hn
            exact both C (fin (tv := .ref A) (by simp [tyV, e1]) (pe_glob g2 e2 rfl g3)) rfl
          | int =>
            have hy : y = ("int" : Str) := by have := h3.2; simp [tyN] at this; exact this.symm
            subst hy
            exact both C (fin (tv := .ty "int") rfl (pe_bltn g2 (C.bn (by decide +kernel)) (show bootBuiltins ("int" : Str) = some (.type "int") by decide +kernel) rfl (by decide +kernel) g3)) rfl
          | bool =>
            have hy : y = ("bool" : Str) := by have := h3.2; simp [tyN] at this; exact this.symm
            subst hy
            exact both C (fin (tv := .ty "bool") rfl (pe_bltn g2 (C.bn (by decide +kernel)) (show bootBuiltins ("bool" : Str) = some (.type "bool") by decide +kernel) rfl (by decide +kernel) g3)) rfl
          | tuple =>
            have hy : y = ("tuple" : Str) := by have := h3.2; simp [tyN] at this; exact this.symm
            subst hy
            exact both C (fin (tv := .ty "tuple") rfl (pe_bltn g2 (C.bn (by decide +kernel)) (show bootBuiltins ("tuple" : Str) = some (.type "tuple") by decide +kernel) rfl (by decide +kernel) g3)) rfl
          | str =>
            have hy : y = ("str" : Str) := by have := h3.2; simp [tyN] at this; exact this.symm
            subst hy
            exact both C (fin (tv := .ty "str") rfl (pe_bltn g2 (C.bn (by decide +kernel)) (show bootBuiltins ("str" : Str) = some (.type "str") by decide +kernel) rfl (by decide +kernel) g3)) rfl
        | _ => simp [tyB] at h3
      | .Name x px, [ea, et], _ :: _, h => simp [chkE] at h
      | .Name x px, [], _, h => simp [chkE] at h
      | .Name x px, [_], _, h => simp [chkE] at h
      | .Name x px, _ :: _ :: _ :: _, _, h => simp [chkE] at h
      | .BoolOp .., _, _, h => simp [chkE] at h
      | .NamedExpr .., _, _, h => simp [chkE] at h
      | .BinOp .., _, _, h => simp [chkE] at h
      | .UnaryOp .., _, _, h => simp [chkE] at h
      | .Lambda .., _, _, h => simp [chkE] at h
      | .IfExp .., _, _, h => simp [chkE] at h
      | .Dict .., _, _, h => simp [chkE] at h
      | .Set .., _, _, h => simp [chkE] at h
      | .ListComp .., _, _, h => simp [chkE] at h
      | .SetComp .., _, _, h => simp [chkE] at h
      | .DictComp .., _, _, h => simp [chkE] at h
      | .GeneratorExp .., _, _, h => simp [chkE] at h
      | .Await .., _, _, h => simp [chkE] at h
      | .Yield .., _, _, h => simp [chkE] at h
      | .YieldFrom .., _, _, h => simp [chkE] at h
      | .Compare .., _, _, h => simp [chkE] at h
      | .Call .., _, _, h => simp [chkE] at h
      | .FormattedValue .., _, _, h => simp [chkE] at h
      | .JoinedStr .., _, _, h => simp [chkE] at h
      | .Constant .., _, _, h => simp [chkE] at h
      | .Attribute .., _, _, h => simp [chkE] at h
      | .Subscript .., _, _, h => simp [chkE] at h
      | .Starred .., _, _, h => simp [chkE] at h
      | .List .., _, _, h => simp [chkE] at h
      | .Tuple .., _, _, h => simp [chkE] at h
      | .Slice .., _, _, h => simp [chkE] at h
    | _ => simp [chkE] at h
  | .call f es kn pm, c, X, W, ex, C, h => by
    unfold chkE at h
    split at h
    · rename_i x px args kws p
      simp only [Bool.and_eq_true, beq_iff_eq] at h
      obtain ⟨⟨⟨h1, h2⟩, h3⟩, h4⟩ := h
      obtain ⟨g1, g2⟩ := C.gl h2
      obtain ⟨F, hF⟩ := Option.isSome_iff_exists.mp h3
      cases kn with
      | nil =>
        cases kws with
        | nil =>
          cases args with
          | nil => cases h4
          | cons e r =>
            simp only [Bool.and_eq_true, List.isEmpty_iff] at h4
            obtain ⟨rfl, h4⟩ := h4
            exact both C (rE_call C.kit hF h1 g1 g2 (sndEs es C h4) (chk_stars h4)) rfl
        | cons _ _ => cases h4
      | cons n ns =>
        cases args with
        | cons _ _ => cases h4
        | nil =>
          simp only [Bool.and_eq_true] at h4
          obtain ⟨q1, q2, q3, q4⟩ := sndK es C (pos := p) h4.2
          exact both C (rE_callK C.kit hF h1 g1 g2 (by simpa using h4.1) (by simp) q1 q2 q3 q4) rfl
    · cases h
  | .bif f es, c, X, W, ex, C, h => by
    unfold chkE at h
    split at h
    · rename_i x px e r p
      simp only [Bool.and_eq_true, beq_iff_eq] at h
      obtain ⟨⟨h1, h2⟩, h4⟩ := h
      obtain ⟨g1, g2⟩ := C.gl h2
      exact both C (rE_bif C.kit h1 g1 (sndEs es C h4) (chk_stars h4)) rfl
    · cases h
  | .meth m a es, c, X, W, ex, C, h => by
    unfold chkE at h
    split at h
    · rename_i ea nm ap args p
      simp only [Bool.and_eq_true, decide_eq_true_eq] at h
      obtain ⟨⟨⟨⟨⟨h1, h2⟩, h3⟩, h4⟩, h5⟩, h6⟩ := h
      have A := (sndE a C h3).1
      have B := sndEs es C h5
      have st := chk_stars h5
      match m, args, es, h4, h5, h6, B, st with
      | .append, e :: r, es, h4, h5, h6, B, st =>
        have : nm = ("append" : Str) := by simpa using h6
        subst this
        exact both C (rE_append C.hK A B h1 st h4 h2) rfl
      | .extend, e :: r, es, h4, h5, h6, B, st =>
        have : nm = ("extend" : Str) := by simpa using h6
        subst this
        exact both C (rE_extend C.hK A B h1 st h4 h2) rfl
      | .pop, [], es, h4, h5, h6, B, st =>
        have : nm = ("pop" : Str) := by simpa using h6
        subst this
        cases es with
        | nil => exact both C (rE_pop0 C.hK A h1 h2) rfl
        | cons _ _ => simp [chkEs] at h5
      | .pop, [e], .cons b r, h4, h5, h6, B, st =>
        have : nm = ("pop" : Str) := by simpa using h6
        subst this
        simp only [chkEs, Bool.and_eq_true] at h5
        cases r with
        | nil => exact both C (rE_dpop C.hK A (sndE b C h5.1).1 h1 (chk_plain h5.1).1 h2) rfl
        | cons _ _ => simp [chkEs] at h5
      | .pop, [e], .nil, h4, h5, h6, B, st => simp [chkEs] at h5
      | .get, [e], .cons b r, h4, h5, h6, B, st =>
        have : nm = ("get" : Str) := by simpa using h6
        subst this
        simp only [chkEs, Bool.and_eq_true] at h5
        cases r with
        | nil => exact both C (rE_dget1 C.hu A (sndE b C h5.1).1 h1 (chk_plain h5.1).1 h2) rfl
        | cons _ _ => simp [chkEs] at h5
      | .get, [e], .nil, h4, h5, h6, B, st => simp [chkEs] at h5
      | .get, [e, f], .cons b (.cons d r), h4, h5, h6, B, st =>
        have : nm = ("get" : Str) := by simpa using h6
        subst this
        simp only [chkEs, Bool.and_eq_true] at h5
        cases r with
        | nil => exact both C (rE_dget2 C.hu A (sndE b C h5.1).1 (sndE d C h5.2.1).1 h1 (chk_plain h5.1).1 (chk_plain h5.2.1).1 h2) rfl
        | cons _ _ => simp [chkEs] at h5
      | .get, [e, f], .nil, h4, h5, h6, B, st => simp [chkEs] at h5
      | .get, [e, f], .cons b .nil, h4, h5, h6, B, st => simp [chkEs] at h5
      | .append, [], _, _, _, h6, _, _ => simp at h6
      | .extend, [], _, _, _, h6, _, _ => simp at h6
      | .pop, _ :: _ :: _, _, _, _, h6, _, _ => simp at h6
      | .get, [], _, _, _, h6, _, _ => simp at h6
      | .get, _ :: _ :: _ :: _, _, _, _, h6, _, _ => simp at h6
    · cases h
  | .mk n es, c, X, W, ex, C, h => by
    unfold chkE at h
    split at h
    · rename_i x px e r p
      simp only [Bool.and_eq_true, beq_iff_eq] at h
      obtain ⟨⟨⟨h1, h2⟩, h3⟩, h4⟩ := h
      obtain ⟨g1, g2⟩ := C.gl h3
      obtain ⟨m, hm⟩ := Option.isSome_iff_exists.mp h2
      exact both C (rE_mk C.kit h1 hm g1 g2 (sndEs es C h4) (chk_stars h4)) rfl
    · cases h
  | .comp a t it cs own, c, X, W, ex, C, h => by
    unfold chkE at h
    split at h
    · rename_i elt tg iter ifs scope p
      simp only [Bool.and_eq_true] at h
      obtain ⟨⟨⟨⟨⟨h1, h2⟩, h3⟩, h4⟩, h5⟩, h6⟩ := h
      obtain ⟨ok, ho, hk⟩ := blkB_ok h1
      have ok' : BlkOk X.N X.env.scope scope (ownP c own) := by rw [C.N, C.sc]; exact ok
      have L : LcOk g (ixOf P k) X elt tg ifs scope (ownP c own) a t cs := by
        refine ⟨ok', fun i hi => ?_, fun s H A cl fp => (sndG (C.blk hk s H A cl fp) t tg h3).1, fun s H A cl fp => ?_, fun s H A cl fp => (sndE a (C.blk hk s H A cl fp) h5).1⟩
        · rw [ho]
          have := List.all_eq_true.mp h2 i hi
          simpa using this
        · match ifs, cs, h6 with
          | [], .nil, _ => exact rTs_nil
          | [], .cons _ _, h6 => cases h6
          | [f], .cons b r, h6 =>
            simp only [Bool.and_eq_true] at h6
            cases r with
            | nil => exact rTs_one (sndE b (C.blk hk s H A cl fp) h6.2).2
            | cons _ _ => cases h6.1
          | [f], .nil, h6 => cases h6
          | _ :: _ :: _, _, h6 => cases h6
      obtain ⟨hs, hi⟩ := sndI it C h4
      have fin : PE X (.ListComp elt [⟨tg, iter, ifs, 0⟩] scope p) (rdE g W (ixOf P k) (.comp a t it cs ((ownP c own).map (·.2)))) := by
        rcases hi with ⟨hl, hi⟩ | ⟨hl, hi⟩
        · exact rE_comp C.kit.glo.calm C.kit.glo.nd L (fold_none hs _) hl hi
        · exact rE_compL C.kit.glo.calm C.kit.glo.nd L (fold_none hs _) hl hi
      rw [ho] at fin
      exact both C fin rfl
    · cases h
theorem sndEs : ∀ (es : IEs) {c : SC} {X : Cx} {W : WX} {xs : List Expr}, Ctx g T P k c X W → chkEs T P es c xs = true → PA X xs (rdEs g W (ixOf P k) es)
  | .nil, c, X, W, xs, C, h => by
    cases xs with
    | nil => exact rA_nil
    | cons _ _ => simp [chkEs] at h
  | .cons a r, c, X, W, xs, C, h => by
    cases xs with
    | nil => simp [chkEs] at h
    | cons e es =>
      simp only [chkEs, Bool.and_eq_true] at h
      exact rA_cons (sndE a C h.1).1 (sndEs r C h.2) (star_cons (chk_plain h.1).1)
theorem sndPs : ∀ (ps : IPs) {c : SC} {X : Cx} {W : WX} {pos : Pos} {ks : List (Option Expr)} {vs : List Expr}, Ctx g T P k c X W → chkPs T P ps c ks vs = true → PPi g W (ixOf P k) X pos ks vs ps
  | .nil, c, X, W, pos, ks, vs, C, h => by
    match ks, vs, h with
    | [], [], _ => exact ppi_nil
    | _ :: _, _, h => simp [chkPs] at h
    | [], _ :: _, h => simp [chkPs] at h
  | .cons a b r, c, X, W, pos, ks, vs, C, h => by
    match ks, vs, h with
    | some ke :: ks, v :: vs, h =>
      simp only [chkPs, Bool.and_eq_true] at h
      exact ppi_cons (sndE a C h.1.1).1 (sndE b C h.1.2).1 (sndPs r C h.2)
    | [], _, h => simp [chkPs] at h
    | none :: _, _, h => simp [chkPs] at h
    | some _ :: _, [], h => simp [chkPs] at h
theorem sndC : ∀ (r : ICh) {c : SC} {X : Cx} {W : WX} {ops : List CmpOp} {es : List Expr}, Ctx g T P k c X W → chkC T P r c ops es = true → PCV X ops es (rdCh g W (ixOf P k) r) ∧ PCT X ops es (rdChT g W (ixOf P k) r)
  | .last o b, c, X, W, ops, es, C, h => by
    match ops, es, h with
    | [op], [e], h =>
      simp only [chkC, Bool.and_eq_true] at h
      exact ⟨pcv_last h.1 C.hK C.hu (sndE b C h.2).1, pct_last h.1 C.hK C.hu (sndE b C h.2).1⟩
    | [], _, h => simp [chkC] at h
    | _ :: _ :: _, _, h => simp [chkC] at h
    | [_], [], h => simp [chkC] at h
    | [_], _ :: _ :: _, h => simp [chkC] at h
  | .more o b r, c, X, W, ops, es, C, h => by
    match ops, es, h with
    | op :: op' :: ops, e :: e' :: es, h =>
      simp only [chkC, Bool.and_eq_true] at h
      obtain ⟨q1, q2⟩ := sndC r C h.2
      exact ⟨pcv_more h.1.1 C.hK C.hu (sndE b C h.1.2).1 q1, pct_more h.1.1 C.hK C.hu (sndE b C h.1.2).1 q2⟩
    | [], _, h => simp [chkC] at h
    | [_], _, h => simp [chkC] at h
    | _ :: _ :: _, [], h => simp [chkC] at h
    | _ :: _ :: _, [_], h => simp [chkC] at h
theorem sndO : ∀ (a : Option IE) {c : SC} {X : Cx} {W : WX} {ex : Option Expr}, Ctx g T P k c X W → chkO T P a c ex = true → PO X ex (rdO g W (ixOf P k) a)
  | none, c, X, W, ex, C, h => by
    cases ex with
    | none => exact rO_none
    | some _ => simp [chkO] at h
  | some a, c, X, W, ex, C, h => by
    cases ex with
    | none => simp [chkO] at h
    | some e => exact rO_some (sndE a C (by simpa [chkO] using h)).1
theorem sndK : ∀ (es : IEs) {c : SC} {X : Cx} {W : WX} {pos : Pos} {ns : List String} {kws : List Keyword}, Ctx g T P k c X W → chkK T P es c ns kws = true → PK X kws (rdEs g W (ixOf P k) es) ∧
    (backToKw pos (keywordEach kws X.env)).all (·.1.isSome) = true ∧ (backToKw pos (keywordEach kws X.env)).filterMap (·.1) = ns.map Str.ofString ∧ ((backTo pos (starEach [] X.env)).any (·.1) || (backToKw pos (keywordEach kws X.env)).any (·.1.isNone)) = false
  | .nil, c, X, W, pos, ns, kws, C, h => by
    match ns, kws, h with
    | [], [], _ => exact ⟨rK_nil, rfl, rfl, rfl⟩
    | _ :: _, _, h => simp [chkK] at h
    | [], _ :: _, h => simp [chkK] at h
  | .cons a r, c, X, W, pos, ns, kws, C, h => by
    match ns, kws, h with
    | n :: ns, ⟨nm, e, kp⟩ :: kws, h =>
      simp only [chkK, Bool.and_eq_true, beq_iff_eq] at h
      obtain ⟨⟨h1, h2⟩, h3⟩ := h
      obtain ⟨q1, q2, q3, q4⟩ := sndK r C (pos := pos) h3
      subst h1
      refine ⟨rK_cons (sndE a C h2).1 q1, ?_, ?_, ?_⟩
      · simp only [keywordEach, backToKw, List.map_cons, List.all_cons, Option.isSome_some, Bool.true_and]
        exact q2
      · simp only [keywordEach, backToKw, List.map_cons, List.filterMap_cons]
        rw [← q3]; rfl
      · have : (backToKw pos (keywordEach kws X.env)).any (·.1.isNone) = false := by
          rw [Bool.or_eq_false_iff] at q4; exact q4.2
        simp only [keywordEach, backToKw, List.map_cons, List.any_cons, Option.isNone_some, Bool.false_or]
        exact q4
    | [], _, h => simp [chkK] at h
    | _ :: _, [], h => simp [chkK] at h
theorem sndI : ∀ (it : IIt) {c : SC} {X : Cx} {W : WX} {ex tg : Expr}, Ctx g T P k c X W → chkI T P it c ex tg = true → setB ex = false ∧ ((it.locks = false ∧ PI X tg ex (rdI g W (ixOf P k) it)) ∨ (it.locks = true ∧ PI X tg ex (rdL g it)))
  | .val a, c, X, W, ex, tg, C, h => by
    have h' : chkE T P a c ex = true := by simpa [chkI] using h
    exact ⟨(chk_plain h').2.1, .inl ⟨rfl, rI_val C.hK (sndE a C h').1⟩⟩
  | .range1 a, c, X, W, ex, tg, C, h => by
    unfold chkI at h
    split at h
    · simp only [Bool.and_eq_true, beq_iff_eq] at h
      obtain ⟨⟨h1, h2⟩, h3⟩ := h
      subst h1
      exact ⟨rfl, .inl ⟨rfl, rI_range1 (C.gl h2).1 (C.bn (by decide +kernel)) (sndE a C h3).1 (chk_plain h3).1⟩⟩
    · cases h
  | .range2 a b, c, X, W, ex, tg, C, h => by
    unfold chkI at h
    split at h
    · simp only [Bool.and_eq_true, beq_iff_eq] at h
      obtain ⟨⟨⟨h1, h2⟩, h3⟩, h4⟩ := h
      subst h1
      exact ⟨rfl, .inl ⟨rfl, rI_range2 (C.gl h2).1 (C.bn (by decide +kernel)) (sndE a C h3).1 (sndE b C h4).1 (chk_plain h3).1 (chk_plain h4).1⟩⟩
    · cases h
  | .enum a, c, X, W, ex, tg, C, h => by
    unfold chkI at h
    split at h
    · simp only [Bool.and_eq_true, beq_iff_eq] at h
      obtain ⟨⟨⟨h1, h2⟩, h3⟩, h4⟩ := h
      subst h1
      cases tg with
      | Tuple ts kk tp => exact ⟨rfl, .inl ⟨rfl, rI_enum C.hK (C.gl h2).1 (C.bn (by decide +kernel)) (sndE a C h4).1 (chk_plain h4).1⟩⟩
      | _ => cases h3
    · cases h
  | .zip a b, c, X, W, ex, tg, C, h => by
    unfold chkI at h
    split at h
    · simp only [Bool.and_eq_true, beq_iff_eq] at h
      obtain ⟨⟨⟨⟨h1, h2⟩, h3⟩, h4⟩, h5⟩ := h
      subst h1
      cases tg with
      | Tuple ts kk tp => exact ⟨rfl, .inl ⟨rfl, rI_zip C.hK (C.gl h2).1 (C.bn (by decide +kernel)) (sndE a C h4).1 (sndE b C h5).1 (chk_plain h4).1 (chk_plain h5).1⟩⟩
      | _ => cases h3
    · cases h
  | .items i, c, X, W, ex, tg, C, h => by
    unfold chkI at h
    split at h
    · simp only [Bool.and_eq_true] at h
      obtain ⟨⟨⟨h1, h2⟩, h3⟩, h4⟩ := h
      rw [beq_iff_eq] at h1
      subst h1
      cases tg with
      | Tuple ts kk tp => exact ⟨rfl, .inr ⟨rfl, rL_items C.N C.sc h4 h2⟩⟩
      | _ => cases h3
    · cases h
  | .keys i, c, X, W, ex, tg, C, h => by
    cases ex with
    | Name x p => exact ⟨rfl, .inr ⟨rfl, rL_keys C.N C.sc (by simpa [chkI] using h)⟩⟩
    | _ => simp [chkI] at h
end
end
end PL
set_option Elab.async false
set_option linter.all false
set_option maxRecDepth 100000
set_option maxHeartbeats 4000000
namespace PL
open PySem PySem.Spec PyProof.Rows L2
section
variable {g : G} {T : Tab} {P : Prog} {k : Nat} {c : SC} {X : Cx} {W : WX} {pos p0 apos : Pos}
theorem comp_parts {e : IE} {elt : Expr} {gs : List Comprehension} {scope : Scope} {p : Pos} (C : Ctx g T P k c X W) (hc : e.isComp = true) (h : chkE T P e c (.ListComp elt gs scope p) = true) :
    ∃ tg iter ifs a t it cs own, gs = [⟨tg, iter, ifs, 0⟩] ∧ e = .comp a t it cs (own.map (·.2)) ∧ LcOk g (ixOf P k) X elt tg ifs scope own a t cs ∧ setB iter = false ∧ ((it.locks = false ∧ PI X tg iter (rdI g W (ixOf P k) it)) ∨ (it.locks = true ∧ PI X tg iter (rdL g it))) := by
  cases e with
  | comp a t it cs own =>
    unfold chkE at h
    split at h
    · rename_i elt' tg iter ifs scope' p' heq
      cases heq
      simp only [Bool.and_eq_true] at h
      obtain ⟨⟨⟨⟨⟨h1, h2⟩, h3⟩, h4⟩, h5⟩, h6⟩ := h
      obtain ⟨ok, ho, hk⟩ := blkB_ok h1
      have ok' : BlkOk X.N X.env.scope scope (ownP c own) := by rw [C.N, C.sc]; exact ok
      have L : LcOk g (ixOf P k) X elt tg ifs scope (ownP c own) a t cs := by
        refine ⟨ok', fun i hi => ?_, fun s H A cl fp => (sndG (C.blk hk s H A cl fp) t tg h3).1, fun s H A cl fp => ?_, fun s H A cl fp => (sndE a (C.blk hk s H A cl fp) h5).1⟩
        · rw [ho]
          have := List.all_eq_true.mp h2 i hi
          simpa using this
        · match ifs, cs, h6 with
          | [], .nil, _ => exact rTs_nil
          | [], .cons _ _, h6 => cases h6
          | [f], .cons b r, h6 =>
            simp only [Bool.and_eq_true] at h6
            cases r with
            | nil => exact rTs_one (sndE b (C.blk hk s H A cl fp) h6.2).2
            | cons _ _ => cases h6.1
          | [f], .nil, h6 => cases h6
          | _ :: _ :: _, _, h6 => cases h6
      obtain ⟨hs, hi⟩ := sndI it C h4
      exact ⟨tg, iter, ifs, a, t, it, cs, ownP c own, rfl, by rw [ho], L, hs, hi⟩
    · cases h
  | _ => cases hc
theorem Ctx.kdX (C : Ctx g T P k c X W) : X.env.scope.kind = .function := by rw [C.sc]; exact C.kd
theorem slotB_iff' {k : SC} {i : Nat} {x : Str} (h : slotB k i x = true) : k.N[i]? = some x ∧ Vis k.sc x ∧ (x == ("__debug__" : Str)) = false ∧ (x == ("__classdict__" : Str)) = false := by
  unfold slotB at h
  simp only [Bool.and_eq_true, Bool.not_eq_true', beq_iff_eq] at h
  obtain ⟨⟨⟨h1, h2⟩, h3⟩, h4⟩ := h
  exact ⟨h1, visB_iff h2, h3, h4⟩
/-- a def's own body: what passes, where it stands -/
structure Own (X : Cx) : Prop where
  ps : PassesOwn (model X.prog X.w) X.A X.env X.xe
  st : X.stack = X.env :: X.outer
  fr : X.env.frame = some X.env.locals
theorem Ctx.tr (C : Ctx g T P k c X W) (pn : List (Addr × Obj)) (xe : Value → Shared → Prop) {W' : WX} (tk : Takes (X.tr pn xe) W') : Ctx g T P k c (X.tr pn xe) W' := by
  obtain ⟨⟨⟨a1, a2, a3, a4, a5, a6, a7⟩, _, bn, call, glob, fs, cn, mak, er, ern, hnd, msu⟩, h1, h2, h3, h4⟩ := C
  exact ⟨⟨⟨a1, a2, a3, a4, a5, a6, a7⟩, tk, bn, fun f F hf => ⟨(call f F hf).ex⟩, glob, fs, cn, fun n m hm => by
    obtain ⟨C, fs, e1, e2, ⟨z⟩⟩ := mak n m hm
    exact ⟨C, fs, e1, e2, ⟨z⟩⟩, er, ern, hnd, msu⟩, h1, h2, h3, h4⟩
theorem hd_ok (C : Ctx g T P k c X W) {h : List Nat × Nat × Bool × Str} {e : ExceptHandler} (hb : hdB T c h e = true) : ∃ cv, (∀ k C, g.err k = some C → PySem.W.exmOne g.K (.ref C) cv = some (decide (k ∈ h.1))) ∧ ∀ {es : List ExceptHandler} {l : List Clause}, ClsOk' X es l → ClsOk' X (e :: es) ((cv, h.2.1, tHd X.K h.2.1 h.2.2.1 h.2.2.2) :: l) := by
  obtain ⟨ids, i, ls, w⟩ := h
  unfold hdB at hb
  split at hb
  · rename_i heq
    cases heq
    simp only [Bool.and_eq_true, beq_iff_eq] at hb
    obtain ⟨⟨⟨⟨h1, h2⟩, h3⟩, h4⟩, h5⟩ := hb
    obtain ⟨cv, hm, hx⟩ := C.kit.hnd _ _ h1
    obtain ⟨hg, hd⟩ := C.gl h2
    have hi := h3
    rw [← C.N] at hi
    have hln := h4
    rw [← C.sc] at hln
    refine ⟨cv, hx, ?_⟩
    split at h5
    · simp only [Bool.and_eq_true, beq_iff_eq, Bool.not_eq_true'] at h5
      obtain ⟨⟨⟨rfl, rfl⟩, h7⟩, rfl⟩ := h5
      obtain ⟨b1, b2, b3, b4⟩ := slotB_iff' h7
      rw [h3] at b1
      cases b1
      exact fun r => hd_tup hi hln ⟨hg, hd, .inl hm⟩ b3 b4 r
    · simp only [Bool.and_eq_true, beq_iff_eq] at h5
      obtain ⟨⟨⟨rfl, rfl⟩, h7⟩, rfl⟩ := h5
      obtain ⟨b1, b2, b3, b4⟩ := slotB_iff' h7
      rw [h3] at b1
      cases b1
      exact fun r => hd_lst hi hln ⟨hg, hd, .inl hm⟩ b3 b4 r
    · cases h5
  · cases hb
theorem hds_ok (C : Ctx g T P k c X W) : ∀ {hs : List (List Nat × Nat × Bool × Str)} {es : List ExceptHandler}, hdsB T c hs es = true → ∃ l, Hds g X hs es l
  | [], [], _ => ⟨[], .nil⟩
  | [], _ :: _, h => by simp [hdsB] at h
  | _ :: _, [], h => by simp [hdsB] at h
  | (ids, i, ls, w) :: hs, e :: es, h => by
    simp only [hdsB, Bool.and_eq_true] at h
    obtain ⟨cv, hx, ok⟩ := hd_ok C h.1
    obtain ⟨l, hl⟩ := hds_ok C h.2
    exact ⟨_, .cons hx ok hl⟩
mutual
theorem sndS : ∀ (i : IS) {c : SC} {X : Cx} {W : WX} {st : Stmt}, Ctx g T P k c X W → Own X → chkS T P i c st = true → PS X st (rdS g W (ixOf P k) i)
  | .set i e, c, X, W, st, C, O, h => by
    unfold chkS at h
    split at h
    · rename_i x px v p
      simp only [Bool.and_eq_true] at h
      obtain ⟨⟨h1, h2⟩, h3⟩ := h
      split at h3
      · rename_i elt gs scope p2
        cases hsw : swB c.sc scope.names x px.line p2.line with
        | true =>
          rw [hsw] at h3
          simp only [Bool.not_true, Bool.false_or, Bool.and_eq_true, beq_iff_eq] at h3
          obtain ⟨tg, iter, ifs, a, t, it, cs, own, rfl, rfl, L, hs, hi⟩ := comp_parts C h3.1 h2
          have sw : swapsWith (.ListComp elt [⟨tg, iter, ifs, 0⟩] scope p2) (some (.Name x px)) p.line X.env = pure true := by
            rw [sw_name C.kdX, C.sc, hsw]
          rcases hi with ⟨hl, hi⟩ | ⟨hl, hi⟩
          · exact rS_setLc C.kit.glo.calm C.kit.glo.nd L (fold_none hs _) (by rw [C.N]; exact h3.2.1) (by rw [C.sc]; exact h3.2.2) sw hl hi
          · exact rS_setLcL C.kit.glo.calm C.kit.glo.nd L (fold_none hs _) (by rw [C.N]; exact h3.2.1) (by rw [C.sc]; exact h3.2.2) sw hl hi
        | false => exact rS_set C.kit.glo.nd C.N C.sc C.fn h1 (sndE e C h2).1 (by rw [sw_name C.kdX, C.sc, hsw])
      · have hc : compB v = false := by simpa using h3
        exact rS_set C.kit.glo.nd C.N C.sc C.fn h1 (sndE e C h2).1 (sw_none hc _ _ _)
    · cases h
  | .unp t e, c, X, W, st, C, O, h => by
    unfold chkS at h
    split at h
    · rename_i ts kk tp v p
      simp only [Bool.and_eq_true, Bool.not_eq_true'] at h
      obtain ⟨⟨⟨h1, h2⟩, h3⟩, h4⟩ := h
      have hw : swappedStores [.Tuple ts kk tp] v X.env = pure none := by
        split at h4
        · split at h4
          · rename_i hsn
            exact swN_of C.kdX (by rw [C.sc]; exact hsn)
          · cases h4
        · rename_i hv
          exact swn_other (.inr fun ts k p z => hv ts k p z)
      exact rS_asg (sndE e C h2).1 (sndG C t _ h1).1 (show swapsWith v (some (.Tuple ts kk tp)) p.line X.env = pure false from sw_other (fun _ _ z => by cases z) _ _) hw rfl
    · cases h
  | .par is es, c, X, W, st, C, O, h => by
    unfold chkS at h
    split at h
    · split at h
      · simp only [Bool.and_eq_true, beq_iff_eq, bne_iff_ne] at h
        obtain ⟨⟨⟨⟨⟨⟨h1, h2⟩, h3⟩, h4⟩, h5⟩, h6⟩, h7⟩ := h
        exact rS_par C.kit.glo.calm C.kit.glo.nd (by rw [C.N]; exact h1) (by rw [C.N]; exact h2) h3 (by rw [C.sc]; exact h4) (by rw [C.sc]; exact h5) (sndEs es C h6) (swN_of C.kdX (by rw [C.sc]; exact h7))
      · cases h
    · split at h
      · simp only [Bool.and_eq_true, beq_iff_eq, bne_iff_ne] at h
        obtain ⟨⟨⟨⟨⟨⟨⟨⟨⟨⟨h1, h2⟩, h3⟩, h4⟩, h5⟩, h6⟩, h7⟩, h8⟩, h9⟩, h10⟩, h11⟩ := h
        exact rS_par3 C.kit.glo.calm C.kit.glo.nd (by rw [C.N]; exact h1) (by rw [C.N]; exact h2) (by rw [C.N]; exact h3) h4 h5 h6 (by rw [C.sc]; exact h7) (by rw [C.sc]; exact h8) (by rw [C.sc]; exact h9) (sndEs es C h10) (swN_of C.kdX (by rw [C.sc]; exact h11))
      · cases h
    · cases h
  | .put a i v, c, X, W, st, C, O, h => by
    unfold chkS at h
    split at h
    · rename_i ea ei tp ev p
      simp only [Bool.and_eq_true] at h
      obtain ⟨⟨h1, h2⟩, h3⟩ := h
      exact rS_put C.hu (sndE a C h1).1 (sndE i C h2).1 (sndE v C h3).1 (chk_plain h2).2.2 (show swapsWith ev (some (.Subscript ea ei tp)) p.line X.env = pure false from sw_other (fun _ _ z => by cases z) _ _) (swn_other (.inl ⟨fun _ _ _ z => (by cases z), fun _ _ z => (by cases z)⟩))
    · cases h
  | .aug i o e, c, X, W, st, C, O, h => by
    unfold chkS at h
    split at h
    · simp only [Bool.and_eq_true] at h
      obtain ⟨⟨h1, h2⟩, h3⟩ := h
      exact rS_aug h2 C.kit.glo.nd C.N C.sc C.fn h1 (sndE e C h3).1
    · cases h
  | .expr e, c, X, W, st, C, O, h => by
    unfold chkS at h
    split at h
    · simp only [Bool.and_eq_true, Bool.not_eq_true'] at h
      exact rS_expr (sndE e C h.2).1 (sw_none h.1 _ _ _)
    · cases h
  | .ret e, c, X, W, st, C, O, h => by
    unfold chkS at h
    split at h
    · exact rS_ret (sndE e C h).1
    · cases h
  | .retN, c, X, W, st, C, O, h => by
    unfold chkS at h
    split at h
    · exact rS_retN
    · cases h
  | .ite t a b, c, X, W, st, C, O, h => by
    unfold chkS at h
    split at h
    · simp only [Bool.and_eq_true] at h
      obtain ⟨⟨h1, h2⟩, h3⟩ := h
      exact rS_if (sndE t C h1).2 (sndSs a C O h2) (sndSs b C O h3)
    · cases h
  | .for_ t it body, c, X, W, st, C, O, h => by
    unfold chkS at h
    split at h
    · simp only [Bool.and_eq_true] at h
      obtain ⟨⟨h1, h2⟩, h3⟩ := h
      obtain ⟨hs, hi⟩ := sndI it C h2
      rcases hi with ⟨hl, hi⟩ | ⟨hl, hi⟩
      · exact rS_for hl O.ps C.kit.glo.calm hi (sndG C t _ h1).1 (sndSs body C O h3) (fold_none hs _)
      · exact rS_forL hl O.ps C.kit.glo.calm hi (sndG C t _ h1).1 (sndSs body C O h3) (fold_none hs _)
    · cases h
  | .while_ t body, c, X, W, st, C, O, h => by
    unfold chkS at h
    split at h
    · simp only [Bool.and_eq_true] at h
      exact rS_while O.ps (sndE t C h.1).2 (sndSs body C O h.2)
    · cases h
  | .brk, c, X, W, st, C, O, h => by
    unfold chkS at h
    split at h
    · exact rS_brk
    · cases h
  | .cont, c, X, W, st, C, O, h => by
    unfold chkS at h
    split at h
    · exact rS_cont
    · cases h
  | .pass, c, X, W, st, C, O, h => by
    unfold chkS at h
    split at h
    · exact rS_pass
    · cases h
  | .raise n e, c, X, W, st, C, O, h => by
    unfold chkS at h
    rcases Bool.or_eq_true_iff.mp h with hd | h'
    · cases e <;> first | exact rS_never | (simp [IE.isDead] at hd)
    · split at h'
      · simp only [Bool.and_eq_true, beq_iff_eq] at h'
        obtain ⟨⟨h1, h2⟩, h3⟩ := h'
        obtain ⟨hg, hdb⟩ := C.gl h1
        obtain ⟨C', D', fI, e1, e2, T'⟩ := C.kit.err _ _ h2
        have h4 := h3
        simp only [chkEs, Bool.and_eq_true] at h4
        exact rS_raise C.kit.glo.calm C.kit.tk C.kit.glo.room C.hK e1 e2 T' C.kit.msu hg hdb (sndEs _ C h3) (star_cons (chk_plain h4.1).1)
      · cases h'
  | .tryW body hs, c, X, W, st, C, O, h => by
    unfold chkS at h
    split at h
    · simp only [Bool.and_eq_true] at h
      obtain ⟨l, hl⟩ := hds_ok C h.2
      exact rS_try O.st O.fr C.kit.glo.nd C.kit.tk C.hK C.kit.ern (fun W' pn xe tk' po => sndSs body (C.tr pn xe tk') ⟨po, O.st, O.fr⟩ h.1) hl
    · cases h
theorem sndSs : ∀ (is : List IS) {c : SC} {X : Cx} {W : WX} {sts : List Stmt}, Ctx g T P k c X W → Own X → chkSs T P is c sts = true → PSs X sts (rdSs g W (ixOf P k) is)
  | [], c, X, W, sts, C, O, h => by
    cases sts with
    | nil => exact rSs_nil
    | cons _ _ => simp [chkSs] at h
  | i :: is, c, X, W, sts, C, O, h => by
    cases sts with
    | nil => simp [chkSs] at h
    | cons st rest =>
      simp only [chkSs, Bool.and_eq_true] at h
      exact rSs_cons (sndS i C O h.1) (sndSs is C O h.2)
end

/-! ### defs -/
/-- what is known of a law's text and of what its top has written -/
structure FnD (g : G) (T : Tab) (P : Prog) (mg : Str → Option Value) (f : String) (F : IFun) : Prop where
  ex : ∃ (fa : Addr) (fd : FuncData) (qual : Str) (st : Stmt) (N ps : List Str), Fun g.K (Str.ofString f) qual st fa fd ∧ mg (Str.ofString f) = some (.ref fa) ∧ FnScope N ps (defScope st) ∧ F.np = ps.length ∧ F.ns = N.length ∧
    chkSs T P F.body ⟨N, defScope st, fun _ => true⟩ (defBody st) = true ∧ Binds g.K fd ps [] ∧
    ∀ ks pm, (f, ks, pm) ∈ P.kws → ∀ s (ws ws' : List Value), g.K.In s.heap → ws.length = ks.length → pm.mapM (fun i => ws[i]?) = some ws' → BindsTo s fd ⟨[], (ks.map Str.ofString).zip ws⟩ (ps.zip ws')
structure Base (g : G) (T : Tab) (P : Prog) (prog : Program) (w : World) (mg : Str → Option Value) (base : Heap) : Prop where
  cls : ∀ c C fs, g.cls c = some (C, fs) → ClsOk g.K C fs
  isa : ∀ t c S b, tyU g t = some c → ∀ p ∈ kinds g, isaD S t p.2 = some b → PySem.W.kitOne g.K p.1 c = some b
  isaC : ∀ t c k C fs, tyU g t = some c → g.cls k = some (C, fs) → PySem.W.kitOne g.K (.ref C) c = some (t == .cls k)
  bn : ∀ x ∈ bNames, mg x = none
  glob : ∀ x d, P.glob x = some d → ∃ v u, mg (Str.ofString x) = some u ∧ RelV v u ∧ ∀ φ H, VR g φ H v d
  fs : ∀ c fl, T.fs c = some fl → ∃ C, g.cls c = some (C, fl)
  cn : ∀ x c, T.cn x = some c → ∃ C fs, g.cls c = some (C, fs) ∧ mg x = some (.ref C)
  err : ∀ x c, T.en x = some c → ∃ C D fI, g.err c = some C ∧ mg x = some (.ref C) ∧ PySem.ErrX.ErrTxt prog g.K C D fI
  ern : ∀ c C, g.err c = some C → XfC g.K C ∧ PySem.W.findIn g.K (.ref C) (Str.ofString "what") = some none
  hnd : ∀ x ids, T.hn x = some ids → ∃ cv, mg x = some cv ∧ ∀ c C, g.err c = some C → PySem.W.exmOne g.K (.ref C) cv = some (decide (c ∈ ids))
  msu : mg "super" = none
  mak : ∀ c n, P.ar c = some n → ∃ C fs, g.cls c = some (C, fs) ∧ fs.length = n ∧ ∃ f fd ps, Mk g.K C f ∧ FnOk prog w g.K mg base (L2.CX prog w) 1 f fd ps (initSp C fs) ∧ Binds g.K fd ps []
  fn : ∀ f F, P.fn f = some F → FnD g T P mg f F
theorem fin_post {φ : List Addr} {H : Hp} {S : Store} {r : Option SR} {E : XK} {Q : VK} {σ : St} (sm : Sim g φ S H) (p : Post g (fun c d _ H => E c d H) φ H [] (VR g) (finR S r) Q) :
    PostS g (fun c d _ H => E c d H) φ H r { nx := fun _ H' => Q .non H', rt := Q } := by
  cases r with
  | none => exact p
  | some r =>
    cases r with
    | nx env S1 =>
      intro φ' H' σ' k er
      obtain ⟨φc, kc, rc⟩ := compact_good sm k .non
      exact p φc H' .non kc .non
    | rt d S1 =>
      intro φ' H' x k r
      obtain ⟨φc, kc, rc⟩ := compact_good sm k r
      exact p φc H' x kc rc
    | bk env S1 => exact p.elim
    | ct env S1 => exact p.elim
    | ex e env S1 =>
      intro φ' H' σ' c d k er ⟨C, a, v, e1, e2, e3, e4, e5⟩
      obtain ⟨φc, kc, rc⟩ := compact_good sm k e5
      exact p φc H' c d kc ⟨C, a, v, e1, e2, e3, e4, rc⟩
theorem start_env {φ : List Addr} {H : Hp} {N : List Str} {vs : List V} {ds : List D} {F : IFun} (r : VRs g φ H vs ds) (hn : F.ns = N.length) (hp : ds.length = F.np) : EnvR g φ H (L2.start N vs) (ds.map some ++ List.replicate (F.ns - F.np) none) := by
  unfold L2.start
  refine ⟨by simp [r.length, hn, hp], fun i d h => ?_⟩
  by_cases hi : i < ds.length
  · rw [List.getElem?_append_left (by simpa using hi), List.getElem?_map] at h
    rw [List.getElem?_append_left (by simpa [r.length] using hi), List.getElem?_map]
    cases e : ds[i]? with
    | none => rw [e] at h; cases h
    | some d' =>
      rw [e] at h
      cases h
      obtain ⟨x, h1, h2⟩ := r.get e
      exact ⟨x, by rw [h1]; rfl, h2⟩
  · rw [List.getElem?_append_right (by simpa using hi)] at h
    rw [List.getElem?_replicate] at h
    split at h <;> cases h
theorem run_eq {k : Nat} {f : String} {F : IFun} (hF : P.fn f = some F) (ds : List D) (S : Store) : callN P (k + 1) f ds S = if ds.length = F.np then finR S (exSs (ixOf P k) F.body (ds.map some ++ List.replicate (F.ns - F.np) none) S) else none := by
  unfold callN
  rw [hF]; rfl
/-- the calls that a def's body may make -/
def Calls (g : G) (P : Prog) (prog : Program) (w : World) (mg : Str → Option Value) (base : Heap) (k : Nat) : Prop := ∀ (f : String) (F : IFun), P.fn f = some F →
    ∃ fa fd ps, FnOk prog w g.K mg base (L2.CX prog w) k fa fd ps (spI g P k f) ∧ mg (Str.ofString f) = some (.ref fa) ∧ PySem.W.keepIn g.K (.ref fa) = true ∧ Binds g.K fd ps [] ∧
    ∀ ks pm, (f, ks, pm) ∈ P.kws → ∀ s (ws ws' : List Value), g.K.In s.heap → ws.length = ks.length → pm.mapM (fun i => ws[i]?) = some ws' → BindsTo s fd ⟨[], (ks.map Str.ofString).zip ws⟩ (ps.zip ws')
theorem fn_step {prog : Program} {w : World} {mg : Str → Option Value} {base : Heap} (B : Base g T P prog w mg base) {k : Nat} (ih : Calls g P prog w mg base k) {f : String} {F : IFun} (hF : P.fn f = some F) {fa : Addr} {fd : FuncData} {qual : Str} {st : Stmt} {N ps : List Str}
    (F1 : Fun g.K (Str.ofString f) qual st fa fd) (hs : FnScope N ps (defScope st)) (hnp : F.np = ps.length) (hns : F.ns = N.length) (hc : chkSs T P F.body ⟨N, defScope st, fun _ => true⟩ (defBody st) = true) : FnOk prog w g.K mg base (L2.CX prog w) (k + 1) fa fd ps (spI g P (k + 1) f) := by
  refine F1.okX hs (fun vs H Q E h => ?_) (fun cdv A outer s H vs Q E hr h => ?_)
  · obtain ⟨φ, S, ds, _, rv, p⟩ := h
    rw [run_eq hF] at p
    by_cases hl : ds.length = F.np
    · rw [rv.length, hl, hnp]
    · rw [if_neg hl] at p; exact p.elim
  · obtain ⟨φ, S, ds, sm, rv, p⟩ := h
    rw [run_eq hF] at p
    by_cases hl : ds.length = F.np
    · rw [if_pos hl] at p
      have tk : Takes (cxOf (L2.CX prog w) prog w g.K mg base N qual (defScope st) fa cdv A outer s H E) (fun cls d _ H => E cls d H) := takes_of rfl rfl rfl rfl
      have C : Ctx g T P k ⟨N, defScope st, fun _ => true⟩ (cxOf (L2.CX prog w) prog w g.K mg base N qual (defScope st) fa cdv A outer s H E) (fun cls d _ H => E cls d H) := by
        refine ⟨⟨⟨rfl, rfl, hs.nd, hr, B.cls, B.isa, B.isaC⟩, tk, B.bn, fun f' F' hF' => ?_, B.glob, B.fs, B.cn, fun c n hc => ?_, B.err, B.ern, B.hnd, B.msu⟩, rfl, rfl, rfl, hs.kind⟩
        · obtain ⟨fa', fd', ps', q1, q2, q3, q4, q5⟩ := ih f' F' hF'
          exact ⟨fa', fd', ps', q1, q2, q3, q4, q5⟩
        · obtain ⟨C, fs, e1, e2, f', fd', ps', q1, q2, q3⟩ := B.mak c n hc
          exact ⟨C, fs, e1, e2, ⟨f', fd', ps', q1, q2, q3⟩⟩
      have O : PassesOwn (model prog w) (cxOf (L2.CX prog w) prog w g.K mg base N qual (defScope st) fa cdv A outer s H E).A (cxOf (L2.CX prog w) prog w g.K mg base N qual (defScope st) fa cdv A outer s H E).env (cxOf (L2.CX prog w) prog w g.K mg base N qual (defScope st) fa cdv A outer s H E).xe :=
        passes_of (X := cxOf (L2.CX prog w) prog w g.K mg base N qual (defScope st) fa cdv A outer s H E) (K := fun e s'' => L2.CX prog w outer H s E e s'') rfl
      exact ⟨_, sndSs F.body C ⟨O, rfl, rfl⟩ hc, φ, _, S, sm, start_env rv hns hl, fin_post (σ := []) sm p⟩
    · rw [if_neg hl] at p; exact p.elim
theorem cal_of {prog : Program} {w : World} {mg : Str → Option Value} {base : Heap} (B : Base g T P prog w mg base) : ∀ k : Nat, Calls g P prog w mg base k
  | 0 => fun f F hF => by
    obtain ⟨fa, fd, qual, st, N, ps, F1, hm, hs, hnp, hns, hc, hb, hk⟩ := (B.fn f F hF).ex
    refine ⟨fa, fd, ps, ⟨fun vs H Q E h => ?_, fun A outer s H args us vs Q E hr he hbi hv h => ?_⟩, hm, F1.kp, hb, hk⟩
    · obtain ⟨φ, S, ds, _, _, p⟩ := h
      exact p.elim
    · obtain ⟨φ, S, ds, _, _, p⟩ := h
      exact p.elim
  | k + 1 => fun f F hF => by
    obtain ⟨fa, fd, qual, st, N, ps, F1, hm, hs, hnp, hns, hc, hb, hk⟩ := (B.fn f F hF).ex
    exact ⟨fa, fd, ps, fn_step B (cal_of B k) hF F1 hs hnp hns hc, hm, F1.kp, hb, hk⟩
end
end PL
set_option Elab.async false
set_option linter.all false
set_option maxRecDepth 100000
set_option maxHeartbeats 4000000
namespace PL
open PySem PySem.Spec PyProof.Rows L2
/-! ### records: __init__ stores its parameters -/
def initB (c : SC) : Nat → List Str → List Stmt → Bool
  | _, [], sts => match sts with
    | [] => true
    | _ => false
  | j, f :: fs, sts => match sts with
    | .Assign [.Attribute (.Name s _) f' _] (.Name p _) _ :: rest => f' == f && slotB c 0 s && slotB c j p && initB c (j + 1) fs rest
    | _ => false
def tInit (C : Addr) (j : Nat) (rest : List Str) : TS := fun D σ H => ∃ x dx done xs ys, σ[0]? = some (some (V.ref x)) ∧ H x = some (.ins C dx (done.zip xs)) ∧ done.length = xs.length ∧ (∀ i y, ys[i]? = some y → σ[j + i]? = some (some y)) ∧ ys.length = rest.length ∧
  (done ++ rest).Nodup ∧ (done ++ rest).length ≤ 100 ∧ D.nx σ (upd H x (.ins C dx ((done ++ rest).zip (xs ++ ys))))
theorem putF_zip {f : Str} {y : V} : ∀ {done : List Str} {xs : List V}, done.length = xs.length → f ∉ done → putF f y (done.zip xs) = (done ++ [f]).zip (xs ++ [y])
  | [], [], _, _ => rfl
  | g :: done, x :: xs, hl, hn => by
    have h1 : ¬ g = f := fun z => hn (by rw [z]; exact List.mem_cons_self)
    have ih := putF_zip (f := f) (y := y) (done := done) (xs := xs) (by simpa using hl) (fun z => hn (List.mem_cons_of_mem _ z))
    simp only [List.zip_cons_cons, List.cons_append, putF, if_neg h1, ih]
  | [], _ :: _, hl, _ => by simp at hl
  | _ :: _, [], hl, _ => by simp at hl
theorem slotB_iff {k : SC} {i : Nat} {x : Str} (h : slotB k i x = true) : k.N[i]? = some x ∧ Vis k.sc x ∧ (x == ("__debug__" : Str)) = false ∧ (x == ("__classdict__" : Str)) = false := by
  unfold slotB at h
  simp only [Bool.and_eq_true, Bool.not_eq_true', beq_iff_eq] at h
  obtain ⟨⟨⟨h1, h2⟩, h3⟩, h4⟩ := h
  exact ⟨h1, visB_iff h2, h3, h4⟩
theorem init_run {X : Cx} {c : SC} {C : Addr} {fs : List Str} (hN : X.N = c.N) (hsc : X.env.scope = c.sc) (cl : Cls X.K C) (na : ∀ f ∈ fs, NoAttr X.K C f) : ∀ (rest : List Str) (j : Nat) (body : List Stmt), (∀ f ∈ rest, f ∈ fs) → initB c j rest body = true → PSs X body (tInit C j rest)
  | [], j, body, _, h => by
    cases body with
    | cons _ _ => simp [initB] at h
    | nil =>
      refine PSsimp pss_nil fun D σ H ⟨x, dx, done, xs, ys, h1, h2, h3, h4, h5, h6, h7, q⟩ => ?_
      have : ys = [] := List.eq_nil_of_length_eq_zero (by simpa using h5)
      subst this
      rw [List.append_nil, List.append_nil] at q
      have e : upd H x (.ins C dx (done.zip xs)) = H := by
        funext b
        by_cases hb : b = x
        · rw [hb, upd_same, h2]
        · rw [upd_ne hb]
      rw [e] at q
      exact q
  | f :: rest, j, body, hm, h => by
    unfold initB at h
    split at h
    · rename_i s ps f' pa p pp pq rst
      simp only [Bool.and_eq_true, beq_iff_eq] at h
      obtain ⟨⟨⟨rfl, h2⟩, h3⟩, h4⟩ := h
      obtain ⟨a1, a2, a3, a4⟩ := slotB_iff h2
      obtain ⟨b1, b2, b3, b4⟩ := slotB_iff h3
      have ih := init_run hN hsc cl na rest (j + 1) rst (fun g hg => hm g (List.mem_cons_of_mem _ hg)) h4
      refine PSsimp (pss_cons (ps_fld (pe_var (i := 0) (by rw [hN]; exact a1) (by rw [hsc]; exact a2) a3 a4) (pe_var (i := j) (by rw [hN]; exact b1) (by rw [hsc]; exact b2) b3 b4) (sw_none rfl _ _ _)) ih) fun D σ H ⟨x, dx, done, xs, ys, e1, e2, e3, e4, e5, e6, e7, q⟩ => ?_
      cases ys with
      | nil => simp at e5
      | cons y ys =>
        have hnf : f' ∉ done := fun z => by
          have := (List.nodup_append.mp e6).2.2 f' z f' List.mem_cons_self
          exact this rfl
        refine ⟨y, by have := e4 0 y rfl; simpa using this, .ref x, e1, x, C, dx, done.zip xs, rfl, e2, cl, na f' (hm f' List.mem_cons_self), ?_, ?_⟩
        · rw [List.length_zip, e3, Nat.min_self]
          rw [List.length_append] at e7
          omega
        · refine ⟨x, dx, done ++ [f'], xs ++ [y], ys, e1, ?_, by simp [e3], fun i z hz => ?_, by simpa using e5, ?_, ?_, ?_⟩
          · rw [upd_same, putF_zip e3 hnf]
          · have := e4 (i + 1) z (by simpa using hz)
            rw [show j + 1 + i = j + (i + 1) by omega]; exact this
          · rw [List.append_assoc]; exact e6
          · rw [List.append_assoc]; exact e7
          · rw [List.append_assoc, List.append_assoc]
            have : ∀ o, upd (upd H x (.ins C dx (putF f' y (done.zip xs)))) x o = upd H x o := fun o => by
              funext b
              by_cases hb : b = x
              · rw [hb, upd_same, upd_same]
              · rw [upd_ne hb, upd_ne hb, upd_ne hb]
            rw [this]
            exact q
    · cases h
theorem init_ok {K : PySem.W.Frag} {prog : Program} {w : World} {mg : Str → Option Value} {base : Heap} {qual : Str} {st : Stmt} {f C : Addr} {fd : FuncData} {N ps : List Str} {fs : List Str} (F : Fun K ("__init__" : Str) qual st f fd) (S : FnScope N ps (defScope st)) (cl : Cls K C) (na : ∀ f ∈ fs, NoAttr K C f) (nd : fs.Nodup) (h100 : fs.length ≤ 100)
    (hp : ps.length = fs.length + 1) (h : initB ⟨N, defScope st, fun _ => true⟩ 1 fs (defBody st) = true) : FnOk prog w K mg base (L2.CX prog w) 1 f fd ps (initSp C fs) := by
  refine F.okX (k := 0) S (fun vs H Q E hs => ?_) (fun cdv A outer s H vs Q E hr hs => ?_)
  · obtain ⟨x, dx, xs, rfl, hl, _⟩ := hs
    rw [List.length_cons, hl, hp]
  · obtain ⟨x, dx, xs, rfl, hl, hx, q⟩ := hs
    refine ⟨_, init_run (c := ⟨N, defScope st, fun _ => true⟩) rfl rfl cl na fs 1 _ (fun f hf => hf) h, x, dx, [], [], xs, rfl, hx, rfl, fun i y hy => ?_, hl, nd, h100, q⟩
    unfold L2.start
    have hi := (List.getElem?_eq_some_iff.mp hy).1
    rw [List.getElem?_append_left (by simp; omega), List.getElem?_map, Nat.add_comm 1 i, List.getElem?_cons_succ, hy]
    rfl
end PL
set_option Elab.async false
set_option linter.all false
set_option maxRecDepth 100000
set_option maxHeartbeats 4000000
namespace PL
open PySem PySem.Spec PyProof.Rows L2
theorem mem_lk {α β : Type} [BEq α] [LawfulBEq α] : ∀ {l : List (α × β)} {x : α} {d : β}, l.lookup x = some d → (x, d) ∈ l
  | [], _, _, h => by simp at h
  | (y, e) :: r, x, d, h => by
    rw [List.lookup_cons] at h
    cases hb : x == y with
    | true =>
      rw [hb] at h
      cases h
      rw [eq_of_beq hb]
      exact List.mem_cons_self
    | false =>
      rw [hb] at h
      exact List.mem_cons_of_mem _ (mem_lk h)
/-! ### what a head gives -/
def addrOf (K : PySem.W.Frag) (x : Str) : Option Addr := match PySem.W.nsIn K mainGlobals x with
  | some (some (.ref a)) => some a
  | _ => none
def clsOf (K : PySem.W.Frag) (recs : List (Str × List Str)) (c : Nat) : Option (Addr × List Str) := (recs[c]?).bind fun p => (addrOf K p.1).map fun a => (a, p.2)
def mkG (recs : List (Str × List Str)) (errs : List (Nat × Str)) (K : PySem.W.Frag) : G := ⟨K, clsOf K recs, fun c => (errs.lookup c).bind (addrOf K)⟩
def mkT (recs : List (Str × List Str)) (errs : List (Nat × Str)) (hns : List (Str × List Nat)) : Tab := ⟨fun x => recs.findIdx? fun p => p.1 == x, fun c => (recs[c]?).map (·.2), fun x => (errs.find? fun y => y.2 == x && (errs.lookup y.1 == some x)).map (·.1), fun x => hns.lookup x⟩
def FnAt (K : PySem.W.Frag) (f qual : Str) (fa : Addr) (st : Stmt) : Prop := ∃ (oc : Value) (od : Option Addr) (kV dc pm : Value) (an : Option Addr) (cd ct : Value) (sl : Array (Option Value)),
  K.lookup fa = some ⟨oc, od, .func (PySem.W.fnOf f qual (defArgs st) (defBody st) (defScope st) .none kV dc pm an cd ct), sl⟩ ∧ PySem.W.codeIn K cd qual = true ∧ PySem.W.keepIn K (.ref fa) = true
theorem fnAt_mk {K : PySem.W.Frag} {f qual : Str} {fa : Addr} {st : Stmt} {oc : Value} {od : Option Addr} {kV dc pm : Value} {an : Option Addr} {cd ct : Value} {sl : Array (Option Value)} (l : K.lookup fa = some ⟨oc, od, .func (PySem.W.fnOf f qual (defArgs st) (defBody st) (defScope st) .none kV dc pm an cd ct), sl⟩)
    (c : PySem.W.codeIn K cd qual = true) (k : PySem.W.keepIn K (.ref fa) = true) : FnAt K f qual fa st := ⟨_, _, _, _, _, _, _, _, _, l, c, k⟩
/-- a def of the module -/
def DefAt (K : PySem.W.Frag) (f : Str) (st : Stmt) : Prop := ∃ fa, PySem.W.nsIn K mainGlobals f = some (some (.ref fa)) ∧ FnAt K f f fa st
theorem defAt_mk {K : PySem.W.Frag} {f : Str} {fa : Addr} {st : Stmt} {oc : Value} {od : Option Addr} {kV dc pm : Value} {an : Option Addr} {cd ct : Value} {sl : Array (Option Value)} (a : PySem.W.nsIn K mainGlobals f = some (some (.ref fa)))
    (l : K.lookup fa = some ⟨oc, od, .func (PySem.W.fnOf f f (defArgs st) (defBody st) (defScope st) .none kV dc pm an cd ct), sl⟩) (c : PySem.W.codeIn K cd f = true) (k : PySem.W.keepIn K (.ref fa) = true) : DefAt K f st := ⟨fa, a, fnAt_mk l c k⟩
/-- a record class of the module -/
structure RecAt (K : PySem.W.Frag) (x : Str) (fs : List Str) (qual : Str) (st : Stmt) : Prop where
  ex : ∃ C fi, PySem.W.nsIn K mainGlobals x = some (some (.ref C)) ∧ ClsOk K C fs ∧ Mk K C fi ∧ FnAt K ("__init__" : Str) qual fi st ∧
    (∀ a ∈ ["int", "bool", "str", "NoneType", "tuple"], PySem.W.kitOne K (.type a) (.ref C) = some false) ∧ ∀ a ∈ ["int", "bool", "tuple", "str"], PySem.W.kitOne K (.ref C) (.type a) = some false
theorem recAt_mk {K : PySem.W.Frag} {x : Str} {fs : List Str} {qual : Str} {st : Stmt} {C fi : Addr} (a : PySem.W.nsIn K mainGlobals x = some (some (.ref C)))
    (c1 : PySem.W.plainGet K C Str.empty = true) (c2 : PySem.W.hasDictIn K C = true) (c3 : PySem.W.plainOver K C = true) (c4 : PySem.W.findIn K (.ref C) "__setattr__" = some (some (.builtin "object.__setattr__")))
    (na : ∀ f ∈ fs, NoAttr K C f) (nd : fs.Nodup) (len : fs.length ≤ 100)
    (ha : PySem.W.findIn K (.ref C) "__class__" = some (some (.builtin "object.__class__"))) (hn : PySem.W.specialIn K (.builtin "object.__class__") "__get__" = some (some (.builtin "getset_descriptor.__get__"))) (htk : PySem.W.takesIn K (.builtin "object.__class__") = some true)
    (hm : PySem.W.mroIn K C (.type "object") = some true)
    (m1 : PySem.W.makesIn K C = true) (m2 : PySem.W.findIn K (.ref C) "__init__" = some (some (.ref fi))) (m3 : PySem.W.isFn K (.ref fi) = true) (m4 : PySem.W.keepIn K (.ref C) = true) (fn : FnAt K ("__init__" : Str) qual fi st)
    (k1 : PySem.W.kitOne K (.type "int") (.ref C) = some false) (k2 : PySem.W.kitOne K (.type "bool") (.ref C) = some false) (k3 : PySem.W.kitOne K (.type "str") (.ref C) = some false) (k4 : PySem.W.kitOne K (.type "NoneType") (.ref C) = some false) (k5 : PySem.W.kitOne K (.type "tuple") (.ref C) = some false)
    (l1 : PySem.W.kitOne K (.ref C) (.type "int") = some false) (l2 : PySem.W.kitOne K (.ref C) (.type "bool") = some false) (l3 : PySem.W.kitOne K (.ref C) (.type "tuple") = some false) (l4 : PySem.W.kitOne K (.ref C) (.type "str") = some false) : RecAt K x fs qual st :=
  ⟨C, fi, a, ⟨⟨c1, c2, c3, c4⟩, na, nd, len, ha, hn, htk, hm⟩, ⟨m1, m2, m3, m4⟩, fn, by
    intro z hz
    simp only [List.mem_cons, List.not_mem_nil, or_false] at hz
    rcases hz with rfl | rfl | rfl | rfl | rfl <;> assumption, by
    intro z hz
    simp only [List.mem_cons, List.not_mem_nil, or_false] at hz
    rcases hz with rfl | rfl | rfl | rfl <;> assumption⟩
/-- two classes of the module are no classes of one another -/
def Apart (K : PySem.W.Frag) (x y : Str) : Prop := ∃ C D, PySem.W.nsIn K mainGlobals x = some (some (.ref C)) ∧ PySem.W.nsIn K mainGlobals y = some (some (.ref D)) ∧ PySem.W.kitOne K (.ref C) (.ref D) = some false
theorem apart_mk {K : PySem.W.Frag} {x y : Str} {C D : Addr} (a : PySem.W.nsIn K mainGlobals x = some (some (.ref C))) (b : PySem.W.nsIn K mainGlobals y = some (some (.ref D))) (c : PySem.W.kitOne K (.ref C) (.ref D) = some false) : Apart K x y := ⟨C, D, a, b, c⟩
/-- an int of the module -/
def IntAt (K : PySem.W.Frag) (x : Str) (i : Int) : Prop := ∃ t, PySem.W.nsIn K mainGlobals x = some (some (.int i t))
def NoneAt (K : PySem.W.Frag) (x : Str) : Prop := PySem.W.nsIn K mainGlobals x = some none

theorem intAt_mk {K : PySem.W.Frag} {x : Str} {i : Int} {j : Int} {t : Tok} (h : PySem.W.nsIn K mainGlobals x = some (some (.int j t))) (e : j = i) : IntAt K x i := ⟨t, by rw [← e]; exact h⟩
theorem noneAt_mk {K : PySem.W.Frag} {x : Str} (h : PySem.W.nsIn K mainGlobals x = some none) : NoneAt K x := h
/-- an error class of the module -/
def ErrAt (prog : Program) (K : PySem.W.Frag) (x : Str) : Prop := ∃ C D fI, PySem.W.nsIn K mainGlobals x = some (some (.ref C)) ∧ PySem.ErrX.ErrTxt prog K C D fI
/-- what a clause takes -/
def HndAt (K : PySem.W.Frag) (errs : List (Nat × Str)) (x : Str) (ids : List Nat) : Prop := ∃ cv, PySem.W.nsIn K mainGlobals x = some (some (.ref cv)) ∧ ∀ (c : Nat) y, errs.lookup c = some y → ∀ C, addrOf K y = some C → PySem.W.exmOne K (.ref C) (.ref cv) = some (decide (c ∈ ids))
/-- what the text of a def shows -/
structure DefT (T : Tab) (P : Prog) (f : String) (F : IFun) (N : List Str) (st : Stmt) : Prop where
  sc : FnScope N (N.take F.np) (defScope st)
  np : F.np ≤ N.length
  ns : F.ns = N.length
  ck : chkSs T P F.body ⟨N, defScope st, fun _ => true⟩ (defBody st) = true
  bd : ∀ (kV doc pm : Value) (an : Option Addr) (cdv ct : Value) (us : List Value), us.length = (N.take F.np).length → bindArgs (PySem.W.fnOf (Str.ofString f) (Str.ofString f) (defArgs st) (defBody st) (defScope st) .none kV doc pm an cdv ct) ⟨us, []⟩ = pure ((N.take F.np).zip us)
  kw : ∀ ks pm, (f, ks, pm) ∈ P.kws → ∀ (kV doc pm' : Value) (an : Option Addr) (cdv ct : Value) (ws ws' : List Value), ws.length = ks.length → pm.mapM (fun i => ws[i]?) = some ws' →
    bindArgs (PySem.W.fnOf (Str.ofString f) (Str.ofString f) (defArgs st) (defBody st) (defScope st) .none kV doc pm' an cdv ct) ⟨[], (ks.map Str.ofString).zip ws⟩ = pure ((N.take F.np).zip ws')
section
variable {recs : List (Str × List Str)} {errs : List (Nat × Str)} {hns : List (Str × List Nat)} {P : Prog} {K : PySem.W.Frag} {h : Heap} {mg : Str → Option Value} {prog : Program} {w : World}
theorem fnD_of {f : String} {F : IFun} {N : List Str} {st : Stmt} (X : K.In h) (G : h.Ns mainGlobals mg) (D : DefAt K (Str.ofString f) st) (t : DefT (mkT recs errs hns) P f F N st) : FnD (mkG recs errs K) (mkT recs errs hns) P mg f F := by
  obtain ⟨fa, a, oc, od, kV, dc, pm, an, cd, ct, sl, l, c, k⟩ := D
  have F1 := fun_mk (st := st) l c k
  have hl : (N.take F.np).length = F.np := by rw [List.length_take]; exact Nat.min_eq_left t.np
  exact ⟨fa, _, Str.ofString f, st, N, N.take F.np, F1, PySem.W.mg_of X G a, t.sc, hl.symm, t.ns, t.ck, F1.binds fun kV doc pm an cdv ct us hu => t.bd kV doc pm an cdv ct us hu,
    fun ks pm2 hin s ws ws' _ hw hp => .of_eq (t.kw ks pm2 hin _ _ _ _ _ _ ws ws' hw hp)⟩
theorem addr_of {x : Str} {C : Addr} (e : PySem.W.nsIn K mainGlobals x = some (some (.ref C))) : addrOf K x = some C := by unfold addrOf; rw [e]
theorem of_addr {x : Str} {C : Addr} (e : addrOf K x = some C) : PySem.W.nsIn K mainGlobals x = some (some (.ref C)) := by
  unfold addrOf at e
  split at e
  · rename_i q; cases e; exact q
  · cases e
theorem cls_inv {c : Nat} {C : Addr} {fs : List Str} (e : (mkG recs errs K).cls c = some (C, fs)) : ∃ p, recs[c]? = some p ∧ PySem.W.nsIn K mainGlobals p.1 = some (some (.ref C)) ∧ p.2 = fs := by
  obtain ⟨p, h1, h2⟩ := Option.bind_eq_some_iff.mp (show (recs[c]?).bind (fun p => (addrOf K p.1).map fun a => (a, p.2)) = some (C, fs) from e)
  obtain ⟨a, h3, h4⟩ := Option.map_eq_some_iff.mp h2
  cases h4
  exact ⟨p, h1, of_addr h3, rfl⟩
theorem cls_of {c : Nat} {p : Str × List Str} {C : Addr} (h1 : recs[c]? = some p) (e : PySem.W.nsIn K mainGlobals p.1 = some (some (.ref C))) : (mkG recs errs K).cls c = some (C, p.2) := by
  show (recs[c]?).bind (fun p => (addrOf K p.1).map fun a => (a, p.2)) = _
  rw [h1, Option.bind_some, addr_of e]; rfl
/-- a record's text -/
structure RecT (p : Str × List Str) (qual : Str) (st : Stmt) (N : List Str) : Prop where
  sc : FnScope N N (defScope st)
  len : N.length = p.2.length + 1
  nd : p.2.Nodup
  h100 : p.2.length ≤ 100
  ck : initB ⟨N, defScope st, fun _ => true⟩ 1 p.2 (defBody st) = true
  bd : ∀ (kV doc pm : Value) (an : Option Addr) (cdv ct : Value) (us : List Value), us.length = N.length → bindArgs (PySem.W.fnOf ("__init__" : Str) qual (defArgs st) (defBody st) (defScope st) .none kV doc pm an cdv ct) ⟨us, []⟩ = pure (N.zip us)
theorem base_of' {base : Heap} (X : K.In h) (G : h.Ns mainGlobals mg)
    (hr : ∀ (c : Nat) p, recs[c]? = some p → ∃ qual st N, RecAt K p.1 p.2 qual st ∧ RecT p qual st N) (ap : ∀ (c d : Nat) (p q : Str × List Str), recs[c]? = some p → recs[d]? = some q → c ≠ d → Apart K p.1 q.1) (ar : ∀ c : Nat, P.ar c = (recs[c]?).map (·.2.length))
    (ers : ∀ x ∈ errs, ErrAt prog K x.2) (hds : ∀ p ∈ hns, HndAt K errs p.1 p.2) (msu : NoneAt K "super")
    (bn : ∀ x ∈ bNames, NoneAt K x) (gl : ∀ x d, P.glob x = some d → ∃ i, d = .int i ∧ IntAt K (Str.ofString x) i) (fn : ∀ f F, P.fn f = some F → ∃ N st, DefAt K (Str.ofString f) st ∧ DefT (mkT recs errs hns) P f F N st) : Base (mkG recs errs K) (mkT recs errs hns) P prog w mg base := by
  have rec_ : ∀ {c C fs}, (mkG recs errs K).cls c = some (C, fs) → ∃ p qual st N fi, recs[c]? = some p ∧ p.2 = fs ∧ PySem.W.nsIn K mainGlobals p.1 = some (some (.ref C)) ∧ ClsOk K C fs ∧ Mk K C fi ∧ FnAt K ("__init__" : Str) qual fi st ∧ RecT p qual st N ∧
      (∀ a ∈ ["int", "bool", "str", "NoneType", "tuple"], PySem.W.kitOne K (.type a) (.ref C) = some false) ∧ ∀ a ∈ ["int", "bool", "tuple", "str"], PySem.W.kitOne K (.ref C) (.type a) = some false := fun {c C fs} e => by
    obtain ⟨p, h1, h2, rfl⟩ := cls_inv e
    obtain ⟨qual, st, N, RA, RT⟩ := hr c p h1
    obtain ⟨C', fi, a1, a2, a3, a4, a5, a6⟩ := RA.ex
    rw [h2] at a1; cases a1
    exact ⟨p, qual, st, N, fi, h1, rfl, h2, a2, a3, a4, RT, a5, a6⟩
  have kb : ∀ a b, a ∈ ["int", "bool", "str", "NoneType", "tuple"] → b ∈ ["int", "bool", "tuple", "str"] → PySem.W.kitOne K (.type a) (.type b) = some (a == b || (a == "bool" && b == "int")) := fun a b ha hb => by
    simp only [List.mem_cons, List.not_mem_nil, or_false] at ha hb
    rcases ha with rfl | rfl | rfl | rfl | rfl <;> rcases hb with rfl | rfl | rfl | rfl <;> exact kit_ty (by decide +kernel)
  refine ⟨fun c C fs e => ?_, fun t c S b ht p hp hb => ?_, fun t c k C fs ht e => ?_, fun x hx => PySem.W.mg_none_of X G (bn x hx), fun x d e => ?_, fun c fl e => ?_, fun x c e => ?_, fun x c e => ?_, fun c C e => ?_, fun x ids e => ?_, PySem.W.mg_none_of X G msu, fun c n e => ?_, fun f F hF => ?_⟩
  · obtain ⟨p, qual, st, N, fi, _, _, _, a2, _⟩ := rec_ e
    exact a2
  · have fin : ∀ a ∈ ["int", "bool", "str", "NoneType", "tuple"], ∀ d : D, (isaD S t d = match t with
        | .int => some (a == "int" || a == "bool") | .bool => some (a == "bool") | .tuple => some (a == "tuple") | .str => some (a == "str") | .cls _ => some false) → isaD S t d = some b → PySem.W.kitOne K (.type a) c = some b := fun a ha d hd hb => by
      rw [hd] at hb
      cases t with
      | cls k =>
        obtain ⟨q, h1, h2⟩ := Option.map_eq_some_iff.mp (show ((mkG recs errs K).cls k).map (fun p => Value.ref p.1) = some c from ht)
        obtain ⟨C, fs⟩ := q
        obtain ⟨p, qual, st, N, fi, _, _, _, _, _, _, _, a5, _⟩ := rec_ h1
        cases hb
        subst h2
        exact a5 a ha
      | int =>
        cases ht
        have := kb a "int" ha (by simp)
        rw [this]
        simp only [List.mem_cons, List.not_mem_nil, or_false] at ha
        rcases ha with rfl | rfl | rfl | rfl | rfl <;> exact hb
      | bool =>
        cases ht
        have := kb a "bool" ha (by simp)
        rw [this]
        simp only [List.mem_cons, List.not_mem_nil, or_false] at ha
        rcases ha with rfl | rfl | rfl | rfl | rfl <;> exact hb
      | tuple =>
        cases ht
        have := kb a "tuple" ha (by simp)
        rw [this]
        simp only [List.mem_cons, List.not_mem_nil, or_false] at ha
        rcases ha with rfl | rfl | rfl | rfl | rfl <;> exact hb
      | str =>
        cases ht
        have := kb a "str" ha (by simp)
        rw [this]
        simp only [List.mem_cons, List.not_mem_nil, or_false] at ha
        rcases ha with rfl | rfl | rfl | rfl | rfl <;> exact hb
    unfold kinds at hp
    simp only [List.mem_cons, List.not_mem_nil, or_false] at hp
    rcases hp with rfl | rfl | rfl | rfl | rfl
    · exact fin "int" (by simp) (.int 0) (by cases t <;> rfl) hb
    · exact fin "bool" (by simp) (.bl true) (by cases t <;> rfl) hb
    · exact fin "str" (by simp) (.str ⟨#[]⟩) (by cases t <;> rfl) hb
    · exact fin "NoneType" (by simp) .non (by cases t <;> rfl) hb
    · exact fin "tuple" (by simp) (.tup []) (by cases t <;> rfl) hb
  · obtain ⟨p, qual, st, N, fi, h1, h2, h3, _, _, _, _, _, a6⟩ := rec_ e
    cases t with
    | cls j =>
      obtain ⟨q, h4, h5⟩ := Option.map_eq_some_iff.mp (show ((mkG recs errs K).cls j).map (fun p => Value.ref p.1) = some c from ht)
      obtain ⟨D, fs'⟩ := q
      obtain ⟨p', g1, g2, g3⟩ := cls_inv h4
      subst h5
      by_cases hj : k = j
      · subst hj
        rw [h1] at g1; cases g1
        rw [h3] at g2; cases g2
        unfold PySem.W.kitOne
        rw [if_pos (beq_self_eq_true _)]
        have : (Ty.cls k == Ty.cls k) = true := by simp
        rw [this]
      · obtain ⟨C', D', q1, q2, q3⟩ := ap k j p p' h1 g1 hj
        rw [h3] at q1; cases q1
        rw [g2] at q2; cases q2
        rw [show (mkG recs errs K).K = K from rfl, q3]
        have : (Ty.cls j == Ty.cls k) = false := by
          rw [beq_eq_false_iff_ne]
          intro z; cases z; exact hj rfl
        rw [this]
    | int => cases ht; exact a6 "int" (by simp)
    | bool => cases ht; exact a6 "bool" (by simp)
    | tuple => cases ht; exact a6 "tuple" (by simp)
    | str => cases ht; exact a6 "str" (by simp)
  · obtain ⟨i, rfl, t, ht⟩ := gl x d e
    exact ⟨.int i, .int i t, PySem.W.mg_of X G ht, ⟨t, rfl⟩, fun φ H => .int i⟩
  · obtain ⟨p, h1, h2⟩ := Option.map_eq_some_iff.mp (show (recs[c]?).map (·.2) = some fl from e)
    subst h2
    obtain ⟨qual, st, N, RA, RT⟩ := hr c p h1
    obtain ⟨C, fi, a1, _⟩ := RA.ex
    exact ⟨C, cls_of h1 a1⟩
  · obtain ⟨hlt, hx, _⟩ := List.findIdx?_eq_some_iff_getElem.mp (show recs.findIdx? (fun p => p.1 == x) = some c from e)
    have h1 : recs[c]? = some recs[c] := List.getElem?_eq_getElem hlt
    obtain ⟨qual, st, N, RA, RT⟩ := hr c _ h1
    obtain ⟨C, fi, a1, _⟩ := RA.ex
    have hx' : recs[c].1 = x := by simpa using hx
    exact ⟨C, _, cls_of h1 a1, by rw [← hx']; exact PySem.W.mg_of X G a1⟩
  · obtain ⟨y, h0, rfl⟩ := Option.map_eq_some_iff.mp (show (errs.find? fun y => y.2 == x && (errs.lookup y.1 == some x)).map (·.1) = some c from e)
    have h2 := List.find?_some h0
    simp only [Bool.and_eq_true, beq_iff_eq] at h2
    have h1 := h2.2
    obtain ⟨C, D, fI, a1, a2⟩ := ers y (List.mem_of_find?_eq_some h0)
    rw [h2.1] at a1
    refine ⟨C, D, fI, ?_, PySem.W.mg_of X G a1, a2⟩
    show (errs.lookup y.1).bind (addrOf K) = some C
    rw [h1, Option.bind_some, addr_of a1]
  · obtain ⟨x, h1, h2⟩ := Option.bind_eq_some_iff.mp (show (errs.lookup c).bind (addrOf K) = some C from e)
    obtain ⟨C', D, fI, a1, a2⟩ := ers (c, x) (mem_lk h1)
    rw [addr_of a1] at h2
    cases h2
    exact ⟨⟨a2.ga, a2.gg, a2.exC, a2.hdC⟩, a2.noN⟩
  · obtain ⟨cv, a1, a2⟩ := hds (x, ids) (mem_lk e)
    refine ⟨.ref cv, PySem.W.mg_of X G a1, fun c C e => ?_⟩
    obtain ⟨y, h1, h2⟩ := Option.bind_eq_some_iff.mp (show (errs.lookup c).bind (addrOf K) = some C from e)
    exact a2 c y h1 C h2
  · rw [ar] at e
    obtain ⟨p, h1, h2⟩ := Option.map_eq_some_iff.mp e
    obtain ⟨qual, st, N, RA, RT⟩ := hr c p h1
    obtain ⟨C, fi, a1, a2, a3, a4, _⟩ := RA.ex
    obtain ⟨oc, od, kV, dc, pm, an, cd, ct, sl, l, cc, kk⟩ := a4
    have F1 := fun_mk (st := st) l cc kk
    refine ⟨C, p.2, cls_of h1 a1, h2, fi, _, N, a3, init_ok F1 RT.sc a2.cl a2.na RT.nd RT.h100 RT.len RT.ck, F1.binds fun kV doc pm an cdv ct us hu => RT.bd kV doc pm an cdv ct us hu⟩
  · obtain ⟨N, st, D, t⟩ := fn f F hF
    exact fnD_of X G D t
/-- the run of the law at a script is all that is asked -/
theorem law_sp {K : PySem.W.Frag} {recs : List (Str × List Str)} {errs : List (Nat × Str)} {k : Nat} {H : Hp} {a : Addr} {ns : List Int} (hO : Only H) (hS : SqL K H a (ns.map V.int)) (hrun : ∃ S, callN P k "law" [.scr ns] [] = some (.val (.bl true) S)) : spI (mkG recs errs K) P k "law" [.ref a] H (fun v _ => v = .bl true) fun _ _ _ => False := by
  obtain ⟨S, hr⟩ := hrun
  have hF : SqF K H a (ns.map V.int) := by
    rcases hS with hS | hS
    · rcases hS with e | ⟨o, e⟩
      · rcases hO a with z | ⟨o, xs, z⟩
        · rw [z] at e; cases e
        · rw [z] at e; cases e
      · exact .inl ⟨o, e⟩
    · exact .inr hS
  refine ⟨[], [], [.scr ns], ⟨rfl, .nil, fun n a o e _ => by simp at e⟩, .one (.scr hF), ?_⟩
  rw [hr]
  intro φ' H' x k r
  cases r
  rfl
/-- the law's own def, over any base -/
theorem law_of {k : Nat} {F : IFun} {st : Stmt} {fa : Addr} (X : K.In h) (G : h.Ns mainGlobals mg) (hfa : mg ("law" : Str) = some (.ref fa)) (B : ∀ base, Base (mkG recs errs K) (mkT recs errs hns) P prog w mg base) (hF : P.fn "law" = some F)
    {N : List Str} (D : DefAt K ("law" : Str) st) (hN : N.take F.np = [Str.ofString "script"]) (t : DefT (mkT recs errs hns) P "law" F N st) :
    ∃ fd : FuncData, (∀ (s : Shared) (u : Value), BindsTo s fd ⟨[u], []⟩ [(("script" : Str), u)]) ∧
        ∀ base : Heap, K.In base → base.Ns mainGlobals mg → FnOk prog w K mg base (L2.CX prog w) (k + 1) fa fd [("script" : Str)] (spI (mkG recs errs K) P (k + 1) "law") := by
  obtain ⟨fa', a, oc, od, kV, dc, pm, an, cd, ct, sl, l, c, kk⟩ := D
  have e := hfa.symm.trans (PySem.W.mg_of X G a)
  cases e
  have F1 := fun_mk (st := st) l c kk
  refine ⟨PySem.W.fnOf ("law" : Str) ("law" : Str) (defArgs st) (defBody st) (defScope st) .none kV dc pm an cd ct, fun s u => .of_eq ?_, fun base _ _ => ?_⟩
  · have := t.bd kV dc pm an cd ct [u] (by rw [hN]; rfl)
    rw [hN] at this
    exact this
  · have hl : (N.take F.np).length = F.np := by rw [List.length_take]; exact Nat.min_eq_left t.np
    have := fn_step (B base) (cal_of (B base) k) hF F1 t.sc hl.symm t.ns t.ck
    rw [hN] at this
    exact this
end
end PL
set_option Elab.async false
set_option linter.all false
set_option maxRecDepth 100000
namespace PL
open PySem PySem.Spec PyProof.Rows L2
theorem initTxt_mk {prog : Program} {K : PySem.W.Frag} {D fI : Addr} {oc : Value} {od : Option Addr} {kV doc pm : Value} {an : Option Addr} {cda cc : Addr} {ct : Value} {osl : Array (Option Value)} {p1 p2 q1 q2 q3 q4 q5 q6 q7 q8 q9 q10 : Pos} {ccl : Value} {cdd : Option Addr} {vs : Array Value} {ccs : Array (Option Value)} {file : Str} {tf : Tok} {cl : Value} {cld : Option Addr} {csl : Array (Option Value)} {cdD : ClassData}
    (l1 : K.lookup fI = some ⟨oc, od, .func (PySem.W.ksFn "__init__" "Refused.__init__" (PySem.ErrX.iA p1 p2) (PySem.ErrX.iB q1 q2 q3 q4 q5 q6 q7 q8 q9 q10) PySem.ErrX.iS .none kV doc pm an (.ref cda) ct cc), osl⟩) (c1 : PySem.W.codeIn K (.ref cda) "Refused.__init__" = true)
    (l2 : K.lookup cda = some ⟨ccl, cdd, .fields vs, ccs⟩) (v2 : vs[2]? = some (.str file tf)) (fl : ((prog.main.file : Str) == file) = true) (l3 : K.lookup cc = some ⟨cl, cld, .cell (some (.ref D)), csl⟩) (cD : PySem.W.clsIn K D = some cdD) (ln : (q3.endLine == q5.line) = true)
    (nsu : PySem.W.nsIn K mainGlobals "super" = some none) (tp : PySem.W.nsIn K cStatics "thirdparty.any" = some none) (top : (prog.main.scope.names.lookup ("super" : Str)).isSome = false) : PySem.ErrX.InitTxt prog K D fI :=
  ⟨⟨_, _, _, _, _, _, _, _, _, _, _, _, _, _, _, _, _, _, _, _, _, _, _, _, _, _, _, _, _, _, _, _, l1, c1, l2, v2, fl, l3, cD, ln⟩, nsu, tp, top⟩
theorem errAt_mk {prog : Program} {K : PySem.W.Frag} {x : Str} {C D fI : Addr} {nm q : Str} {N : Addr} {bs bm : List Value} {sn : List Str} {sub : List Value} {ab : Bool} {col : Option Bool} {dd : Option Addr} {k0 k1 k2 k3 k5 : Option Value}
    (a : PySem.W.nsIn K mainGlobals x = some (some (.ref C))) (iC : PySem.W.findIn K (.ref C) "__init__" = some (some (.ref fI))) (I : PySem.ErrX.InitTxt prog K D fI) (xL : K.lookup C = some (excClassObj nm q C N bs bm true sn sub ab col dd k0 k1 k2 k3 k5 "ValueError.__new__")) (bmv : PySem.HandSPX.refsVE bm = true)
    (sa : PySem.W.findIn K (.ref C) "__setattr__" = some (some (.builtin "object.__setattr__"))) (ga : PySem.W.findIn K (.ref C) "__getattribute__" = some (some (.builtin "BaseException.__getattribute__"))) (gg : PySem.W.findIn K (.ref C) "__getattr__" = some none) (noN : PySem.W.findIn K (.ref C) "what" = some none)
    (tC : PySem.W.typeIn K (.ref fI) = some (.type "function")) (kC : PySem.W.keepIn K (.ref C) = true) (exC : PySem.W.subIn K (.ref C) (.type "BaseException") = some true) (veC : PySem.W.subIn K (.ref C) (.type "ValueError") = some true) (tyC : PySem.W.typeIn K (.ref C) = some (.type "type")) (hdC : PySem.W.hasDictIn K C = true)
    (sup : PySem.W.ks_superIn K C D "__init__" = some (some (.builtin "ValueError.__init__"))) (mro : PySem.W.mroIn K C (.ref D) = some true) : ErrAt prog K x :=
  ⟨C, D, fI, a, ⟨I, ⟨_, _, _, _, _, _, _, _, _, _, _, _, _, _, _, xL, bmv⟩, sa, ga, gg, noN, iC, tC, kC, exC, veC, tyC, hdC, sup, mro⟩⟩
/-- a class that a clause names -/
def ClsAt (K : PySem.W.Frag) (x : Str) : Prop := ∃ cv, PySem.W.nsIn K mainGlobals x = some (some (.ref cv)) ∧ PySem.W.subIn K (.ref cv) (.type "BaseException") = some true ∧ PySem.W.hasDictIn K cv = true ∧ PySem.W.typeIn K (.ref cv) = some (.type "type")
theorem clsAt_mk {K : PySem.W.Frag} {x : Str} {cv : Addr} (a : PySem.W.nsIn K mainGlobals x = some (some (.ref cv))) (h1 : PySem.W.subIn K (.ref cv) (.type "BaseException") = some true) (h2 : PySem.W.hasDictIn K cv = true) (h3 : PySem.W.typeIn K (.ref cv) = some (.type "type")) : ClsAt K x := ⟨cv, a, h1, h2, h3⟩
/-- whether one class stands under another one -/
def SubAt (K : PySem.W.Frag) (y x : Str) (b : Bool) : Prop := ∃ C cv, PySem.W.nsIn K mainGlobals y = some (some (.ref C)) ∧ PySem.W.nsIn K mainGlobals x = some (some (.ref cv)) ∧ PySem.W.subIn K (.ref C) (.ref cv) = some b
theorem subAt_mk {K : PySem.W.Frag} {y x : Str} {b : Bool} {C cv : Addr} (h1 : PySem.W.nsIn K mainGlobals y = some (some (.ref C))) (h2 : PySem.W.nsIn K mainGlobals x = some (some (.ref cv))) (h3 : PySem.W.subIn K (.ref C) (.ref cv) = some b) : SubAt K y x b := ⟨C, cv, h1, h2, h3⟩
theorem hndAt_of {K : PySem.W.Frag} {errs : List (Nat × Str)} {x : Str} {ids : List Nat} (a : ClsAt K x) (h : ∀ (c : Nat) y, errs.lookup c = some y → SubAt K y x (decide (c ∈ ids))) : HndAt K errs x ids := by
  obtain ⟨cv, a1, a2, a3, a4⟩ := a
  refine ⟨cv, a1, fun c y hy C hC => ?_⟩
  obtain ⟨C', cv', b1, b2, b3⟩ := h c y hy
  rw [addr_of b1] at hC
  cases hC
  rw [a1] at b2
  cases b2
  exact PySem.W.exm_ref a2 a3 a4 b3
end PL
set_option Elab.async false
set_option linter.all false
set_option maxRecDepth 100000
namespace PL
open PySem PySem.Spec PyProof.Rows L2
/-! ### runs of the small language, made plain -/
theorem cmpR_val (S : Store) (d : D) (S1 : Store) : cmpR S (some (.val d S1)) = some (.val (compact S (d, S1)).1 (compact S (d, S1)).2) := rfl
theorem tstR_val (S : Store) (d : D) (S1 : Store) : tstR S (some (.val d S1)) = (truthD S1 d).map fun b => .val b (compact S (.bl b, S1)).2 := rfl
theorem finR_rt (S : Store) (d : D) (S1 : Store) : finR S (some (.rt d S1)) = some (.val (compact S (d, S1)).1 (compact S (d, S1)).2) := rfl
theorem finR_nx (S : Store) (env : Env) (S1 : Store) : finR S (some (.nx env S1)) = some (.val .non (compact S (.non, S1)).2) := rfl
theorem ofO_some (p : D × Store) : ofO (some p) = some (.val p.1 p.2) := rfl
theorem kept_app (S T : Store) : Kept S (S ++ T) := ⟨by simp, fun n o h e => by
  rw [List.getElem?_append_left h] at e; exact .inl e⟩
theorem kept_self (S : Store) : Kept S S := ⟨Nat.le_refl _, fun n o h e => .inl e⟩
theorem compact_pure {S S' : Store} {d : D} (hk : Kept S S') (hp : d.pure = true) : compact S (d, S') = (d, S'.take S.length) := by
  unfold compact
  rw [if_pos hk, if_pos hp]
theorem compact_self {d : D} (S : Store) (hp : d.pure = true) : compact S (d, S) = (d, S) := by
  rw [compact_pure (kept_self S) hp, List.take_length]
theorem compact_app {d : D} (S T : Store) (hp : d.pure = true) : compact S (d, S ++ T) = (d, S) := by
  rw [compact_pure (kept_app S T) hp, List.take_left]
/-- an old place stays an old place -/
theorem compact_old {S S' : Store} {n : Nat} (hk : Kept S S') (hn : n < S.length) : compact S (.loc n, S') = (.loc n, S'.take S.length) := by
  unfold compact
  rw [if_pos hk, if_neg (by simp [D.pure])]
  dsimp only
  rw [if_pos hn]
theorem compact_loc {n : Nat} (S : Store) (hn : n < S.length) : compact S (.loc n, S) = (.loc n, S) := by
  rw [compact_old (kept_self S) hn, List.take_length]
/-- a new place that holds pure things -/
theorem compact_new {S S' : Store} {n : Nat} {o : O} (hk : Kept S S') (hn : S.length ≤ n) (ho : S'[n]? = some o) (hp : o.pure = true) : compact S (.loc n, S') = (.loc S.length, S'.take S.length ++ [o]) := by
  unfold compact
  rw [if_pos hk, if_neg (by simp [D.pure])]
  dsimp only
  rw [if_neg (by omega), ho]
  dsimp only
  rw [if_pos hp]
theorem compact_new0 {o : O} (S : Store) (hp : o.pure = true) : compact S (.loc S.length, S ++ [o]) = (.loc S.length, S ++ [o]) := by
  rw [compact_new (kept_app S [o]) (Nat.le_refl _) (by simp) hp, List.take_left]
/-- the first place written -/
theorem kept_head {o o' : O} (R T : Store) (ho : o'.pure = true) : Kept (o :: R) (o' :: (R ++ T)) := ⟨by simp, fun n p h e => by
  cases n with
  | zero => simp at e; subst e; exact .inr ho
  | succ n =>
    left
    simp only [List.length_cons, Nat.add_lt_add_iff_right] at h
    simp only [List.getElem?_cons_succ] at e ⊢
    rw [List.getElem?_append_left h] at e
    exact e⟩
theorem kept_head0 {o o' : O} (R : Store) (ho : o'.pure = true) : Kept (o :: R) (o' :: R) := by
  have := kept_head (o := o) R [] ho
  rwa [List.append_nil] at this
theorem compact_head {o o' : O} {d : D} (R T : Store) (ho : o'.pure = true) (hp : d.pure = true) : compact (o :: R) (d, o' :: (R ++ T)) = (d, o' :: R) := by
  rw [compact_pure (kept_head R T ho) hp]
  simp
theorem compact_head0 {o o' : O} {d : D} (R : Store) (ho : o'.pure = true) (hp : d.pure = true) : compact (o :: R) (d, o' :: R) = (d, o' :: R) := by
  rw [compact_pure (kept_head0 R ho) hp]
  simp
theorem compact_headN {o o' p : O} (R : Store) (ho : o'.pure = true) (hp : p.pure = true) : compact (o :: R) (.loc (R.length + 1), o' :: (R ++ [p])) = (.loc (R.length + 1), o' :: (R ++ [p])) := by
  rw [compact_new (kept_head R [p] ho) (by simp) (o := p) (by simp) hp]
  simp

/-! ### loops -/
theorem compI_fm {f : D → Store → Option (Option D × Store)} {src : Src} {S : Store} (h : D → Option D) (hok : src.ok S) : ∀ (l acc : List D), (∀ d ∈ l, f d S = some (h d, S)) → acc.length + l.length ≤ line → compI f src l acc S = some (acc ++ l.filterMap h, S)
  | [], acc, _, _ => by
    unfold compI
    rw [if_pos hok]; simp
  | d :: r, acc, hf, hl => by
    unfold compI
    rw [if_pos hok, hf d List.mem_cons_self]
    have ih := fun acc => compI_fm h hok r acc (fun x hx => hf x (List.mem_cons_of_mem _ hx))
    cases e : h d with
    | none =>
      dsimp only
      rw [ih acc (by simp only [List.length_cons] at hl; omega), List.filterMap_cons, e]
    | some x =>
      dsimp only
      rw [if_pos (by simp only [List.length_cons] at hl; omega), ih (acc ++ [x]) (by simp only [List.length_cons, List.length_append, List.length_nil] at hl ⊢; omega), List.filterMap_cons, e]
      simp
theorem compI_map {f : D → Store → Option (Option D × Store)} {src : Src} {S : Store} (h : D → D) (hok : src.ok S) (l : List D) (hf : ∀ d ∈ l, f d S = some (some (h d), S)) (hl : l.length ≤ line) : compI f src l [] S = some (l.map h, S) := by
  rw [compI_fm (fun d => some (h d)) hok l [] hf (by simpa using hl)]
  simp
/-- a comprehension whose turns change the store -/
theorem compI_st {f : D → Store → Option (Option D × Store)} {src : Src} {Inv : Store → Prop} {Q : D → D → Prop} (hok : ∀ S, Inv S → src.ok S) : ∀ (l acc : List D) (S : Store), (∀ d ∈ l, ∀ S, Inv S → ∃ x S', f d S = some (some x, S') ∧ Inv S' ∧ Q d x) → Inv S → acc.length + l.length ≤ line →
    ∃ ds S', compI f src l acc S = some (acc ++ ds, S') ∧ Inv S' ∧ Paired Q l ds
  | [], acc, S, _, hi, _ => ⟨[], S, by unfold compI; rw [if_pos (hok S hi)]; simp, hi, .nil⟩
  | d :: r, acc, S, hf, hi, hl => by
    obtain ⟨x, S1, h1, h2, h3⟩ := hf d List.mem_cons_self S hi
    simp only [List.length_cons] at hl
    obtain ⟨ds, S2, h4, h5, h6⟩ := compI_st hok r (acc ++ [x]) S1 (fun y hy => hf y (List.mem_cons_of_mem _ hy)) h2 (by simp only [List.length_append, List.length_cons, List.length_nil]; omega)
    refine ⟨x :: ds, S2, ?_, h5, .cons h3 h6⟩
    unfold compI
    rw [if_pos (hok S hi), h1]
    dsimp only
    rw [if_pos (by omega), h4]
    simp
theorem forI_inv {f : D → Env → Store → Option SR} {src : Src} {Inv : List D → Env → Store → Prop} (hs : ∀ d r env S, Inv (d :: r) env S → src.ok S ∧ ∃ env' S', (f d env S = some (.nx env' S') ∨ f d env S = some (.ct env' S')) ∧ Inv r env' S') (h0 : ∀ env S, Inv [] env S → src.ok S) :
    ∀ (l : List D) (env : Env) (S : Store), Inv l env S → ∃ env' S', forI f src l env S = some (.nx env' S') ∧ Inv [] env' S'
  | [], env, S, hi => ⟨env, S, by unfold forI; rw [if_pos (h0 env S hi)], hi⟩
  | d :: r, env, S, hi => by
    obtain ⟨hok, env1, S1, h1, h2⟩ := hs d r env S hi
    obtain ⟨env2, S2, h3, h4⟩ := forI_inv hs h0 r env1 S1 h2
    refine ⟨env2, S2, ?_, h4⟩
    unfold forI
    rw [if_pos hok]
    rcases h1 with h1 | h1 <;> rw [h1] <;> exact h3
theorem whileI_inv {t : Env → Store → Option (R Bool)} {b : Env → Store → Option SR} {Inv : Env → Store → Prop} {Post : Env → Store → Prop} (μ : Env → Store → Nat)
    (hs : ∀ env S, Inv env S → (∃ S1, t env S = some (.val false S1) ∧ Post env S1) ∨ ∃ S1 env' S', t env S = some (.val true S1) ∧ (b env S1 = some (.nx env' S') ∨ b env S1 = some (.ct env' S')) ∧ Inv env' S' ∧ μ env' S' < μ env S) :
    ∀ (n : Nat) (env : Env) (S : Store), μ env S < n → Inv env S → ∃ env' S', whileI t b n env S = some (.nx env' S') ∧ Post env' S'
  | 0, env, S, h, _ => by omega
  | n + 1, env, S, h, hi => by
    unfold whileI
    rcases hs env S hi with ⟨S1, h1, h2⟩ | ⟨S1, env1, S2, h1, h2, h3, h4⟩
    · rw [h1, sbnd_val, if_neg (by decide)]
      exact ⟨env, S1, rfl, h2⟩
    · rw [h1, sbnd_val, if_pos rfl]
      obtain ⟨env3, S3, h5, h6⟩ := whileI_inv μ hs n env1 S2 (by omega) h3
      refine ⟨env3, S3, ?_, h6⟩
      rcases h2 with h2 | h2 <;> rw [h2] <;> exact h5
end PL
set_option Elab.async false
set_option linter.all false
set_option maxRecDepth 100000
namespace PL
open PySem PySem.Spec PyProof.Rows L2
/-! ### steps of a run -/
section
variable {ix : Ix} {env env' : Env} {S S1 S2 S3 S4 : Store} {a b c e t : IE} {es : IEs} {x y z d d' : D} {ds ds' : List D} {o : BOp} {p : COp} {r : ICh} {R : Option (PL.R D)} {n i : Int} {bb : Bool}
theorem ev_slot {j : Nat} (h : env[j]? = some (some d)) : evE ix (.slot j) env S = some (.val d S) := by unfold evE; rw [h]
theorem ev_cst : evE ix (.cst d) env S = some (.val d S) := by unfold evE; rfl
theorem ev_glob {f : String} (h : ix.glob f = some d) : evE ix (.glob f) env S = some (.val d S) := by unfold evE; rw [h]; rfl
theorem ev_bin (h1 : evE ix a env S = some (.val x S1)) (h2 : evE ix b env S1 = some (.val y S2)) (h3 : binD o x y S2 = some (z, S3)) : evE ix (.bin o a b) env S = some (.val z S3) := by unfold evE; rw [h1, bnd_val, h2, bnd_val, h3]; rfl
theorem ev_neg (h1 : evE ix a env S = some (.val (.int i) S1)) : evE ix (.neg a) env S = some (.val (.int (-i)) S1) := by unfold evE; rw [h1, bnd_val]
theorem ev_not_t (h1 : evE ix a env S = some (.val x S1)) (h2 : truthD S1 x = some true) : evE ix (.not a) env S = some (.val (.bl false) S1) := by unfold evE; rw [h1, bnd_val, h2]; rfl
theorem ev_not_f (h1 : evE ix a env S = some (.val x S1)) (h2 : truthD S1 x = some false) : evE ix (.not a) env S = some (.val (.bl true) S1) := by unfold evE; rw [h1, bnd_val, h2]; rfl
theorem ev_cmp (h1 : evE ix a env S = some (.val x S1)) (h2 : evE ix b env S1 = some (.val y S2)) (h3 : cmpD p x y S2 = some bb) : evE ix (.cmp p a b) env S = some (.val (.bl bb) S2) := by unfold evE; rw [h1, bnd_val, h2, bnd_val, h3]
theorem ev_chn (h1 : evE ix a env S = some (.val x S1)) (h2 : evCh ix x r env S1 = R) : evE ix (.chn a r) env S = R := by unfold evE; rw [h1, bnd_val, h2]
theorem ch_last (h1 : evE ix c env S = some (.val y S1)) (h2 : cmpD p x y S1 = some bb) : evCh ix x (.last p c) env S = some (.val (.bl bb) S1) := by unfold evCh; rw [h1, bnd_val, h2]
theorem ch_more_t (h1 : evE ix c env S = some (.val y S1)) (h2 : cmpD p x y S1 = some true) (h3 : evCh ix y r env S1 = R) : evCh ix x (.more p c r) env S = R := by unfold evCh; rw [h1, bnd_val, h2]; exact h3
theorem ch_more_f (h1 : evE ix c env S = some (.val y S1)) (h2 : cmpD p x y S1 = some false) : evCh ix x (.more p c r) env S = some (.val (.bl false) S1) := by unfold evCh; rw [h1, bnd_val, h2]
theorem ev_and_t (h1 : evE ix a env S = some (.val x S1)) (h2 : truthD S1 x = some true) (h3 : evE ix b env S1 = R) : evE ix (.and a b) env S = R := by unfold evE; rw [h1, bnd_val, h2]; exact h3
theorem ev_and_f (h1 : evE ix a env S = some (.val x S1)) (h2 : truthD S1 x = some false) : evE ix (.and a b) env S = some (.val x S1) := by unfold evE; rw [h1, bnd_val, h2]
theorem ev_or_t (h1 : evE ix a env S = some (.val x S1)) (h2 : truthD S1 x = some true) : evE ix (.or a b) env S = some (.val x S1) := by unfold evE; rw [h1, bnd_val, h2]
theorem ev_or_f (h1 : evE ix a env S = some (.val x S1)) (h2 : truthD S1 x = some false) (h3 : evE ix b env S1 = R) : evE ix (.or a b) env S = R := by unfold evE; rw [h1, bnd_val, h2]; exact h3
theorem ev_ite_t (h1 : evE ix t env S = some (.val x S1)) (h2 : truthD S1 x = some true) (h3 : evE ix a env S1 = R) : evE ix (.ite t a b) env S = R := by unfold evE; rw [h1, bnd_val, h2]; exact h3
theorem ev_ite_f (h1 : evE ix t env S = some (.val x S1)) (h2 : truthD S1 x = some false) (h3 : evE ix b env S1 = R) : evE ix (.ite t a b) env S = R := by unfold evE; rw [h1, bnd_val, h2]; exact h3
theorem es_nil : evEs ix .nil env S = some (.val [] S) := by unfold evEs; rfl
theorem es_cons (h1 : evE ix a env S = some (.val x S1)) (h2 : evEs ix es env S1 = some (.val ds S2)) : evEs ix (.cons a es) env S = some (.val (x :: ds) S2) := by unfold evEs; rw [h1, bnd_val, h2, bnd_val]
theorem ev_tup (h1 : evEs ix es env S = some (.val ds S1)) (h2 : ds.length ≤ line) : evE ix (.tup es) env S = some (.val (.tup ds) S1) := by unfold evE; rw [h1, bnd_val, if_pos h2]
theorem ev_lst (h1 : evEs ix es env S = some (.val ds S1)) (h2 : ds.length ≤ line) : evE ix (.lst es) env S = some (.val (.loc S1.length) (S1 ++ [.lst ds])) := by unfold evE; rw [h1, bnd_val, if_pos h2]
theorem ev_dict0 {tt : Bool} : evE ix (.dict tt .nil) env S = some (.val (.loc S.length) (S ++ [.dict tt []])) := by unfold evE; rfl
theorem ev_idx (h1 : evE ix a env S = some (.val x S1)) (h2 : evE ix b env S1 = some (.val y S2)) (h3 : idxD x y S2 = some (z, S3)) : evE ix (.idx a b) env S = some (.val z S3) := by unfold evE; rw [h1, bnd_val, h2, bnd_val, h3]; rfl
theorem eo_none : evO ix none env S = some (.val none S) := by unfold evO; rfl
theorem eo_some (h : evE ix a env S = some (.val (.int i) S1)) : evO ix (some a) env S = some (.val (some i) S1) := by unfold evO; rw [h, bnd_val]
theorem ev_slc {lo hi : Option IE} {l h : Option Int} (h1 : evE ix a env S = some (.val x S1)) (h2 : evO ix lo env S1 = some (.val l S2)) (h3 : evO ix hi env S2 = some (.val h S3)) (h4 : slcD x l h S3 = some (z, S4)) : evE ix (.slc a lo hi) env S = some (.val z S4) := by
  unfold evE; rw [h1, bnd_val, h2, bnd_val, h3, bnd_val, h4]; rfl
theorem ev_fld {cc k : Nat} (h1 : evE ix a env S = some (.val (.obj cc ds) S1)) (h2 : ds[k]? = some d) : evE ix (.fld a cc k) env S = some (.val d S1) := by unfold evE; rw [h1, bnd_val]; dsimp only; rw [if_pos rfl, h2]; rfl
theorem ev_isa {ty : Ty} (h1 : evE ix a env S = some (.val x S1)) (h2 : isaD S1 ty x = some bb) : evE ix (.isa a ty) env S = some (.val (.bl bb) S1) := by unfold evE; rw [h1, bnd_val, h2]; rfl
theorem ev_call {f : String} (h1 : evEs ix es env S = some (.val ds S1)) (h2 : ix.call f ds S1 = R) : evE ix (.call f es [] []) env S = R := by unfold evE; rw [h1, bnd_val]; exact h2
theorem ev_callK {f : String} {kn : List String} {pm : List Nat} (h1 : evEs ix es env S = some (.val ds S1)) (h3 : permD kn pm ds = some ds') (h2 : ix.call f ds' S1 = R) : evE ix (.call f es kn pm) env S = R := by unfold evE; rw [h1, bnd_val, h3]; exact h2
theorem ev_bif {f : Bif} (h1 : evEs ix es env S = some (.val ds S1)) (h2 : bifD f ds S1 = some (z, S2)) : evE ix (.bif f es) env S = some (.val z S2) := by unfold evE; rw [h1, bnd_val, h2]; rfl
theorem ev_meth {m : Mth} (h1 : evE ix a env S = some (.val x S1)) (hr : recvOk S1 m es.isNil x = true) (h2 : evEs ix es env S1 = some (.val ds S2)) (h3 : methD m x ds S2 = some (z, S3)) : evE ix (.meth m a es) env S = some (.val z S3) := by
  unfold evE; rw [h1, bnd_val, if_pos hr, h2, bnd_val, h3]; rfl
theorem ev_mk {cc : Nat} (h1 : evEs ix es env S = some (.val ds S1)) (h2 : 2 ≤ ix.room) (h3 : ix.ar cc = some ds.length) : evE ix (.mk cc es) env S = some (.val (.obj cc ds) S1) := by unfold evE; rw [h1, bnd_val, if_pos ⟨h2, h3⟩]
theorem ev_comp {tg : ITg} {it : IIt} {cs : IEs} {own : List Nat} {l acc : List D} {src : Src} (h1 : evIt ix it env S = some (.val (l, src) S1)) (h2 : compI (compF ix a tg cs own env) src l [] S1 = some (acc, S2)) (h3 : unlk S2 src = some S3) :
    evE ix (.comp a tg it cs own) env S = some (.val (.loc S3.length) (S3 ++ [.lst acc])) := by
  unfold evE
  rw [h1, bnd_val]
  show ((((compI (compF ix a tg cs own env) src l [] S1).bind fun r => (unlk r.2 src).map fun S2 => (r.1, S2)).map fun r => PL.R.val (D.loc r.2.length) (r.2 ++ [.lst r.1])) : Option (PL.R D)) = _
  rw [h2, Option.bind_some]
  show ((unlk S2 src).map fun S2 => (acc, S2)).map _ = _
  rw [h3]; rfl
theorem unlk_free : unlk S .free = some S := by unfold unlk; exact if_pos True.intro
theorem et_nil : evTs ix .nil env S = some (.val true S) := by unfold evTs; rfl
theorem et_one (h1 : evE ix a env S = some (.val x S1)) (h2 : truthD S1 x = some bb) (h3 : compact S (.bl bb, S1) = (.bl bb, S2)) : evTs ix (.cons a .nil) env S = some (.val bb S2) := by
  rw [evTs1, h1, tstR_val, h2]
  show some (PL.R.val bb (compact S (.bl bb, S1)).2) = _
  rw [h3]
/-- a turn of a comprehension -/
theorem cf_t {tg : ITg} {cs : IEs} {own : List Nat} (h0 : bindT tg d (wipeE env own) = some env') (h1 : evTs ix cs env' S = some (.val true S1)) (h2 : evE ix a env' S1 = some (.val x S2)) (h3 : compact S1 (x, S2) = (y, S3)) : compF ix a tg cs own env d S = some (some y, S3) := by
  unfold compF
  rw [h0]
  dsimp only
  rw [h1]
  dsimp only
  rw [h2, cmpR_val, h3]
theorem cf_f {tg : ITg} {cs : IEs} {own : List Nat} (h0 : bindT tg d (wipeE env own) = some env') (h1 : evTs ix cs env' S = some (.val false S1)) : compF ix a tg cs own env d S = some (none, S1) := by
  unfold compF
  rw [h0]
  dsimp only
  rw [h1]
/-! ### sources -/
theorem it_tup' {l : List D} (h1 : evE ix a env S = some (.val x S1)) (h2 : compact S (x, S1) = (.tup l, S2)) : evIt ix (.val a) env S = some (.val (l, .free) S2) := by
  unfold evIt; rw [h1, bnd_val, h2]; rfl
/-- a new list -/
theorem it_new {l : List D} {m : Nat} (h1 : evE ix a env S = some (.val x S1)) (h2 : compact S (x, S1) = (.loc m, S2)) (h3 : S2[m]? = some (.lst l)) (h4 : S.length ≤ m) (h5 : D.pures l = true) (h6 : Kept S S2) : evIt ix (.val a) env S = some (.val (l, .free) (S2.take S.length)) := by
  unfold evIt; rw [h1, bnd_val, h2]
  unfold itemsOf
  simp only [lstAt, h3]
  rw [if_pos ⟨h4, h5, h6⟩]; rfl
/-- a list that stays -/
theorem it_old {l : List D} {m : Nat} (h1 : evE ix a env S = some (.val x S1)) (h2 : compact S (x, S1) = (.loc m, S2)) (h3 : S2[m]? = some (.lst l)) (h4 : ¬ S.length ≤ m) : evIt ix (.val a) env S = some (.val (l, .list m l) S2) := by
  unfold evIt; rw [h1, bnd_val, h2]
  unfold itemsOf
  simp only [lstAt, h3]
  rw [if_neg (fun z => h4 z.1)]; rfl
theorem it_range1' (h1 : evE ix a env S = some (.val (.int n) S1)) (h2 : okRange n = true) (h3 : compact S (.int n, S1) = (.int n, S2)) : evIt ix (.range1 a) env S = some (.val (rangeD 0 n, .free) S2) := by
  unfold evIt; rw [h1, bnd_val]; dsimp only; rw [if_pos h2, h3]
theorem it_range2' (h1 : evE ix a env S = some (.val (.int i) S1)) (h0 : evE ix b env S1 = some (.val (.int n) S2)) (h2 : (okRange i && okRange n) = true) (h3 : compact S (.int i, S2) = (.int i, S3)) : evIt ix (.range2 a b) env S = some (.val (rangeD i n, .free) S3) := by
  unfold evIt; rw [h1, bnd_val, h0, bnd_val]; dsimp only; rw [if_pos h2, h3]
theorem it_enum_tup {l : List D} (h1 : evE ix a env S = some (.val x S1)) (h2 : compact S (x, S1) = (.tup l, S2)) : evIt ix (.enum a) env S = some (.val (enumD 0 l, .free) S2) := by
  unfold evIt; rw [h1, bnd_val, h2]; rfl
theorem it_zip_tup {l m : List D} (h1 : evE ix a env S = some (.val (.tup l) S1)) (h0 : evE ix b env S1 = some (.val (.tup m) S2)) (h2 : compact S (.tup [.tup l, .tup m], S2) = (y, S3)) : evIt ix (.zip a b) env S = some (.val (zipD l m, .free) S3) := by
  unfold evIt; rw [h1, bnd_val, h0, bnd_val]; dsimp only; rw [h2]
/-! ### statements -/
variable {s : IS} {is A B : List IS} {Q : Option SR}
theorem xs_set {j : Nat} (h1 : evE ix e env S = some (.val d S1)) (h2 : compact S (d, S1) = (d', S2)) : exS ix (.set j e) env S = some (.nx (env.set j (some d')) S2) := by unfold exS; rw [h1, cmpR_val, h2]; rfl
theorem xs_unp {tg : ITg} (h1 : evE ix e env S = some (.val d S1)) (h2 : compact S (d, S1) = (d', S2)) (h3 : bindT tg d' env = some env') : exS ix (.unp tg e) env S = some (.nx env' S2) := by unfold exS; rw [h1, cmpR_val, h2, sbnd_val, h3]; rfl
theorem xs_par {js : List Nat} (h1 : evEs ix es env S = some (.val ds S1)) (h2 : parE js ds env = some env') : exS ix (.par js es) env S = some (.nx env' S1) := by unfold exS; rw [h1, sbnd_val, h2]; rfl
theorem xs_put (h1 : evE ix c env S = some (.val z S1)) (h2 : evE ix a env S1 = some (.val x S2)) (h3 : evE ix b env S2 = some (.val y S3)) {S5 : Store} (h4 : putD x y z S3 = some S4) (h5 : compact S (.non, S4) = (.non, S5)) : exS ix (.put a b c) env S = some (.nx env S5) := by
  unfold exS; rw [h1, sbnd_val, h2, sbnd_val, h3, sbnd_val, h4]
  show some (SR.nx env (compact S (.non, S4)).2) = _
  rw [h5]
theorem xs_expr (h1 : evE ix e env S = some (.val d S1)) (h2 : compact S (.non, S1) = (.non, S2)) : exS ix (.expr e) env S = some (.nx env S2) := by unfold exS; rw [h1, sbnd_val, h2]
theorem xs_ret (h1 : evE ix e env S = some (.val d S1)) (h2 : compact S (d, S1) = (d', S2)) : exS ix (.ret e) env S = some (.rt d' S2) := by unfold exS; rw [h1, cmpR_val, h2]; rfl
theorem xs_ite_t (h1 : evE ix t env S = some (.val x S1)) (h2 : truthD S1 x = some true) (h3 : compact S (.bl true, S1) = (.bl true, S2)) (h4 : exSs ix A env S2 = Q) : exS ix (.ite t A B) env S = Q := by
  unfold exS; rw [h1, tstR_val, h2]
  show sbnd (some (PL.R.val true (compact S (.bl true, S1)).2)) env _ = _
  rw [h3, sbnd_val, if_pos rfl, h4]
theorem xs_ite_f (h1 : evE ix t env S = some (.val x S1)) (h2 : truthD S1 x = some false) (h3 : compact S (.bl false, S1) = (.bl false, S2)) (h4 : exSs ix B env S2 = Q) : exS ix (.ite t A B) env S = Q := by
  unfold exS; rw [h1, tstR_val, h2]
  show sbnd (some (PL.R.val false (compact S (.bl false, S1)).2)) env _ = _
  rw [h3, sbnd_val, if_neg (by decide), h4]
theorem xs_for {tg : ITg} {it : IIt} {l : List D} {src : Src} (h1 : evIt ix it env S = some (.val (l, src) S1)) (h2 : unlS src (forI (forF ix tg A) src l env S1) = Q) : exS ix (.for_ tg it A) env S = Q := by unfold exS; rw [h1, sbnd_val]; exact h2
theorem ff_bind {tg : ITg} (h0 : bindT tg d env = some env') (h1 : exSs ix A env' S = Q) : forF ix tg A d env S = Q := by unfold forF; rw [h0]; exact h1
theorem xs_while (h : whileI (fun env S => tstR S (evE ix t env S)) (fun env S => exSs ix A env S) turns env S = Q) : exS ix (.while_ t A) env S = Q := by unfold exS; exact h
theorem tst_of (h1 : evE ix t env S = some (.val x S1)) (h2 : truthD S1 x = some bb) (h3 : compact S (.bl bb, S1) = (.bl bb, S2)) : tstR S (evE ix t env S) = some (.val bb S2) := by
  rw [h1, tstR_val, h2]
  show some (PL.R.val bb (compact S (.bl bb, S1)).2) = _
  rw [h3]
theorem ss_nil : exSs ix [] env S = some (.nx env S) := by unfold exSs; rfl
theorem ss_nx (h1 : exS ix s env S = some (.nx env' S1)) (h2 : exSs ix is env' S1 = Q) : exSs ix (s :: is) env S = Q := by unfold exSs; rw [h1, snx_nx, h2]
theorem ss_rt (h1 : exS ix s env S = some (.rt d S1)) : exSs ix (s :: is) env S = some (.rt d S1) := by unfold exSs; rw [h1, snx_rt]
theorem fin_rt' (h1 : exSs ix is env S = some (.rt d S1)) (h2 : compact S (d, S1) = (d', S2)) : finR S (exSs ix is env S) = some (.val d' S2) := by rw [h1, finR_rt, h2]
theorem fin_nx' (h1 : exSs ix is env S = some (.nx env' S1)) (h2 : compact S (.non, S1) = (.non, S2)) : finR S (exSs ix is env S) = some (.val .non S2) := by rw [h1, finR_nx, h2]
theorem unlS_free {env : Env} : unlS .free (some (.nx env S)) = some (.nx env S) := by unfold unlS; dsimp only; rw [unlk_free]; rfl
theorem unlS_freeR : unlS .free (some (.rt d S)) = some (.rt d S) := by unfold unlS; dsimp only; rw [unlk_free]; rfl

/-! ### operations -/
theorem b_add {i j : Int} : binD .add (.int i) (.int j) S = some (.int (i + j), S) := rfl
theorem b_sub {i j : Int} : binD .sub (.int i) (.int j) S = some (.int (i - j), S) := rfl
theorem b_mul {i j : Int} (h : (-(2 ^ 64) < i ∧ i < 2 ^ 64) ∨ (-(2 ^ 64) < j ∧ j < 2 ^ 64)) : binD .mul (.int i) (.int j) S = some (.int (i * j), S) := by unfold binD; dsimp only; rw [if_pos (.inl h)]
theorem b_mod {i j : Int} (h : 0 < j) : binD .mod (.int i) (.int j) S = some (.int (i % j), S) := by unfold binD; dsimp only; rw [if_pos h]
theorem log_small {j : Int} (h : 0 < j) (h2 : j < 2 ^ 64) : L2.CDivW 0 j := by
  refine ⟨h, ?_⟩
  have : j.natAbs < 2 ^ 64 := by omega
  have := (Nat.log2_lt (n := j.natAbs) (k := 64) (by omega)).mpr this
  omega
theorem b_fdiv {i j : Int} (h : 0 < j) (h2 : j < 2 ^ 64) : binD .fdiv (.int i) (.int j) S = some (.int (i / j), S) := by
  have : L2.CDivW i j := log_small h h2
  unfold binD; dsimp only; rw [if_pos this]
theorem b_tup {l m : List D} (h : l.length + m.length ≤ line) : binD .add (.tup l) (.tup m) S = some (.tup (l ++ m), S) := by unfold binD; dsimp only; rw [if_pos h]
theorem b_lst {j k : Nat} {l m : List D} (h1 : S[j]? = some (.lst l)) (h2 : S[k]? = some (.lst m)) (h : l.length + m.length ≤ line) : binD .add (.loc j) (.loc k) S = some (.loc S.length, S ++ [.lst (l ++ m)]) := by
  unfold binD; simp only [lstAt, h1, h2]; rw [if_pos h]
theorem cmpOk_int (i j : Int) : cmpOk (.int i) (.int j) = true := by unfold cmpOk; simp [PySem.W.alike, PyData.depth, bigEnough]
theorem eqOk_int (i j : Int) : eqOk (.int i) (.int j) = true := by unfold eqOk; simp [PyData.depth, bigEnough]
theorem ord_int (f : PyData → PyData → Bool) (i j : Int) : ordD f S (.int i) (.int j) = some (f (.int i) (.int j)) := by
  unfold ordD rdPy
  simp [D.plain, D.py, cmpOk_int]
theorem c_lt {i j : Int} : cmpD .lt (.int i) (.int j) S = some (decide (i < j)) := by
  unfold cmpD; dsimp only
  rw [ord_int, PySem.W.dataLt_int]
theorem c_le {i j : Int} : cmpD .le (.int i) (.int j) S = some (decide (i ≤ j)) := by
  unfold cmpD; dsimp only
  rw [ord_int, PySem.W.dataLt_int]
  by_cases h : i ≤ j
  · rw [decide_eq_true h, decide_eq_false (by omega)]; rfl
  · rw [decide_eq_false h, decide_eq_true (by omega)]; rfl
theorem c_gt {i j : Int} : cmpD .gt (.int i) (.int j) S = some (decide (j < i)) := by
  unfold cmpD; dsimp only
  rw [ord_int, PySem.W.dataLt_int]
theorem c_ge {i j : Int} : cmpD .ge (.int i) (.int j) S = some (decide (j ≤ i)) := by
  unfold cmpD; dsimp only
  rw [ord_int, PySem.W.dataLt_int]
  by_cases h : j ≤ i
  · rw [decide_eq_true h, decide_eq_false (by omega)]; rfl
  · rw [decide_eq_false h, decide_eq_true (by omega)]; rfl
theorem eq_int (S : Store) {i j : Int} : eqD S (.int i) (.int j) = some (decide (i = j)) := by
  unfold eqD
  simp only [D.plain, D.py, eqOk_int, Bool.and_self, if_true]
  congr 1
theorem c_eq {i j : Int} : cmpD .eq (.int i) (.int j) S = some (decide (i = j)) := eq_int S
theorem c_ne {i j : Int} : cmpD .ne (.int i) (.int j) S = some (decide (i ≠ j)) := by
  unfold cmpD; dsimp only
  rw [eq_int]
  by_cases h : i = j <;> simp [h]
theorem c_lt_t {i j : Int} (h : i < j) : cmpD .lt (.int i) (.int j) S = some true := by rw [c_lt, decide_eq_true h]
theorem c_lt_f {i j : Int} (h : ¬ i < j) : cmpD .lt (.int i) (.int j) S = some false := by rw [c_lt, decide_eq_false h]
theorem c_le_t {i j : Int} (h : i ≤ j) : cmpD .le (.int i) (.int j) S = some true := by rw [c_le, decide_eq_true h]
theorem c_le_f {i j : Int} (h : ¬ i ≤ j) : cmpD .le (.int i) (.int j) S = some false := by rw [c_le, decide_eq_false h]
theorem c_gt_t {i j : Int} (h : j < i) : cmpD .gt (.int i) (.int j) S = some true := by rw [c_gt, decide_eq_true h]
theorem c_gt_f {i j : Int} (h : ¬ j < i) : cmpD .gt (.int i) (.int j) S = some false := by rw [c_gt, decide_eq_false h]
theorem c_ge_t {i j : Int} (h : j ≤ i) : cmpD .ge (.int i) (.int j) S = some true := by rw [c_ge, decide_eq_true h]
theorem c_ge_f {i j : Int} (h : ¬ j ≤ i) : cmpD .ge (.int i) (.int j) S = some false := by rw [c_ge, decide_eq_false h]
theorem c_eq_t {i j : Int} (h : i = j) : cmpD .eq (.int i) (.int j) S = some true := by rw [c_eq, decide_eq_true h]
theorem c_eq_f {i j : Int} (h : ¬ i = j) : cmpD .eq (.int i) (.int j) S = some false := by rw [c_eq, decide_eq_false h]
theorem c_ne_t {i j : Int} (h : ¬ i = j) : cmpD .ne (.int i) (.int j) S = some true := by rw [c_ne, decide_eq_true h]
theorem c_ne_f {i j : Int} (h : i = j) : cmpD .ne (.int i) (.int j) S = some false := by rw [c_ne, decide_eq_false (fun z => z h)]
theorem t_bl {k : Bool} : truthD S (.bl k) = some k := rfl
theorem i_tup {l : List D} {j : Int} (h : L2.atI l j = some d) : idxD (.tup l) (.int j) S = some (d, S) := by unfold idxD; dsimp only; unfold atD; rw [h]; rfl
theorem i_scr {l : List Int} {j m : Int} (h : L2.atI l j = some m) : idxD (.scr l) (.int j) S = some (.int m, S) := by unfold idxD; dsimp only; rw [h]; rfl
theorem i_lst {l : List D} {k : Nat} {j : Int} (h0 : S[k]? = some (.lst l)) (h : L2.atI l j = some d) : idxD (.loc k) (.int j) S = some (d, S) := by unfold idxD; dsimp only; rw [h0]; dsimp only; unfold atD; rw [h]; rfl
theorem p_lst {l : List D} {k m : Nat} {j : Int} (h0 : S[k]? = some (.lst l)) (h : L2.ixN l.length j = some m) : putD (.loc k) (.int j) z S = some (S.set k (.lst (l.set m z))) := by unfold putD; dsimp only; rw [h0]; dsimp only; rw [h]; rfl
theorem f_int {i : Int} : bifD .int [.int i] S = some (.int i, S) := rfl
theorem f_intb {k : Bool} : bifD .int [.bl k] S = some (.int (b2n k), S) := rfl
theorem f_len_tup {l : List D} : bifD .len [.tup l] S = some (.int l.length, S) := rfl
theorem f_len_scr {l : List Int} : bifD .len [.scr l] S = some (.int l.length, S) := rfl
theorem f_len_lst {l : List D} {k : Nat} (h : S[k]? = some (.lst l)) : bifD .len [.loc k] S = some (.int l.length, S) := by unfold bifD; dsimp only; rw [h]
theorem f_tup_lst {l : List D} {k : Nat} (h : S[k]? = some (.lst l)) : bifD .tuple [.loc k] S = some (.tup l, S) := by unfold bifD; simp only [lstAt, h]; rfl
theorem f_list_tup {l : List D} : bifD .list [.tup l] S = some (.loc S.length, S ++ [.lst l]) := rfl
theorem f_list_lst {l : List D} {k : Nat} (h : S[k]? = some (.lst l)) : bifD .list [.loc k] S = some (.loc S.length, S ++ [.lst l]) := by unfold bifD; simp only [lstAt, h]; rfl
theorem m_append {l : List D} {k : Nat} (h : S[k]? = some (.lst l)) (hl : l.length < line) : methD .append (.loc k) [d] S = some (.non, S.set k (.lst (l ++ [d]))) := by unfold methD; simp only [lstAt, h, Option.bind_some]; rw [if_pos hl]
theorem m_extend {l m : List D} {k j : Nat} (h : S[k]? = some (.lst l)) (h2 : S[j]? = some (.lst m)) (hl : l.length + m.length ≤ line) : methD .extend (.loc k) [.loc j] S = some (.non, S.set k (.lst (l ++ m))) := by unfold methD; simp only [lstAt, h, h2, Option.bind_some]; rw [if_pos hl]
end
end PL
set_option Elab.async false
set_option linter.all false
set_option maxRecDepth 100000
namespace PL
open PySem PySem.Spec PyProof.Rows L2
section
variable {ix : Ix} {env env' : Env} {S S1 S2 S3 S4 : Store} {a b c e t : IE} {es : IEs} {x y z d d' : D} {ds ds' : List D} {o : BOp} {p : COp} {r : ICh} {R : Option (PL.R D)} {n i : Int} {bb k : Bool} {s : IS} {is A B : List IS} {Q Q1 : Option SR}
theorem ev_not' (h1 : evE ix a env S = some (.val x S1)) (h2 : truthD S1 x = some k) (h3 : (!k) = bb) : evE ix (.not a) env S = some (.val (.bl bb) S1) := by subst h3; unfold evE; rw [h1, bnd_val, h2]
theorem ev_and' (h1 : evE ix a env S = some (.val x S1)) (h2 : truthD S1 x = some k) (h3 : k = true → evE ix b env S1 = R) (h4 : k = false → some (.val x S1) = R) : evE ix (.and a b) env S = R := by
  cases k with
  | true => exact ev_and_t h1 h2 (h3 rfl)
  | false => exact (ev_and_f h1 h2).trans (h4 rfl)
theorem ev_or' (h1 : evE ix a env S = some (.val x S1)) (h2 : truthD S1 x = some k) (h3 : k = true → some (.val x S1) = R) (h4 : k = false → evE ix b env S1 = R) : evE ix (.or a b) env S = R := by
  cases k with
  | true => exact (ev_or_t h1 h2).trans (h3 rfl)
  | false => exact ev_or_f h1 h2 (h4 rfl)
theorem ev_ite' (h1 : evE ix t env S = some (.val x S1)) (h2 : truthD S1 x = some k) (h3 : k = true → evE ix a env S1 = R) (h4 : k = false → evE ix b env S1 = R) : evE ix (.ite t a b) env S = R := by
  cases k with
  | true => exact ev_ite_t h1 h2 (h3 rfl)
  | false => exact ev_ite_f h1 h2 (h4 rfl)
theorem ch_more' (h1 : evE ix c env S = some (.val y S1)) (h2 : cmpD p x y S1 = some k) (h3 : k = true → evCh ix y r env S1 = R) (h4 : k = false → some (.val (.bl false) S1) = R) : evCh ix x (.more p c r) env S = R := by
  cases k with
  | true => exact ch_more_t h1 h2 (h3 rfl)
  | false => exact (ch_more_f h1 h2).trans (h4 rfl)
theorem xs_ite' (h1 : evE ix t env S = some (.val x S1)) (h2 : truthD S1 x = some k) (h3 : compact S (.bl k, S1) = (.bl k, S2)) (h4 : k = true → exSs ix A env S2 = Q) (h5 : k = false → exSs ix B env S2 = Q) : exS ix (.ite t A B) env S = Q := by
  cases k with
  | true => exact xs_ite_t h1 h2 h3 (h4 rfl)
  | false => exact xs_ite_f h1 h2 h3 (h5 rfl)
theorem ss_cons' (h1 : exS ix s env S = Q1) (h2 : snx Q1 (fun env' S' => exSs ix is env' S') = Q) : exSs ix (s :: is) env S = Q := by unfold exSs; rw [h1]; exact h2
theorem sn_nx {f : Env → Store → Option SR} (h : f env S = Q) : snx (some (.nx env S)) f = Q := h
theorem sn_rt {f : Env → Store → Option SR} : snx (some (.rt d S)) f = some (.rt d S) := rfl
theorem fin' (h1 : exSs ix is env S = Q) (h2 : finR S Q = R) : finR S (exSs ix is env S) = R := by rw [h1, h2]
theorem fn_rt (hc : compact S (d, S1) = (d', S2)) : finR S (some (.rt d S1)) = some (.val d' S2) := by rw [finR_rt, hc]
theorem fn_nx (hc : compact S (.non, S1) = (.non, S2)) : finR S (some (.nx env S1)) = some (.val .non S2) := by rw [finR_nx, hc]
theorem p_lst2 {l : List D} {k m : Nat} {j : Int} {S' : Store} {z : D} (h0 : S[k]? = some (.lst l)) (h : L2.ixN l.length j = some m) (hs : S.set k (.lst (l.set m z)) = S') : putD (.loc k) (.int j) z S = some S' := by rw [p_lst h0 h, hs]
theorem m_append2 {l : List D} {k : Nat} {S' : Store} (h : S[k]? = some (.lst l)) (hl : l.length < line) (hs : S.set k (.lst (l ++ [d])) = S') : methD .append (.loc k) [d] S = some (.non, S') := by rw [m_append h hl, hs]
theorem xs_set2 {j : Nat} (h1 : evE ix e env S = some (.val d S1)) (h2 : compact S (d, S1) = (d', S2)) (h3 : env.set j (some d') = env') : exS ix (.set j e) env S = some (.nx env' S2) := by rw [xs_set h1 h2, h3]
theorem lt_line {n : Nat} (h : Nat.ble (n + 1) line = true) : n < line := Nat.le_of_ble_eq_true h
theorem sto_eq {S S' : Store} (h : S = S') : S = S' := h
theorem env_eq {e e' : Env} (h : e = e') : e = e' := h
theorem f_max {i j : Int} : bifD .max [.int i, .int j] S = some (.int (if j > i then j else i), S) := rfl
theorem f_min {i j : Int} : bifD .min [.int i, .int j] S = some (.int (if j < i then j else i), S) := rfl
theorem b_pow {i j : Int} (h : L2.CPow i j) : binD .pow (.int i) (.int j) S = some (.int (i ^ j.toNat), S) := by unfold binD; dsimp only; rw [if_pos h]
theorem t_scr {l : List Int} : truthD S (.scr l) = some (!l.isEmpty) := rfl
theorem atI_of {α : Type} {l : List α} {r : Int} (h0 : 0 ≤ r) (h1 : r < l.length) : ∃ d, d ∈ l ∧ L2.atI l r = some d := by
  have hr : r = ((r.toNat : Nat) : Int) := by omega
  have hl : r.toNat < l.length := by omega
  refine ⟨l[r.toNat], List.getElem_mem hl, ?_⟩
  have := L2.atI_nat (xs := l) (j := r.toNat) (List.getElem?_eq_getElem hl)
  rw [← hr] at this
  exact this
theorem call_get {P : Prog} {j : Nat} {f : String} {ds : List D} (h : callN P j f ds S = R) : (ixOf P j).call f ds S = R := h
theorem b_mulb {p : Bool} : binD .mul (.int i) (.int (b2n p)) S = some (.int (i * b2n p), S) := b_mul (.inr (by cases p <;> decide))
theorem b_pow18 : binD .pow (.int 10) (.int 18) S = some (.int (10 ^ (18 : Nat)), S) := b_pow ⟨by decide, by decide, by decide⟩
theorem t_scr0 : truthD S (.scr []) = some false := rfl
theorem t_scr1 {m : Int} {l : List Int} : truthD S (.scr (m :: l)) = some true := rfl
theorem hyp_get {α : Type} {a b : Option α} (h : a = b) : a = b := h
theorem env_get {l : List (Option D)} {j : Nat} {d : D} (h : l[j]? = some (some d)) : l[j]? = some (some d) := h
theorem sto_get {l : Store} {j : Nat} {d : List D} (h : l[j]? = some (O.lst d)) : l[j]? = some (O.lst d) := h
theorem atI_get' {l : List D} {j : Int} {d : D} (h : L2.atI l j = some d) : L2.atI l j = some d := h
theorem ixN_get' {n m : Nat} {j : Int} (h : L2.ixN n j = some m) : L2.ixN n j = some m := h
theorem ar_get {ix : Ix} {c n : Nat} (h : ix.ar c = some n) : ix.ar c = some n := h
theorem gl_get {ix : Ix} {f : String} {d : D} (h : ix.glob f = some d) : ix.glob f = some d := h
theorem perm_get {kn : List String} {pm : List Nat} {ds ds' : List D} (h : permD kn pm ds = some ds') : permD kn pm ds = some ds' := h
theorem bind_get {t : ITg} {d : D} {env env' : Env} (h : bindT t d env = some env') : bindT t d env = some env' := h
theorem pure_t {d : D} (h : d.pure = true) : d.pure = true := h
theorem pure_o {o : O} (h : o.pure = true) : o.pure = true := h
theorem pures_t {l : List D} (h : D.pures l = true) : D.pures l = true := h
theorem le_line {n : Nat} (h : Nat.ble n line = true) : n ≤ line := Nat.le_of_ble_eq_true h
theorem not_tt : (!true) = false := rfl
theorem not_ff : (!false) = true := rfl
theorem not_k : (!k) = !k := rfl
theorem isa_int {i : Int} : isaD S .int (.int i) = some true := rfl
theorem isa_bl {i : Int} : isaD S .bool (.int i) = some false := rfl
theorem isa_tup {l : List D} : isaD S .tuple (.tup l) = some true := rfl
theorem isa_obj {j : Nat} {l : List D} : isaD S (.cls j) (.obj j l) = some true := by simp [isaD]
theorem get0 {α : Type} {v : α} {l : List α} : (v :: l)[0]? = some v := rfl
theorem get1 {α : Type} {u v : α} {l : List α} : (u :: v :: l)[1]? = some v := rfl
theorem get2 {α : Type} {u w v : α} {l : List α} : (u :: w :: v :: l)[2]? = some v := rfl
theorem room_le {P : Prog} {j : Nat} (h : 2 ≤ j) : 2 ≤ (ixOf P j).room := h
theorem par2 {i j : Nat} : parE [i, j] [d, d'] env = some ((env.set i (some d)).set j (some d')) := rfl
theorem par3 {i j l : Nat} : parE [i, j, l] [d, d', x] env = some (((env.set i (some d)).set j (some d')).set l (some x)) := rfl
theorem bind_nm {j : Nat} : bindT (.nm j) d env = some (env.set j (some d)) := rfl
theorem k_tt {p : Prop} (h : p) : true = true → p := fun _ => h
theorem k_ff {p : Prop} (h : p) : false = false → p := fun _ => h
theorem k_tf {p : Prop} : true = false → p := fun h => by cases h
theorem k_ft {p : Prop} : false = true → p := fun h => by cases h
theorem cf_b {tg : ITg} {cs : IEs} {own : List Nat} {w : Option D × Store} (h0 : bindT tg d (wipeE env own) = some env') (h1 : evTs ix cs env' S = some (.val k S1)) (h2 : k = true → evE ix a env' S1 = some (.val x S2)) (h3 : k = true → compact S1 (x, S2) = (y, S3)) (h4 : k = true → w = (some y, S3)) (h5 : k = false → w = (none, S1)) :
    compF ix a tg cs own env d S = some w := by
  cases k with
  | true => rw [h4 rfl]; exact cf_t h0 h1 (h2 rfl) (h3 rfl)
  | false => rw [h5 rfl]; exact cf_f h0 h1
end
end PL
set_option Elab.async false
set_option linter.all false
set_option maxRecDepth 100000
namespace PL
open PySem PySem.Spec PyProof.Rows L2
/-! ### tuples of whole numbers -/
/-- a tuple of whole numbers -/
@[reducible] def tI (l : List Int) : D := .tup (l.map D.int)
theorem pys_ints : ∀ l : List Int, D.pys (l.map D.int) = l.map PyData.int
  | [] => rfl
  | x :: r => by
    show D.pys (D.int x :: r.map D.int) = _
    rw [D.pys, pys_ints r]; rfl
theorem plains_ints : ∀ l : List Int, D.plains (l.map D.int) = true
  | [] => rfl
  | x :: r => by
    show D.plains (D.int x :: r.map D.int) = _
    rw [D.plains, plains_ints r]; rfl
theorem pures_ints : ∀ l : List Int, D.pures (l.map D.int) = true
  | [] => rfl
  | x :: r => by
    show D.pures (D.int x :: r.map D.int) = _
    rw [D.pures, pures_ints r]; rfl
theorem tI_py (l : List Int) : (tI l).py = .tuple (l.map .int) := by
  show PyData.tuple (D.pys (l.map D.int)) = _
  rw [pys_ints]
theorem tI_pure (l : List Int) : (tI l).pure = true := pures_ints l
theorem tI_pures : ∀ ls : List (List Int), D.pures (ls.map tI) = true
  | [] => rfl
  | x :: r => by
    show D.pures (tI x :: r.map tI) = _
    rw [D.pures, tI_pures r, tI_pure]; rfl
theorem tI_plains : ∀ ls : List (List Int), D.plains (ls.map tI) = true
  | [] => rfl
  | x :: r => by
    show D.plains (tI x :: r.map tI) = _
    rw [D.plains, tI_plains r]
    show (D.plains (x.map D.int) && true) = true
    rw [plains_ints]; rfl
theorem tI_pys : ∀ ls : List (List Int), D.pys (ls.map tI) = ls.map fun l => PyData.tuple (l.map .int)
  | [] => rfl
  | x :: r => by
    show D.pys (tI x :: r.map tI) = _
    rw [D.pys, tI_pys r, tI_py]; rfl
theorem tI_lt (xs ys : List Int) : PySem.W.dataLt (tI xs).py (tI ys).py = decide (xs < ys) := by
  rw [tI_py, tI_py, PySem.W.dataLt_tuple]
  exact PySem.W.dataLt_ints xs ys
theorem tI_le (xs ys : List Int) : PySem.W.dataLe false D.py (tI xs) (tI ys) = decide (xs ≤ ys) := by
  rw [PySem.W.dataLe_eq]
  show (!PySem.W.dataLt (tI ys).py (tI xs).py) = _
  rw [tI_lt]
  by_cases h : ys < xs
  · have h' : ¬ xs ≤ ys := fun r => List.not_lt.mpr r h
    simp [h, h']
  · have h' : xs ≤ ys := List.not_lt.mp h
    simp [h, h']
theorem tI_alike (xs ys : List Int) : PySem.W.alike (.tuple (xs.map .int)) (.tuple (ys.map .int)) = true := by
  rw [PySem.W.alike]
  exact PySem.W.alike_ints xs ys
theorem tI_depths : ∀ ls : List (List Int), PyData.depthAll (ls.map fun l => PyData.tuple (l.map .int)) ≤ 1
  | [] => by simp [PyData.depthAll]
  | x :: r => by
    have := tI_depths r
    show PyData.depthAll (PyData.tuple (x.map .int) :: r.map fun l => PyData.tuple (l.map .int)) ≤ 1
    rw [PyData.depthAll, PyData.depth, PySem.W.depth_ints]
    omega
theorem tI_sortOk {ls : List (List Int)} (hne : ∀ l ∈ ls, l ≠ []) (hl : ls.length ≤ line) : sortOk (ls.map tI) := by
  refine ⟨tI_plains ls, ?_, ?_, ?_, by simpa using hl⟩
  · rw [tI_pys]
    exact PySem.W.AllAlike.of fun b b' => tI_alike b b'
  · rw [tI_pys]
    refine .inl fun d hd => ?_
    obtain ⟨l, hm, rfl⟩ := List.mem_map.mp hd
    cases l with
    | nil => exact absurd rfl (hne [] hm)
    | cons x r => exact ⟨.int x, r.map .int, rfl⟩
  · rw [tI_pys]
    exact Nat.le_trans (tI_depths ls) (by decide)
/-- lists of rows, sorted -/
def srt (ls : List (List Int)) : List (List Int) := ls.mergeSort fun a b => decide (a ≤ b)
theorem sortD_tI (ls : List (List Int)) : sortD (ls.map tI) = (srt ls).map tI := by
  unfold sortD srt
  rw [List.map_mergeSort (s := PySem.W.dataLe false D.py)]
  intro a _ b _
  rw [tI_le]
theorem srt_perm (ls : List (List Int)) : (srt ls).Perm ls := List.mergeSort_perm ls _
theorem srt_sorted (ls : List (List Int)) : (srt ls).Pairwise fun a b => a ≤ b := by
  have h := List.pairwise_mergeSort (le := fun a b : List Int => decide (a ≤ b)) (fun a b c h1 h2 => decide_eq_true (List.le_trans (of_decide_eq_true h1) (of_decide_eq_true h2))) (fun a b => by
    rcases List.le_total a b with h | h
    · simp [h]
    · simp [h]) ls
  exact h.imp fun h => of_decide_eq_true h
theorem f_sorted_tI {ls : List (List Int)} {S : Store} {k : Nat} (h : S[k]? = some (.lst (ls.map tI))) (hne : ∀ l ∈ ls, l ≠ []) (hl : ls.length ≤ line) : bifD .sorted [.loc k] S = some (.loc S.length, S ++ [.lst ((srt ls).map tI)]) := by
  unfold bifD
  simp only [lstAt, h]
  rw [if_pos (tI_sortOk hne hl), sortD_tI]
/-- the least of some rows -/
def lst1 : List Int → List (List Int) → List Int
  | x, [] => x
  | x, y :: r => lst1 (if y < x then y else x) r
theorem leastD_tI : ∀ (x : List Int) (ls : List (List Int)), leastD (tI x) (ls.map tI) = tI (lst1 x ls)
  | x, [] => rfl
  | x, y :: r => by
    have h : leastD (tI x) ((y :: r).map tI) = leastD (if PySem.W.dataLt (tI y).py (tI x).py then tI y else tI x) (r.map tI) := rfl
    rw [h, tI_lt]
    by_cases h2 : y < x
    · rw [decide_eq_true h2, if_pos rfl, leastD_tI y r, lst1, if_pos h2]
    · rw [decide_eq_false h2, if_neg (by decide), leastD_tI x r, lst1, if_neg h2]
theorem lst1_mem : ∀ (x : List Int) (ls : List (List Int)), lst1 x ls ∈ x :: ls
  | x, [] => List.mem_cons_self
  | x, y :: r => by
    rw [lst1]
    have := lst1_mem (if y < x then y else x) r
    rcases List.mem_cons.mp this with h | h
    · rw [h]
      split <;> simp
    · exact List.mem_cons_of_mem _ (List.mem_cons_of_mem _ h)
theorem f_min_tI {x : List Int} {ls : List (List Int)} {S : Store} {k : Nat} (h : S[k]? = some (.lst ((x :: ls).map tI))) : bifD .min [.loc k] S = some (tI (lst1 x ls), S) := by
  have hok : leastOk (tI x :: ls.map tI) := by
    refine ⟨tI_plains (x :: ls), ?_, ?_⟩
    · have e : D.pys (tI x :: ls.map tI) = (x :: ls).map fun l => PyData.tuple (l.map .int) := tI_pys (x :: ls)
      rw [e]
      refine ⟨?_, ?_⟩
      · exact PySem.W.AllAlike.of fun b b' => tI_alike b b'
      · intro d hd
        obtain ⟨l, _, rfl⟩ := List.mem_map.mp hd
        exact PyData.noConfusion
    · have e : D.pys (tI x :: ls.map tI) = (x :: ls).map fun l => PyData.tuple (l.map .int) := tI_pys (x :: ls)
      rw [e]
      exact Nat.le_trans (tI_depths _) (by decide)
  unfold bifD
  simp only [lstAt, h]
  rw [← leastD_tI]
  exact if_pos hok
end PL
set_option Elab.async false
set_option linter.all false
set_option maxRecDepth 100000
namespace PL
open PySem PySem.Spec PyProof.Rows L2
/-! ### stores whose last places change -/
theorem kept_tail (S : Store) {T T' U : Store} (hl : T.length = T'.length) (hp : ∀ o ∈ T', o.pure = true) : Kept (S ++ T) (S ++ T' ++ U) := ⟨by simp [hl], fun n o h e => by
  rw [List.length_append, hl, ← List.length_append] at h
  rw [List.getElem?_append_left h] at e
  by_cases hn : n < S.length
  · left
    rw [List.getElem?_append_left hn] at e ⊢
    exact e
  · right
    rw [List.getElem?_append_right (by omega)] at e
    exact hp o (List.mem_of_getElem? e)⟩
theorem compact_tail (S : Store) {T T' : Store} (U : Store) {d : D} (hl : T.length = T'.length) (hp : ∀ o ∈ T', o.pure = true) (hd : d.pure = true) : compact (S ++ T) (d, S ++ T' ++ U) = (d, S ++ T') := by
  rw [compact_pure (kept_tail S hl hp) hd]
  have e : (S ++ T).length = (S ++ T').length := by simp [hl]
  rw [e, List.take_left]
theorem compact_tail0 (S : Store) {T T' : Store} {d : D} (hl : T.length = T'.length) (hp : ∀ o ∈ T', o.pure = true) (hd : d.pure = true) : compact (S ++ T) (d, S ++ T') = (d, S ++ T') := by
  have := compact_tail S (U := []) hl hp hd
  rwa [List.append_nil] at this
theorem getT (S T : Store) (i : Nat) : (S ++ T)[S.length + i]? = T[i]? := by
  rw [List.getElem?_append_right (by omega)]; congr 1; omega
theorem setT (S T : Store) (i : Nat) (o : O) : (S ++ T).set (S.length + i) o = S ++ T.set i o := by
  rw [List.set_append_right _ _ (by omega)]; congr 2; omega
/-! ### dicts with whole numbers as keys -/
def dF (F : List Int) : List (D × D) := F.map fun i => (.int i, .bl true)
theorem keyEq_int (a b : Int) : keyEq (.int a) (.int b) = decide (a = b) := by
  unfold keyEq
  show PyData.eqv (.int a) (.int b) = _
  rw [PyData.eqv]; rfl
theorem keyOk_int (i : Int) : keyOk false (.int i) = true := rfl
theorem any_dF (F : List Int) (y : Int) : ((dF F).any fun p => keyEq p.1 (.int y)) = decide (y ∈ F) := by
  induction F with
  | nil => rfl
  | cons a F ih =>
    have e : ((dF (a :: F)).any fun p => keyEq p.1 (.int y)) = (keyEq (.int a) (.int y) || (dF F).any fun p => keyEq p.1 (.int y)) := rfl
    rw [e, ih, keyEq_int]
    by_cases h : a = y
    · simp [h]
    · have h' : ¬ y = a := fun e => h e.symm
      simp [h, h']
theorem c_notin_dF {S : Store} {n : Nat} {F : List Int} {y : Int} (h : S[n]? = some (.dict false (dF F))) : cmpD .notin (.int y) (.loc n) S = some (!decide (y ∈ F)) := by
  unfold cmpD
  dsimp only
  unfold inD
  dsimp only
  rw [h]
  dsimp only
  rw [if_pos (keyOk_int y), any_dF]; rfl
theorem p_dF {S : Store} {n : Nat} {F : List Int} {y : Int} (h : S[n]? = some (.dict false (dF F))) (hy : y ∉ F) (hl : F.length < line) : putD (.loc n) (.int y) (.bl true) S = some (S.set n (.dict false (dF (F ++ [y])))) := by
  unfold putD
  dsimp only
  rw [h]
  dsimp only
  rw [keyOk_int, Bool.true_and, if_pos (by rw [show (dF F).length = F.length from List.length_map ..]; exact decide_eq_true hl)]
  unfold putK
  rw [any_dF, decide_eq_false hy, if_neg (by decide)]
  unfold dF
  rw [List.map_append]; rfl
theorem dF_pure (F : List Int) : (O.dict false (dF F)).pure = true := by
  induction F with
  | nil => rfl
  | cons a F ih => exact ih
theorem eqvAll_nil : ∀ W : List Int, PyData.eqvAll (W.map .int) [] = W.isEmpty
  | [] => by simp [PyData.eqvAll]
  | _ :: _ => by simp [PyData.eqvAll]
theorem c_ne_nil {S : Store} {a b : Nat} {W : List Int} (h1 : S[a]? = some (.lst (W.map .int))) (h2 : S[b]? = some (.lst [])) : cmpD .ne (.loc a) (.loc b) S = some (!W.isEmpty) := by
  unfold cmpD
  dsimp only
  unfold eqD
  dsimp only
  rw [h1, h2]
  dsimp only
  rw [plains_ints, pys_ints]
  have e : eqOk (.list (W.map .int)) (.list (D.pys [])) = true := by
    unfold eqOk
    show (decide (PyData.depth (.list (W.map .int)) ≤ 60) && decide (PyData.depth (.list []) ≤ 60)) = true
    rw [PyData.depth, PySem.W.depth_ints]
    simp [PyData.depth, PyData.depthAll]
  rw [e]
  show (some (PyData.eqvAll (W.map .int) [])).map _ = _
  rw [eqvAll_nil]; rfl
def srtI (F : List Int) : List Int := F.mergeSort fun a b => decide (a ≤ b)
theorem sortD_srtI (F : List Int) : sortD (F.map D.int) = (srtI F).map D.int := by
  unfold sortD srtI
  rw [List.map_mergeSort (s := PySem.W.dataLe false D.py)]
  intro a _ b _
  rw [PySem.W.dataLe_eq]
  show decide (a ≤ b) = (!PySem.W.dataLt (.int b) (.int a))
  rw [PySem.W.dataLt_int]
  by_cases h : b < a
  · rw [decide_eq_true h, decide_eq_false (by omega)]; rfl
  · rw [decide_eq_false h, decide_eq_true (by omega)]; rfl
theorem f_sorted_dF {S : Store} {n : Nat} {F : List Int} (h : S[n]? = some (.dict false (dF F))) (hl : F.length < 64) : bifD .sorted [.loc n] S = some (.loc S.length, S ++ [.lst ((srtI F).map D.int)]) := by
  have e : (dF F).map (·.1) = F.map D.int := by unfold dF; rw [List.map_map]; rfl
  have hk : sortKeysOk (dF F) := ⟨F, e, hl⟩
  unfold bifD
  simp only [lstAt, h]
  rw [← sortD_srtI, ← e]
  exact if_pos hk
theorem m_pop {S : Store} {k : Nat} {l : List D} {d : D} (h : S[k]? = some (.lst (l ++ [d]))) : methD .pop (.loc k) [] S = some (d, S.set k (.lst l)) := by
  unfold methD
  simp only [lstAt, h, Option.bind_some, List.getLast?_append, List.getLast?_singleton, List.dropLast_concat]
  simp
/-- two ascending lists without doubles that hold the same -/
theorem asc_ext {A B : List Int} (ha : A.Pairwise (· ≤ ·)) (hb : B.Pairwise (· ≤ ·)) (hp : A.Perm B) : A = B := hp.eq_of_pairwise (fun a b _ _ h1 h2 => Int.le_antisymm h1 h2) ha hb
theorem srtI_perm (F : List Int) : (srtI F).Perm F := List.mergeSort_perm F _
theorem srtI_asc (F : List Int) : (srtI F).Pairwise (· ≤ ·) := by
  have h := List.pairwise_mergeSort (le := fun a b : Int => decide (a ≤ b)) (fun a b c h1 h2 => decide_eq_true (Int.le_trans (of_decide_eq_true h1) (of_decide_eq_true h2))) (fun a b => by
    rcases Int.le_total a b with h | h
    · simp [h]
    · simp [h]) F
  exact h.imp fun h => of_decide_eq_true h
end PL
set_option Elab.async false
set_option linter.all false
set_option maxRecDepth 100000
namespace PL
open PySem PySem.Spec PyProof.Rows L2
theorem eqvAll_self : ∀ l : List Int, PyData.eqvAll (l.map .int) (l.map .int) = true
  | [] => by simp [PyData.eqvAll]
  | x :: r => by
    have ih := eqvAll_self r
    show PyData.eqvAll (PyData.int x :: r.map .int) (PyData.int x :: r.map .int) = true
    rw [PyData.eqvAll, ih, PyData.eqv]; simp
theorem c_ne_self {S : Store} {l : List Int} : cmpD .ne (tI l) (tI l) S = some false := by
  unfold cmpD
  dsimp only
  have e : eqD S (tI l) (tI l) = some true := by
    unfold eqD
    dsimp only
    rw [tI_py, show (tI l).plain = true from plains_ints l]
    have ok : eqOk (.tuple (l.map .int)) (.tuple (l.map .int)) = true := by
      unfold eqOk
      show (decide (PyData.depth (.tuple (l.map .int)) ≤ 60) && decide (PyData.depth (.tuple (l.map .int)) ≤ 60)) = true
      rw [PyData.depth, PySem.W.depth_ints]; rfl
    rw [ok]
    show some (PyData.eqv (.tuple (l.map .int)) (.tuple (l.map .int))) = some true
    rw [PyData.eqv, eqvAll_self]
  rw [e]; rfl
end PL
set_option Elab.async false
set_option linter.all false
set_option maxRecDepth 100000
namespace PL
open PySem PySem.Spec PyProof.Rows L2
/-! ### exceptions in a run -/
section
variable {ix : Ix} {env env' env1 : Env} {S S1 S2 : Store} {a e : IE} {d d' : D} {s : IS} {is A : List IS} {Q : Option SR} {hs : List (List Nat × Nat × Bool × Str)} {x : Ex} {c : Nat}
theorem xs_raise (h : evEs ix (.cons a .nil) env S = some (.val [d] S1)) : exS ix (.raise c a) env S = some (.ex ⟨c, d⟩ env S1) := by unfold exS; rw [h, sbnd_val]
theorem ss_ex (h : exS ix s env S = some (.ex x env1 S1)) : exSs ix (s :: is) env S = some (.ex x env1 S1) := by unfold exSs; rw [h, snx_ex]
theorem fin_ex (h : exSs ix is env S = some (.ex x env1 S1)) (hc : compact S (x.what, S1) = (d', S2)) : finR S (exSs ix is env S) = some (.exc ⟨x.c, d'⟩ S2) := by
  rw [h]
  show some (PL.R.exc ⟨x.c, (compact S (x.what, S1)).1⟩ (compact S (x.what, S1)).2) = _
  rw [hc]
theorem xs_expr_x (h : evE ix a env S = some (.exc x S1)) : exS ix (.expr a) env S = some (.ex x env S1) := by unfold exS; rw [h, sbnd_exc]
theorem xs_ret_x (h : evE ix a env S = some (.exc x S1)) : exS ix (.ret a) env S = some (.ex x env S1) := by
  unfold exS; rw [h]; rfl
theorem xs_set_x {j : Nat} (h : evE ix a env S = some (.exc x S1)) : exS ix (.set j a) env S = some (.ex x env S1) := by
  unfold exS; rw [h]; rfl
theorem xs_try_rt (h : exSs ix A env S = some (.rt d S1)) : exS ix (.tryW A hs) env S = some (.rt d S1) := by unfold exS; rw [h]
theorem xs_try_nx (h : exSs ix A env S = some (.nx env1 S1)) : exS ix (.tryW A hs) env S = some (.nx env1 S1) := by unfold exS; rw [h]
theorem xs_try_x (h : exSs ix A env S = some (.ex x env1 S1)) (h2 : hndW hs x env1 S1 = Q) : exS ix (.tryW A hs) env S = Q := by unfold exS; rw [h]; exact h2
theorem hn_tup {ids : List Nat} {i : Nat} {w : Str} {r : List (List Nat × Nat × Bool × Str)} (h : x.c ∈ ids) (hi : i < env1.length) : hndW ((ids, i, false, w) :: r) x env1 S1 = some (.rt (.tup [.str w, x.what]) S1) := by
  unfold hndW; rw [if_pos h, if_neg (by omega)]; rfl
theorem hn_lst {ids : List Nat} {i : Nat} {w : Str} {r : List (List Nat × Nat × Bool × Str)} (h : x.c ∈ ids) (hi : i < env1.length) : hndW ((ids, i, true, w) :: r) x env1 S1 = some (.rt (.loc S1.length) (S1 ++ [.lst [.str w, x.what]])) := by
  unfold hndW; rw [if_pos h, if_neg (by omega)]; rfl
theorem hn_skip {ids : List Nat} {i : Nat} {b : Bool} {w : Str} {r : List (List Nat × Nat × Bool × Str)} (h : ¬ x.c ∈ ids) (h2 : hndW r x env1 S1 = Q) : hndW ((ids, i, b, w) :: r) x env1 S1 = Q := by
  conv => lhs; unfold hndW
  rw [if_neg h]; exact h2
theorem forI_x {f : D → Env → Store → Option SR} {r : List D} (hf : f d env S = some (.ex x env1 S1)) : forI f .free (d :: r) env S = some (.ex x env1 S1) := by
  unfold forI
  rw [if_pos (show Src.ok S .free from trivial), hf]
theorem forI_skip {f : D → Env → Store → Option SR} {r : List D} (hf : f d env S = some (.nx env1 S1)) (h : forI f .free r env1 S1 = Q) : forI f .free (d :: r) env S = Q := by
  unfold forI
  rw [if_pos (show Src.ok S .free from trivial), hf]; exact h
theorem unlS_freeX : unlS .free (some (.ex x env S)) = some (.ex x env S) := rfl
end
/-! ### words compared -/
theorem c_ne_plain {S : Store} {d : D} (h : d.plain = true) (ok : eqOk d.py d.py = true) (hq : PyData.eqv d.py d.py = true) (nl : ∀ n, d ≠ .loc n) : cmpD .ne d d S = some false := by
  have e : eqD S d d = some true := by
    have : (if d.plain && d.plain && eqOk d.py d.py then some (PyData.eqv d.py d.py) else none) = some true := by
      rw [h, ok, hq]; rfl
    cases d with
    | loc n => exact absurd rfl (nl n)
    | _ => exact this
  unfold cmpD
  dsimp only
  rw [e]; rfl
theorem c_ne_word {S : Store} {w : Str} {i : Int} : cmpD .ne (.tup [.str w, .int i]) (.tup [.str w, .int i]) S = some false := by
  refine c_ne_plain rfl ?_ ?_ fun n => by intro z; cases z
  · unfold eqOk
    simp [D.py, D.pys, PyData.depth, PyData.depthAll, bigEnough]
  · simp [D.py, D.pys, PyData.eqv, PyData.eqvAll]
theorem c_ne_word1 {S : Store} {w : Str} {i : Int} : cmpD .ne (.tup [.str w, .tup [.int i]]) (.tup [.str w, .tup [.int i]]) S = some false := by
  refine c_ne_plain rfl ?_ ?_ fun n => by intro z; cases z
  · unfold eqOk
    simp [D.py, D.pys, PyData.depth, PyData.depthAll, bigEnough]
  · simp [D.py, D.pys, PyData.eqv, PyData.eqvAll]
end PL
set_option Elab.async false
set_option linter.all false
set_option maxRecDepth 100000
set_option maxHeartbeats 4000000
namespace K13
open PySem PySem.Spec PyProof.Rows PL L2
def st (i : Nat) : Stmt := PySem.Challenge.pw_lampwalks_k13_roads_crossed_by_own_parti.main.body.getD i (.Pass ⟨0, 0, 0, 0⟩)

def i_is_number : IFun := ⟨1, 1, [
  .ret (.and (.isa (.slot 0) .int) (.not (.isa (.slot 0) .bool)))]⟩
def n_is_number : List Str := [Str.ofString "thing"]
def i_is_road : IFun := ⟨2, 3, [
  .ite (.or (.not (.isa (.slot 1) .tuple)) (.or (.cmp .ne (.bif .len (.cons (.slot 1) .nil)) (.cst (.int 3))) (.not (.bif .all (.cons (.comp (.call "is_number" (.cons (.slot 2) .nil) [] []) (.nm 2) (.val (.slot 1)) (.nil) [2]) .nil))))) [
    .ret (.cst (.bl false))] [],
  .ret (.chn (.cst (.int 0)) (.more .le (.idx (.slot 1) (.cst (.int 0))) (.more .lt (.idx (.slot 1) (.cst (.int 1))) (.last .lt (.slot 0)))))]⟩
def n_is_road : List Str := [Str.ofString "many", Str.ofString "thing", Str.ofString "part"]
def i_want_roads : IFun := ⟨2, 4, [
  .for_ (.tup [.nm 2, .nm 3]) (.enum (.slot 1)) [
    .ite (.or (.not (.call "is_road" (.cons (.slot 0) (.cons (.slot 3) .nil)) [] [])) (.and (.cmp .gt (.slot 2) (.cst (.int 0))) (.cmp .le (.slc (.slot 3) none (some (.cst (.int 2)))) (.slc (.idx (.slot 1) (.bin .sub (.slot 2) (.cst (.int 1)))) none (some (.cst (.int 2))))))) [
      .raise 2 (.slot 2)] []],
  .for_ (.tup [.nm 2, .nm 3]) (.enum (.slot 1)) [
    .ite (.not (.chn (.cst (.int 1)) (.more .le (.idx (.slot 3) (.cst (.int 2))) (.last .le (.glob "MOST_LENGTH"))))) [
      .raise 4 (.slot 2)] []]]⟩
def n_want_roads : List Str := [Str.ofString "many", Str.ofString "roads", Str.ofString "at", Str.ofString "road"]
def i_tied : IFun := ⟨2, 6, [
  .set 2 (.bin .add (.comp (.tup (.cons (.slot 4) (.cons (.slot 5) .nil))) (.tup [.nm 3, .nm 4, .nm 5]) (.val (.slot 0)) (.cons (.cmp .eq (.slot 3) (.slot 1)) .nil) [3, 4, 5]) (.comp (.tup (.cons (.slot 3) (.cons (.slot 5) .nil))) (.tup [.nm 3, .nm 4, .nm 5]) (.val (.slot 0)) (.cons (.cmp .eq (.slot 4) (.slot 1)) .nil) [3, 4, 5])),
  .ret (.bif .sorted (.cons (.slot 2) .nil))]⟩
def n_tied : List Str := [Str.ofString "roads", Str.ofString "x", Str.ofString "found", Str.ofString "p", Str.ofString "q", Str.ofString "length"]
def i_reached : IFun := ⟨2, 6, [
  .par [2, 3] (.cons (.dict false (.cons (.slot 1) (.cst (.bl true)) (.nil))) (.cons (.lst (.cons (.slot 1) .nil)) .nil)),
  .while_ (.cmp .ne (.slot 3) (.lst (.nil))) [
    .for_ (.tup [.nm 4, .nm 5]) (.val (.call "tied" (.cons (.slot 0) (.cons (.meth .pop (.slot 3) (.nil)) .nil)) [] [])) [
      .ite (.cmp .notin (.slot 4) (.slot 2)) [
        .put (.slot 2) (.slot 4) (.cst (.bl true)),
        .expr (.meth .append (.slot 3) (.cons (.slot 4) .nil))] []]],
  .ret (.bif .sorted (.cons (.slot 2) .nil))]⟩
def n_reached : List Str := [Str.ofString "roads", Str.ofString "x", Str.ofString "found", Str.ofString "waiting", Str.ofString "y", Str.ofString "length"]
def i_want_whole : IFun := ⟨2, 4, [
  .set 2 (.call "reached" (.cons (.slot 1) (.cons (.cst (.int 0)) .nil)) [] []),
  .for_ (.nm 3) (.range1 (.slot 0)) [
    .ite (.cmp .notin (.slot 3) (.slot 2)) [
      .raise 3 (.slot 3)] []]]⟩
def n_want_whole : List Str := [Str.ofString "many", Str.ofString "roads", Str.ofString "come", Str.ofString "x"]
def i_made_web : IFun := ⟨2, 2, [
  .ite (.not (.chn (.cst (.int 1)) (.more .le (.slot 0) (.last .le (.glob "MOST_POSITIONS"))))) [
    .raise 1 (.slot 0)] [],
  .expr (.call "want_roads" (.cons (.slot 0) (.cons (.slot 1) .nil)) [] []),
  .expr (.call "want_whole" (.cons (.slot 0) (.cons (.slot 1) .nil)) [] []),
  .ret (.mk 1 (.cons (.slot 0) (.cons (.slot 1) .nil)))]⟩
def n_made_web : List Str := [Str.ofString "m", Str.ofString "roads"]
def i_made_land : IFun := ⟨3, 5, [
  .ite (.not (.chn (.cst (.int 1)) (.more .le (.slot 0) (.last .le (.glob "MOST_PLACES"))))) [
    .raise 1 (.slot 0)] [],
  .expr (.call "want_roads" (.cons (.slot 0) (.cons (.slot 1) .nil)) [] []),
  .ite (.cmp .gt (.bif .len (.cons (.slot 1) .nil)) (.slot 0)) [
    .raise 1 (.bif .len (.cons (.slot 1) .nil))] [],
  .expr (.call "want_whole" (.cons (.slot 0) (.cons (.slot 1) .nil)) [] []),
  .ite (.cmp .ne (.bif .len (.cons (.slot 2) .nil)) (.slot 0)) [
    .raise 5 (.bif .len (.cons (.slot 2) .nil))] [],
  .for_ (.tup [.nm 3, .nm 4]) (.enum (.slot 2)) [
    .ite (.not (.isa (.slot 4) (.cls 1))) [
      .raise 5 (.tup (.cons (.slot 3) .nil))] []],
  .ret (.mk 0 (.cons (.slot 0) (.cons (.slot 1) (.cons (.slot 2) .nil))))]⟩
def n_made_land : List Str := [Str.ofString "n", Str.ofString "roads", Str.ofString "lamps", Str.ofString "at", Str.ofString "lamp"]
def i_is_tree : IFun := ⟨1, 1, [
  .ret (.cmp .lt (.bif .len (.cons (.fld (.slot 0) 0 1) .nil)) (.fld (.slot 0) 0 0))]⟩
def n_is_tree : List Str := [Str.ofString "land"]
def i_want_tree : IFun := ⟨1, 1, [
  .ite (.not (.call "is_tree" (.cons (.slot 0) .nil) [] [])) [
    .raise 8 (.cst (.int 0))] []]⟩
def n_want_tree : List Str := [Str.ofString "land"]
def i_want_place : IFun := ⟨2, 2, [
  .ite (.not (.chn (.cst (.int 0)) (.more .le (.slot 1) (.last .lt (.fld (.slot 0) 0 0))))) [
    .raise 6 (.slot 1)] []]⟩
def n_want_place : List Str := [Str.ofString "land", Str.ofString "x"]
def i_want_row : IFun := ⟨2, 4, [
  .ite (.cmp .ne (.bif .len (.cons (.slot 1) .nil)) (.fld (.slot 0) 0 0)) [
    .raise 7 (.bif .len (.cons (.slot 1) .nil))] [],
  .for_ (.tup [.nm 2, .nm 3]) (.enum (.slot 1)) [
    .ite (.not (.chn (.cst (.int 0)) (.more .le (.slot 3) (.last .lt (.fld (.idx (.fld (.slot 0) 0 2) (.slot 2)) 1 0))))) [
      .raise 7 (.tup (.cons (.slot 2) .nil))] []]]⟩
def n_want_row : List Str := [Str.ofString "land", Str.ofString "row", Str.ofString "at", Str.ofString "position"]
def i_want_state : IFun := ⟨2, 2, [
  .expr (.call "want_place" (.cons (.slot 0) (.cons (.idx (.slot 1) (.cst (.int 0))) .nil)) [] []),
  .expr (.call "want_row" (.cons (.slot 0) (.cons (.idx (.slot 1) (.cst (.int 1))) .nil)) [] [])]⟩
def n_want_state : List Str := [Str.ofString "land", Str.ofString "state"]
def i_changed_of : IFun := ⟨2, 4, [
  .ret (.bif .tuple (.cons (.comp (.slot 2) (.tup [.nm 2, .nm 3]) (.enum (.idx (.slot 0) (.cst (.int 1)))) (.cons (.cmp .ne (.idx (.idx (.slot 1) (.cst (.int 1))) (.slot 2)) (.slot 3)) .nil) [2, 3]) .nil))]⟩
def n_changed_of : List Str := [Str.ofString "a", Str.ofString "b", Str.ofString "place", Str.ofString "position"]
def i_crossing_of : IFun := ⟨5, 7, [
  .set 5 (.call "reached" (.cons (.bin .add (.slc (.fld (.slot 0) 0 1) none (some (.slot 1))) (.slc (.fld (.slot 0) 0 1) (some (.bin .add (.slot 1) (.cst (.int 1)))) none)) (.cons (.idx (.slot 2) (.cst (.int 0))) .nil)) [] []),
  .ite (.cmp .notin (.idx (.slot 3) (.cst (.int 0))) (.slot 5)) [
    .ret (.cst (.int 1))] [],
  .ret (.ite (.cmp .ne (.comp (.slot 6) (.nm 6) (.val (.slot 4)) (.cons (.cmp .notin (.slot 6) (.slot 5)) .nil) [6]) (.lst (.nil))) (.cst (.int 2)) (.cst (.int 0)))]⟩
def n_crossing_of : List Str := [Str.ofString "land", Str.ofString "road", Str.ofString "a", Str.ofString "b", Str.ofString "places", Str.ofString "side", Str.ofString "place"]
def i_crossings_of : IFun := ⟨3, 5, [
  .set 3 (.call "changed_of" (.cons (.slot 1) (.cons (.slot 2) .nil)) [] []),
  .ret (.bif .tuple (.cons (.comp (.call "crossing_of" (.cons (.slot 0) (.cons (.slot 4) (.cons (.slot 1) (.cons (.slot 2) (.cons (.slot 3) .nil))))) [] []) (.nm 4) (.range1 (.bif .len (.cons (.fld (.slot 0) 0 1) .nil))) (.nil) [4]) .nil))]⟩
def n_crossings_of : List Str := [Str.ofString "land", Str.ofString "a", Str.ofString "b", Str.ofString "places", Str.ofString "road"]
def i_crossings : IFun := ⟨3, 3, [
  .expr (.call "want_tree" (.cons (.slot 0) .nil) [] []),
  .expr (.call "want_state" (.cons (.slot 0) (.cons (.slot 1) .nil)) [] []),
  .expr (.call "want_state" (.cons (.slot 0) (.cons (.slot 2) .nil)) [] []),
  .ret (.call "crossings_of" (.cons (.slot 0) (.cons (.slot 1) (.cons (.slot 2) .nil))) [] [])]⟩
def n_crossings : List Str := [Str.ofString "land", Str.ofString "a", Str.ofString "b"]
def i__law_pool : IFun := ⟨2, 5, [
  .set 2 (.cst (.int 0)),
  .ite (.cmp .lt (.slot 1) (.bif .len (.cons (.slot 0) .nil))) [
    .set 2 (.idx (.slot 0) (.slot 1))] [
    .ite (.slot 0) [
      .set 2 (.idx (.slot 0) (.cst (.int 0)))] []],
  .set 3 (.bif .max (.cons (.bif .int (.cons (.slot 2) .nil)) (.cons (.bif .int (.cons (.bin .sub (.neg (.cst (.int 1))) (.slot 2)) .nil)) .nil))),
  .set 4 (.bin .mod (.bif .int (.cons (.bin .mul (.bin .add (.bin .add (.bin .add (.bin .mod (.bif .int (.cons (.slot 3) .nil)) (.cst (.int 2147483629))) (.bin .mul (.bin .mul (.cst (.int 7919)) (.slot 1)) (.slot 1))) (.bin .mul (.cst (.int 31)) (.slot 1))) (.cst (.int 17))) (.cst (.int 48271))) .nil)) (.cst (.int 2147483647))),
  .ret (.lst (.cons (.bin .mul (.slot 3) (.bif .int (.cons (.cmp .ge (.slot 3) (.bin .pow (.cst (.int 10)) (.cst (.int 18)))) .nil))) (.cons (.slot 4) .nil)))]⟩
def n__law_pool : List Str := [Str.ofString "script", Str.ofString "k", Str.ofString "cell", Str.ofString "big", Str.ofString "mixed"]
def i__law_take : IFun := ⟨2, 3, [
  .ite (.cmp .gt (.idx (.slot 0) (.cst (.int 0))) (.cst (.int 0))) [
    .set 2 (.bin .mod (.bif .int (.cons (.idx (.slot 0) (.cst (.int 0))) .nil)) (.slot 1)),
    .put (.slot 0) (.cst (.int 0)) (.bin .fdiv (.idx (.slot 0) (.cst (.int 0))) (.slot 1)),
    .ret (.slot 2)] [],
  .put (.slot 0) (.cst (.int 1)) (.bin .mod (.bif .int (.cons (.bin .add (.bin .mul (.idx (.slot 0) (.cst (.int 1))) (.cst (.int 39373))) (.cst (.int 7))) .nil)) (.cst (.int 2147483647))),
  .ret (.bin .mod (.bif .int (.cons (.bin .fdiv (.bin .mod (.bif .int (.cons (.bin .mul (.idx (.slot 0) (.cst (.int 1))) (.idx (.slot 0) (.cst (.int 1)))) .nil)) (.cst (.int 2147483629))) (.cst (.int 32))) .nil)) (.slot 1))]⟩
def n__law_take : List Str := [Str.ofString "source", Str.ofString "top", Str.ofString "drawn"]
def i__law_one : IFun := ⟨2, 2, [
  .ret (.idx (.slot 1) (.call "_law_take" (.cons (.slot 0) (.cons (.bif .len (.cons (.slot 1) .nil)) .nil)) [] []))]⟩
def n__law_one : List Str := [Str.ofString "source", Str.ofString "things"]
def i__law_tree_roads : IFun := ⟨3, 5, [
  .set 3 (.lst (.nil)),
  .for_ (.nm 4) (.range2 (.cst (.int 1)) (.slot 1)) [
    .expr (.meth .append (.slot 3) (.cons (.tup (.cons (.call "_law_take" (.cons (.slot 0) (.cons (.slot 4) .nil)) [] []) (.cons (.slot 4) (.cons (.call "_law_one" (.cons (.slot 0) (.cons (.slot 2) .nil)) [] []) .nil)))) .nil))],
  .ret (.bif .tuple (.cons (.bif .sorted (.cons (.slot 3) .nil)) .nil))]⟩
def n__law_tree_roads : List Str := [Str.ofString "source", Str.ofString "many", Str.ofString "lengths", Str.ofString "found", Str.ofString "x"]
def i__law_web : IFun := ⟨3, 10, [
  .set 3 (.call "_law_one" (.cons (.slot 0) (.cons (.slot 1) .nil)) [] []),
  .set 4 (.bif .list (.cons (.call "_law_tree_roads" (.cons (.slot 0) (.cons (.slot 3) (.cons (.slot 2) .nil))) [] []) .nil)),
  .ite (.and (.cmp .gt (.slot 3) (.cst (.int 2))) (.cmp .eq (.call "_law_take" (.cons (.slot 0) (.cons (.cst (.int 3)) .nil)) [] []) (.cst (.int 0)))) [
    .unp (.tup [.nm 5, .nm 6]) (.tup (.cons (.lst (.nil)) (.cons (.comp (.slc (.slot 8) none (some (.cst (.int 2)))) (.nm 8) (.val (.slot 4)) (.nil) [8]) .nil))),
    .for_ (.nm 7) (.range1 (.slot 3)) [
      .expr (.meth .extend (.slot 5) (.cons (.comp (.tup (.cons (.slot 9) (.cons (.slot 7) .nil))) (.nm 9) (.range1 (.slot 7)) (.cons (.cmp .notin (.tup (.cons (.slot 9) (.cons (.slot 7) .nil))) (.slot 6)) .nil) [9]) .nil))],
    .expr (.meth .append (.slot 4) (.cons (.bin .add (.call "_law_one" (.cons (.slot 0) (.cons (.slot 5) .nil)) [] []) (.tup (.cons (.call "_law_one" (.cons (.slot 0) (.cons (.slot 2) .nil)) [] []) .nil))) .nil))] [],
  .ret (.tup (.cons (.slot 3) (.cons (.bif .tuple (.cons (.bif .sorted (.cons (.slot 4) .nil)) .nil)) .nil)))]⟩
def n__law_web : List Str := [Str.ofString "source", Str.ofString "menu", Str.ofString "lengths", Str.ofString "many", Str.ofString "roads", Str.ofString "free", Str.ofString "used", Str.ofString "q", Str.ofString "road", Str.ofString "p"]
def i__law_land : IFun := ⟨3, 6, [
  .set 3 (.call "_law_one" (.cons (.slot 0) (.cons (.slot 1) .nil)) [] []),
  .set 4 (.call "_law_tree_roads" (.cons (.slot 0) (.cons (.slot 3) (.cons (.slot 2) .nil))) [] []),
  .ret (.tup (.cons (.slot 4) (.cons (.bif .tuple (.cons (.comp (.call "_law_web" (.cons (.slot 0) (.cons (.lst (.cons (.cst (.int 2)) (.cons (.cst (.int 1)) (.cons (.cst (.int 2)) (.cons (.cst (.int 3)) .nil))))) (.cons (.slot 2) .nil))) [] []) (.nm 5) (.range1 (.slot 3)) (.nil) [5]) .nil)) .nil)))]⟩
def n__law_land : List Str := [Str.ofString "source", Str.ofString "menu", Str.ofString "lengths", Str.ofString "n", Str.ofString "roads", Str.ofString "x"]
def i__law_row : IFun := ⟨2, 4, [
  .ret (.bif .tuple (.cons (.comp (.call "_law_take" (.cons (.slot 0) (.cons (.slot 2) .nil)) [] []) (.tup [.nm 2, .nm 3]) (.val (.slot 1)) (.nil) [2, 3]) .nil))]⟩
def n__law_row : List Str := [Str.ofString "source", Str.ofString "lamps", Str.ofString "many", Str.ofString "roads"]
def i__law_state : IFun := ⟨2, 2, [
  .ret (.tup (.cons (.call "_law_take" (.cons (.slot 0) (.cons (.bif .len (.cons (.slot 1) .nil)) .nil)) [] []) (.cons (.call "_law_row" (.cons (.slot 0) (.cons (.slot 1) .nil)) [] []) .nil)))]⟩
def n__law_state : List Str := [Str.ofString "source", Str.ofString "lamps"]
def i__law_tied : IFun := ⟨2, 5, [
  .ret (.bif .sorted (.cons (.bin .add (.comp (.tup (.cons (.slot 3) (.cons (.slot 4) .nil))) (.tup [.nm 2, .nm 3, .nm 4]) (.val (.slot 0)) (.cons (.cmp .eq (.slot 2) (.slot 1)) .nil) [2, 3, 4]) (.comp (.tup (.cons (.slot 2) (.cons (.slot 4) .nil))) (.tup [.nm 2, .nm 3, .nm 4]) (.val (.slot 0)) (.cons (.cmp .eq (.slot 3) (.slot 1)) .nil) [2, 3, 4])) .nil))]⟩
def n__law_tied : List Str := [Str.ofString "roads", Str.ofString "x", Str.ofString "p", Str.ofString "q", Str.ofString "far"]
def i__law_side : IFun := ⟨3, 7, [
  .par [3, 4] (.cons (.lst (.cons (.slot 2) .nil)) (.cons (.lst (.cons (.slot 2) .nil)) .nil)),
  .while_ (.cmp .ne (.slot 4) (.lst (.nil))) [
    .for_ (.tup [.nm 5, .nm 6]) (.val (.call "_law_tied" (.cons (.bin .add (.slc (.slot 0) none (some (.slot 1))) (.slc (.slot 0) (some (.bin .add (.slot 1) (.cst (.int 1)))) none)) (.cons (.meth .pop (.slot 4) (.nil)) .nil)) [] [])) [
      .ite (.cmp .notin (.slot 5) (.slot 3)) [
        .expr (.meth .append (.slot 3) (.cons (.slot 5) .nil)),
        .expr (.meth .append (.slot 4) (.cons (.slot 5) .nil))] []]],
  .ret (.slot 3)]⟩
def n__law_side : List Str := [Str.ofString "roads", Str.ofString "road", Str.ofString "x", Str.ofString "found", Str.ofString "waiting", Str.ofString "y", Str.ofString "far"]
def i__law_crossings : IFun := ⟨3, 10, [
  .unp (.tup [.nm 3, .nm 4]) (.slot 0),
  .par [5, 6] (.cons (.comp (.slot 9) (.nm 9) (.range1 (.bif .len (.cons (.slot 4) .nil))) (.cons (.cmp .ne (.idx (.idx (.slot 1) (.cst (.int 1))) (.slot 9)) (.idx (.idx (.slot 2) (.cst (.int 1))) (.slot 9))) .nil) [9]) (.cons (.lst (.nil)) .nil)),
  .for_ (.nm 7) (.range1 (.bif .len (.cons (.slot 3) .nil))) [
    .set 8 (.call "_law_side" (.cons (.slot 3) (.cons (.slot 7) (.cons (.idx (.slot 1) (.cst (.int 0))) .nil))) [] []),
    .ite (.cmp .notin (.idx (.slot 2) (.cst (.int 0))) (.slot 8)) [
      .expr (.meth .append (.slot 6) (.cons (.cst (.int 1)) .nil))] [
      .expr (.meth .append (.slot 6) (.cons (.ite (.cmp .ne (.comp (.slot 9) (.nm 9) (.val (.slot 5)) (.cons (.cmp .notin (.slot 9) (.slot 8)) .nil) [9]) (.lst (.nil))) (.cst (.int 2)) (.cst (.int 0))) .nil))]],
  .ret (.slot 6)]⟩
def n__law_crossings : List Str := [Str.ofString "land", Str.ofString "a", Str.ofString "b", Str.ofString "roads", Str.ofString "lamps", Str.ofString "changed", Str.ofString "found", Str.ofString "road", Str.ofString "side", Str.ofString "x"]
def i__law_made : IFun := ⟨1, 5, [
  .unp (.tup [.nm 1, .nm 2]) (.slot 0),
  .ret (.call "made_land" (.cons (.bif .len (.cons (.slot 2) .nil)) (.cons (.slot 1) (.cons (.bif .tuple (.cons (.comp (.call "made_web" (.cons (.slot 3) (.cons (.slot 4) .nil)) [] []) (.tup [.nm 3, .nm 4]) (.val (.slot 2)) (.nil) [3, 4]) .nil)) .nil))) [] [])]⟩
def n__law_made : List Str := [Str.ofString "land", Str.ofString "roads", Str.ofString "lamps", Str.ofString "many", Str.ofString "ties"]
def i__law_second : IFun := ⟨3, 5, [
  .set 3 (.bif .tuple (.cons (.comp (.ite (.cmp .eq (.call "_law_take" (.cons (.slot 0) (.cons (.cst (.int 2)) .nil)) [] []) (.cst (.int 0))) (.idx (.idx (.slot 2) (.cst (.int 1))) (.slot 4)) (.call "_law_take" (.cons (.slot 0) (.cons (.idx (.idx (.slot 1) (.slot 4)) (.cst (.int 0))) .nil)) [] [])) (.nm 4) (.range1 (.bif .len (.cons (.slot 1) .nil))) (.nil) [4]) .nil)),
  .ret (.tup (.cons (.call "_law_one" (.cons (.slot 0) (.cons (.lst (.cons (.idx (.slot 2) (.cst (.int 0))) (.cons (.call "_law_take" (.cons (.slot 0) (.cons (.bif .len (.cons (.slot 1) .nil)) .nil)) [] []) (.cons (.call "_law_take" (.cons (.slot 0) (.cons (.bif .len (.cons (.slot 1) .nil)) .nil)) [] []) .nil)))) .nil)) [] []) (.cons (.slot 3) .nil)))]⟩
def n__law_second : List Str := [Str.ofString "source", Str.ofString "lamps", Str.ofString "a", Str.ofString "row", Str.ofString "x"]
def i__law_told : IFun := ⟨3, 4, [
  .tryW [
    .ret (.call "crossings" (.cons (.slot 2) (.cons (.slot 1) (.cons (.slot 0) .nil))) ["b", "a", "land"] [2, 1, 0])] [([6], 3, false, Str.ofString "place"), ([7], 3, false, Str.ofString "state"), ([1, 2, 3, 4, 5, 6, 7, 8], 3, false, Str.ofString "other")]]⟩
def n__law_told : List Str := [Str.ofString "land", Str.ofString "a", Str.ofString "b", Str.ofString "refused"]
def i__law_spoilt : IFun := ⟨3, 9, [
  .unp (.tup [.nm 3, .nm 4]) (.slot 2),
  .set 5 (.call "_law_take" (.cons (.slot 0) (.cons (.bif .len (.cons (.slot 1) .nil)) .nil)) [] []),
  .set 6 (.call "_law_one" (.cons (.slot 0) (.cons (.lst (.cons (.idx (.idx (.slot 1) (.slot 5)) (.cst (.int 0))) (.cons (.neg (.cst (.int 1))) (.cons (.bin .pow (.cst (.int 10)) (.cst (.int 20))) .nil)))) .nil)) [] []),
  .set 7 (.bin .add (.bin .add (.slc (.slot 4) none (some (.slot 5))) (.tup (.cons (.slot 6) .nil))) (.slc (.slot 4) (some (.bin .add (.slot 5) (.cst (.int 1)))) none)),
  .set 8 (.call "_law_take" (.cons (.slot 0) (.cons (.cst (.int 4)) .nil)) [] []),
  .ite (.cmp .eq (.slot 8) (.cst (.int 0))) [
    .ret (.tup (.cons (.tup (.cons (.bif .len (.cons (.slot 1) .nil)) (.cons (.slot 7) .nil))) (.cons (.tup (.cons (.cst (.str (Str.ofString "place"))) (.cons (.bif .len (.cons (.slot 1) .nil)) .nil))) .nil)))] [],
  .ite (.cmp .eq (.slot 8) (.cst (.int 1))) [
    .ret (.tup (.cons (.tup (.cons (.slot 3) (.cons (.slc (.slot 4) none (some (.neg (.cst (.int 1))))) .nil))) (.cons (.tup (.cons (.cst (.str (Str.ofString "state"))) (.cons (.bin .sub (.bif .len (.cons (.slot 4) .nil)) (.cst (.int 1))) .nil))) .nil)))] [],
  .ite (.cmp .eq (.slot 8) (.cst (.int 2))) [
    .ret (.tup (.cons (.tup (.cons (.slot 3) (.cons (.bin .add (.slot 7) (.tup (.cons (.cst (.int 0)) .nil))) .nil))) (.cons (.tup (.cons (.cst (.str (Str.ofString "state"))) (.cons (.bin .add (.bif .len (.cons (.slot 4) .nil)) (.cst (.int 1))) .nil))) .nil)))] [],
  .ret (.tup (.cons (.tup (.cons (.slot 3) (.cons (.slot 7) .nil))) (.cons (.tup (.cons (.cst (.str (Str.ofString "state"))) (.cons (.tup (.cons (.slot 5) .nil)) .nil))) .nil)))]⟩
def n__law_spoilt : List Str := [Str.ofString "source", Str.ofString "lamps", Str.ofString "state", Str.ofString "place", Str.ofString "row", Str.ofString "at", Str.ofString "far", Str.ofString "bad", Str.ofString "way"]
def i_law : IFun := ⟨1, 11, [
  .set 1 (.call "_law_pool" (.cons (.slot 0) (.cons (.cst (.int 0)) .nil)) [] []),
  .for_ (.nm 2) (.range1 (.cst (.int 3))) [
    .set 3 (.call "_law_land" (.cons (.slot 1) (.cons (.lst (.cons (.cst (.int 3)) (.cons (.cst (.int 4)) (.cons (.cst (.int 2)) (.cons (.cst (.int 5)) (.cons (.cst (.int 6)) (.cons (.cst (.int 1)) (.cons (.cst (.int 4)) (.cons (.cst (.int 3)) (.cons (.cst (.int 5)) (.cons (.cst (.int 10)) .nil))))))))))) (.cons (.lst (.cons (.cst (.int 1)) (.cons (.cst (.int 2)) (.cons (.cst (.int 3)) .nil)))) .nil))) [] []),
    .par [4, 5] (.cons (.call "_law_made" (.cons (.slot 3) .nil) [] []) (.cons (.call "_law_state" (.cons (.slot 1) (.cons (.idx (.slot 3) (.cst (.int 1))) .nil)) [] []) .nil)),
    .for_ (.nm 6) (.val (.lst (.cons (.call "_law_second" (.cons (.slot 1) (.cons (.idx (.slot 3) (.cst (.int 1))) (.cons (.slot 5) .nil))) [] []) (.cons (.tup (.cons (.call "_law_take" (.cons (.slot 1) (.cons (.bif .len (.cons (.idx (.slot 3) (.cst (.int 1))) .nil)) .nil)) [] []) (.cons (.idx (.slot 5) (.cst (.int 1))) .nil))) (.cons (.slot 5) .nil))))) [
      .set 7 (.bif .tuple (.cons (.call "_law_crossings" (.cons (.slot 3) (.cons (.slot 5) (.cons (.slot 6) .nil))) [] []) .nil)),
      .ite (.or (.cmp .ne (.call "_law_told" (.cons (.slot 4) (.cons (.slot 5) (.cons (.slot 6) .nil))) [] []) (.slot 7)) (.cmp .ne (.call "_law_told" (.cons (.slot 4) (.cons (.slot 6) (.cons (.slot 5) .nil))) [] []) (.slot 7))) [
        .ret (.cst (.bl false))] []],
    .unp (.tup [.tup [.nm 8, .nm 7], .tup [.nm 9, .nm 10]]) (.tup (.cons (.call "_law_spoilt" (.cons (.slot 1) (.cons (.idx (.slot 3) (.cst (.int 1))) (.cons (.slot 5) .nil))) [] []) (.cons (.call "_law_spoilt" (.cons (.slot 1) (.cons (.idx (.slot 3) (.cst (.int 1))) (.cons (.slot 5) .nil))) [] []) .nil))),
    .ite (.or (.cmp .ne (.call "_law_told" (.cons (.slot 4) (.cons (.slot 8) (.cons (.slot 9) .nil))) [] []) (.slot 7)) (.cmp .ne (.call "_law_told" (.cons (.slot 4) (.cons (.slot 5) (.cons (.slot 9) .nil))) [] []) (.slot 10))) [
      .ret (.cst (.bl false))] []],
  .ret (.cst (.bl true))]⟩
def n_law : List Str := [Str.ofString "script", Str.ofString "source", Str.ofString "turn", Str.ofString "land", Str.ofString "made", Str.ofString "a", Str.ofString "b", Str.ofString "due", Str.ofString "bad", Str.ofString "worse", Str.ofString "later"]
def L : List (String × IFun) := [("is_number", i_is_number), ("is_road", i_is_road), ("want_roads", i_want_roads), ("tied", i_tied), ("reached", i_reached), ("want_whole", i_want_whole), ("made_web", i_made_web), ("made_land", i_made_land), ("is_tree", i_is_tree), ("want_tree", i_want_tree), ("want_place", i_want_place), ("want_row", i_want_row), ("want_state", i_want_state), ("changed_of", i_changed_of), ("crossing_of", i_crossing_of), ("crossings_of", i_crossings_of), ("crossings", i_crossings), ("_law_pool", i__law_pool), ("_law_take", i__law_take), ("_law_one", i__law_one), ("_law_tree_roads", i__law_tree_roads), ("_law_web", i__law_web), ("_law_land", i__law_land), ("_law_row", i__law_row), ("_law_state", i__law_state), ("_law_tied", i__law_tied), ("_law_side", i__law_side), ("_law_crossings", i__law_crossings), ("_law_made", i__law_made), ("_law_second", i__law_second), ("_law_told", i__law_told), ("_law_spoilt", i__law_spoilt), ("law", i_law)]
def consts : List (String × D) := [("MOST_POSITIONS", .int 6), ("MOST_LENGTH", .int 100), ("MOST_PLACES", .int 10)]
def P : Prog := ⟨fun f => L.lookup f, fun x => consts.lookup x, fun c => [3, 2][c]?, [("crossings", ["b", "a", "land"], [2, 1, 0])]⟩
def recs : List (Str × List Str) := [(Str.ofString "Land", [Str.ofString "many", Str.ofString "roads", Str.ofString "lamps"]), (Str.ofString "Web", [Str.ofString "many", Str.ofString "roads"])]
def errs : List (Nat × Str) := [(1, Str.ofString "BadSize"), (2, Str.ofString "BadRoad"), (3, Str.ofString "Parted"), (4, Str.ofString "BadLength"), (5, Str.ofString "BadLamp"), (6, Str.ofString "BadPlace"), (7, Str.ofString "BadState"), (8, Str.ofString "NotTree")]
def hns : List (Str × List Nat) := [(Str.ofString "BadPlace", [6]), (Str.ofString "BadState", [7]), (Str.ofString "Refused", [1, 2, 3, 4, 5, 6, 7, 8])]
abbrev T : Tab := mkT recs errs hns
theorem c_is_number : chkSs T P i_is_number.body ⟨n_is_number, defScope (st 11), fun _ => true⟩ (defBody (st 11)) = true := by decide +kernel
theorem s_is_number : FnScope n_is_number (n_is_number.take 1) (defScope (st 11)) := ⟨rfl, rfl, rfl, by decide +kernel, by decide +kernel, by decide +kernel, by decide +kernel⟩
theorem t_is_number : DefT T P "is_number" i_is_number n_is_number (st 11) := ⟨s_is_number, by decide, rfl, c_is_number, fun _ _ _ _ _ _ us hl => match us, hl with | [_], _ => rfl, fun ks pm h => absurd h (by simp [P])⟩
theorem c_is_road : chkSs T P i_is_road.body ⟨n_is_road, defScope (st 16), fun _ => true⟩ (defBody (st 16)) = true := by decide +kernel
theorem s_is_road : FnScope n_is_road (n_is_road.take 2) (defScope (st 16)) := ⟨rfl, rfl, rfl, by decide +kernel, by decide +kernel, by decide +kernel, by decide +kernel⟩
theorem t_is_road : DefT T P "is_road" i_is_road n_is_road (st 16) := ⟨s_is_road, by decide, rfl, c_is_road, fun _ _ _ _ _ _ us hl => match us, hl with | [_, _], _ => rfl, fun ks pm h => absurd h (by simp [P])⟩
theorem c_want_roads : chkSs T P i_want_roads.body ⟨n_want_roads, defScope (st 17), fun _ => true⟩ (defBody (st 17)) = true := by decide +kernel
theorem s_want_roads : FnScope n_want_roads (n_want_roads.take 2) (defScope (st 17)) := ⟨rfl, rfl, rfl, by decide +kernel, by decide +kernel, by decide +kernel, by decide +kernel⟩
theorem t_want_roads : DefT T P "want_roads" i_want_roads n_want_roads (st 17) := ⟨s_want_roads, by decide, rfl, c_want_roads, fun _ _ _ _ _ _ us hl => match us, hl with | [_, _], _ => rfl, fun ks pm h => absurd h (by simp [P])⟩
theorem c_tied : chkSs T P i_tied.body ⟨n_tied, defScope (st 18), fun _ => true⟩ (defBody (st 18)) = true := by decide +kernel
theorem s_tied : FnScope n_tied (n_tied.take 2) (defScope (st 18)) := ⟨rfl, rfl, rfl, by decide +kernel, by decide +kernel, by decide +kernel, by decide +kernel⟩
theorem t_tied : DefT T P "tied" i_tied n_tied (st 18) := ⟨s_tied, by decide, rfl, c_tied, fun _ _ _ _ _ _ us hl => match us, hl with | [_, _], _ => rfl, fun ks pm h => absurd h (by simp [P])⟩
theorem c_reached : chkSs T P i_reached.body ⟨n_reached, defScope (st 19), fun _ => true⟩ (defBody (st 19)) = true := by decide +kernel
theorem s_reached : FnScope n_reached (n_reached.take 2) (defScope (st 19)) := ⟨rfl, rfl, rfl, by decide +kernel, by decide +kernel, by decide +kernel, by decide +kernel⟩
theorem t_reached : DefT T P "reached" i_reached n_reached (st 19) := ⟨s_reached, by decide, rfl, c_reached, fun _ _ _ _ _ _ us hl => match us, hl with | [_, _], _ => rfl, fun ks pm h => absurd h (by simp [P])⟩
theorem c_want_whole : chkSs T P i_want_whole.body ⟨n_want_whole, defScope (st 20), fun _ => true⟩ (defBody (st 20)) = true := by decide +kernel
theorem s_want_whole : FnScope n_want_whole (n_want_whole.take 2) (defScope (st 20)) := ⟨rfl, rfl, rfl, by decide +kernel, by decide +kernel, by decide +kernel, by decide +kernel⟩
theorem t_want_whole : DefT T P "want_whole" i_want_whole n_want_whole (st 20) := ⟨s_want_whole, by decide, rfl, c_want_whole, fun _ _ _ _ _ _ us hl => match us, hl with | [_, _], _ => rfl, fun ks pm h => absurd h (by simp [P])⟩
theorem c_made_web : chkSs T P i_made_web.body ⟨n_made_web, defScope (st 21), fun _ => true⟩ (defBody (st 21)) = true := by decide +kernel
theorem s_made_web : FnScope n_made_web (n_made_web.take 2) (defScope (st 21)) := ⟨rfl, rfl, rfl, by decide +kernel, by decide +kernel, by decide +kernel, by decide +kernel⟩
theorem t_made_web : DefT T P "made_web" i_made_web n_made_web (st 21) := ⟨s_made_web, by decide, rfl, c_made_web, fun _ _ _ _ _ _ us hl => match us, hl with | [_, _], _ => rfl, fun ks pm h => absurd h (by simp [P])⟩
theorem c_made_land : chkSs T P i_made_land.body ⟨n_made_land, defScope (st 25), fun _ => true⟩ (defBody (st 25)) = true := by decide +kernel
theorem s_made_land : FnScope n_made_land (n_made_land.take 3) (defScope (st 25)) := ⟨rfl, rfl, rfl, by decide +kernel, by decide +kernel, by decide +kernel, by decide +kernel⟩
theorem t_made_land : DefT T P "made_land" i_made_land n_made_land (st 25) := ⟨s_made_land, by decide, rfl, c_made_land, fun _ _ _ _ _ _ us hl => match us, hl with | [_, _, _], _ => rfl, fun ks pm h => absurd h (by simp [P])⟩
theorem c_is_tree : chkSs T P i_is_tree.body ⟨n_is_tree, defScope (st 26), fun _ => true⟩ (defBody (st 26)) = true := by decide +kernel
theorem s_is_tree : FnScope n_is_tree (n_is_tree.take 1) (defScope (st 26)) := ⟨rfl, rfl, rfl, by decide +kernel, by decide +kernel, by decide +kernel, by decide +kernel⟩
theorem t_is_tree : DefT T P "is_tree" i_is_tree n_is_tree (st 26) := ⟨s_is_tree, by decide, rfl, c_is_tree, fun _ _ _ _ _ _ us hl => match us, hl with | [_], _ => rfl, fun ks pm h => absurd h (by simp [P])⟩
theorem c_want_tree : chkSs T P i_want_tree.body ⟨n_want_tree, defScope (st 27), fun _ => true⟩ (defBody (st 27)) = true := by decide +kernel
theorem s_want_tree : FnScope n_want_tree (n_want_tree.take 1) (defScope (st 27)) := ⟨rfl, rfl, rfl, by decide +kernel, by decide +kernel, by decide +kernel, by decide +kernel⟩
theorem t_want_tree : DefT T P "want_tree" i_want_tree n_want_tree (st 27) := ⟨s_want_tree, by decide, rfl, c_want_tree, fun _ _ _ _ _ _ us hl => match us, hl with | [_], _ => rfl, fun ks pm h => absurd h (by simp [P])⟩
theorem c_want_place : chkSs T P i_want_place.body ⟨n_want_place, defScope (st 28), fun _ => true⟩ (defBody (st 28)) = true := by decide +kernel
theorem s_want_place : FnScope n_want_place (n_want_place.take 2) (defScope (st 28)) := ⟨rfl, rfl, rfl, by decide +kernel, by decide +kernel, by decide +kernel, by decide +kernel⟩
theorem t_want_place : DefT T P "want_place" i_want_place n_want_place (st 28) := ⟨s_want_place, by decide, rfl, c_want_place, fun _ _ _ _ _ _ us hl => match us, hl with | [_, _], _ => rfl, fun ks pm h => absurd h (by simp [P])⟩
theorem c_want_row : chkSs T P i_want_row.body ⟨n_want_row, defScope (st 30), fun _ => true⟩ (defBody (st 30)) = true := by decide +kernel
theorem s_want_row : FnScope n_want_row (n_want_row.take 2) (defScope (st 30)) := ⟨rfl, rfl, rfl, by decide +kernel, by decide +kernel, by decide +kernel, by decide +kernel⟩
theorem t_want_row : DefT T P "want_row" i_want_row n_want_row (st 30) := ⟨s_want_row, by decide, rfl, c_want_row, fun _ _ _ _ _ _ us hl => match us, hl with | [_, _], _ => rfl, fun ks pm h => absurd h (by simp [P])⟩
theorem c_want_state : chkSs T P i_want_state.body ⟨n_want_state, defScope (st 31), fun _ => true⟩ (defBody (st 31)) = true := by decide +kernel
theorem s_want_state : FnScope n_want_state (n_want_state.take 2) (defScope (st 31)) := ⟨rfl, rfl, rfl, by decide +kernel, by decide +kernel, by decide +kernel, by decide +kernel⟩
theorem t_want_state : DefT T P "want_state" i_want_state n_want_state (st 31) := ⟨s_want_state, by decide, rfl, c_want_state, fun _ _ _ _ _ _ us hl => match us, hl with | [_, _], _ => rfl, fun ks pm h => absurd h (by simp [P])⟩
theorem c_changed_of : chkSs T P i_changed_of.body ⟨n_changed_of, defScope (st 33), fun _ => true⟩ (defBody (st 33)) = true := by decide +kernel
theorem s_changed_of : FnScope n_changed_of (n_changed_of.take 2) (defScope (st 33)) := ⟨rfl, rfl, rfl, by decide +kernel, by decide +kernel, by decide +kernel, by decide +kernel⟩
theorem t_changed_of : DefT T P "changed_of" i_changed_of n_changed_of (st 33) := ⟨s_changed_of, by decide, rfl, c_changed_of, fun _ _ _ _ _ _ us hl => match us, hl with | [_, _], _ => rfl, fun ks pm h => absurd h (by simp [P])⟩
theorem c_crossing_of : chkSs T P i_crossing_of.body ⟨n_crossing_of, defScope (st 34), fun _ => true⟩ (defBody (st 34)) = true := by decide +kernel
theorem s_crossing_of : FnScope n_crossing_of (n_crossing_of.take 5) (defScope (st 34)) := ⟨rfl, rfl, rfl, by decide +kernel, by decide +kernel, by decide +kernel, by decide +kernel⟩
theorem t_crossing_of : DefT T P "crossing_of" i_crossing_of n_crossing_of (st 34) := ⟨s_crossing_of, by decide, rfl, c_crossing_of, fun _ _ _ _ _ _ us hl => match us, hl with | [_, _, _, _, _], _ => rfl, fun ks pm h => absurd h (by simp [P])⟩
theorem c_crossings_of : chkSs T P i_crossings_of.body ⟨n_crossings_of, defScope (st 35), fun _ => true⟩ (defBody (st 35)) = true := by decide +kernel
theorem s_crossings_of : FnScope n_crossings_of (n_crossings_of.take 3) (defScope (st 35)) := ⟨rfl, rfl, rfl, by decide +kernel, by decide +kernel, by decide +kernel, by decide +kernel⟩
theorem t_crossings_of : DefT T P "crossings_of" i_crossings_of n_crossings_of (st 35) := ⟨s_crossings_of, by decide, rfl, c_crossings_of, fun _ _ _ _ _ _ us hl => match us, hl with | [_, _, _], _ => rfl, fun ks pm h => absurd h (by simp [P])⟩
theorem c_crossings : chkSs T P i_crossings.body ⟨n_crossings, defScope (st 36), fun _ => true⟩ (defBody (st 36)) = true := by decide +kernel
theorem s_crossings : FnScope n_crossings (n_crossings.take 3) (defScope (st 36)) := ⟨rfl, rfl, rfl, by decide +kernel, by decide +kernel, by decide +kernel, by decide +kernel⟩
theorem t_crossings : DefT T P "crossings" i_crossings n_crossings (st 36) := ⟨s_crossings, by decide, rfl, c_crossings, fun _ _ _ _ _ _ us hl => match us, hl with | [_, _, _], _ => rfl, fun ks pm h => by
  have h : (ks = ["b", "a", "land"] ∧ pm = [2, 1, 0]) := by simpa [P] using h
  rcases h with ⟨rfl, rfl⟩
  · intro kV doc pm2 an cdv ct ws ws2 hl hp
    match ws, hl with
    | [u0, u1, u2], _ =>
      have e : ws2 = [u2, u1, u0] := (Option.some.inj ((show _ = some [u2, u1, u0] from rfl).symm.trans hp)).symm
      subst e
      rfl
⟩
theorem c__law_pool : chkSs T P i__law_pool.body ⟨n__law_pool, defScope (st 38), fun _ => true⟩ (defBody (st 38)) = true := by decide +kernel
theorem s__law_pool : FnScope n__law_pool (n__law_pool.take 2) (defScope (st 38)) := ⟨rfl, rfl, rfl, by decide +kernel, by decide +kernel, by decide +kernel, by decide +kernel⟩
theorem t__law_pool : DefT T P "_law_pool" i__law_pool n__law_pool (st 38) := ⟨s__law_pool, by decide, rfl, c__law_pool, fun _ _ _ _ _ _ us hl => match us, hl with | [_, _], _ => rfl, fun ks pm h => absurd h (by simp [P])⟩
theorem c__law_take : chkSs T P i__law_take.body ⟨n__law_take, defScope (st 39), fun _ => true⟩ (defBody (st 39)) = true := by decide +kernel
theorem s__law_take : FnScope n__law_take (n__law_take.take 2) (defScope (st 39)) := ⟨rfl, rfl, rfl, by decide +kernel, by decide +kernel, by decide +kernel, by decide +kernel⟩
theorem t__law_take : DefT T P "_law_take" i__law_take n__law_take (st 39) := ⟨s__law_take, by decide, rfl, c__law_take, fun _ _ _ _ _ _ us hl => match us, hl with | [_, _], _ => rfl, fun ks pm h => absurd h (by simp [P])⟩
theorem c__law_one : chkSs T P i__law_one.body ⟨n__law_one, defScope (st 40), fun _ => true⟩ (defBody (st 40)) = true := by decide +kernel
theorem s__law_one : FnScope n__law_one (n__law_one.take 2) (defScope (st 40)) := ⟨rfl, rfl, rfl, by decide +kernel, by decide +kernel, by decide +kernel, by decide +kernel⟩
theorem t__law_one : DefT T P "_law_one" i__law_one n__law_one (st 40) := ⟨s__law_one, by decide, rfl, c__law_one, fun _ _ _ _ _ _ us hl => match us, hl with | [_, _], _ => rfl, fun ks pm h => absurd h (by simp [P])⟩
theorem c__law_tree_roads : chkSs T P i__law_tree_roads.body ⟨n__law_tree_roads, defScope (st 41), fun _ => true⟩ (defBody (st 41)) = true := by decide +kernel
theorem s__law_tree_roads : FnScope n__law_tree_roads (n__law_tree_roads.take 3) (defScope (st 41)) := ⟨rfl, rfl, rfl, by decide +kernel, by decide +kernel, by decide +kernel, by decide +kernel⟩
theorem t__law_tree_roads : DefT T P "_law_tree_roads" i__law_tree_roads n__law_tree_roads (st 41) := ⟨s__law_tree_roads, by decide, rfl, c__law_tree_roads, fun _ _ _ _ _ _ us hl => match us, hl with | [_, _, _], _ => rfl, fun ks pm h => absurd h (by simp [P])⟩
theorem c__law_web : chkSs T P i__law_web.body ⟨n__law_web, defScope (st 42), fun _ => true⟩ (defBody (st 42)) = true := by decide +kernel
theorem s__law_web : FnScope n__law_web (n__law_web.take 3) (defScope (st 42)) := ⟨rfl, rfl, rfl, by decide +kernel, by decide +kernel, by decide +kernel, by decide +kernel⟩
theorem t__law_web : DefT T P "_law_web" i__law_web n__law_web (st 42) := ⟨s__law_web, by decide, rfl, c__law_web, fun _ _ _ _ _ _ us hl => match us, hl with | [_, _, _], _ => rfl, fun ks pm h => absurd h (by simp [P])⟩
theorem c__law_land : chkSs T P i__law_land.body ⟨n__law_land, defScope (st 43), fun _ => true⟩ (defBody (st 43)) = true := by decide +kernel
theorem s__law_land : FnScope n__law_land (n__law_land.take 3) (defScope (st 43)) := ⟨rfl, rfl, rfl, by decide +kernel, by decide +kernel, by decide +kernel, by decide +kernel⟩
theorem t__law_land : DefT T P "_law_land" i__law_land n__law_land (st 43) := ⟨s__law_land, by decide, rfl, c__law_land, fun _ _ _ _ _ _ us hl => match us, hl with | [_, _, _], _ => rfl, fun ks pm h => absurd h (by simp [P])⟩
theorem c__law_row : chkSs T P i__law_row.body ⟨n__law_row, defScope (st 44), fun _ => true⟩ (defBody (st 44)) = true := by decide +kernel
theorem s__law_row : FnScope n__law_row (n__law_row.take 2) (defScope (st 44)) := ⟨rfl, rfl, rfl, by decide +kernel, by decide +kernel, by decide +kernel, by decide +kernel⟩
theorem t__law_row : DefT T P "_law_row" i__law_row n__law_row (st 44) := ⟨s__law_row, by decide, rfl, c__law_row, fun _ _ _ _ _ _ us hl => match us, hl with | [_, _], _ => rfl, fun ks pm h => absurd h (by simp [P])⟩
theorem c__law_state : chkSs T P i__law_state.body ⟨n__law_state, defScope (st 45), fun _ => true⟩ (defBody (st 45)) = true := by decide +kernel
theorem s__law_state : FnScope n__law_state (n__law_state.take 2) (defScope (st 45)) := ⟨rfl, rfl, rfl, by decide +kernel, by decide +kernel, by decide +kernel, by decide +kernel⟩
theorem t__law_state : DefT T P "_law_state" i__law_state n__law_state (st 45) := ⟨s__law_state, by decide, rfl, c__law_state, fun _ _ _ _ _ _ us hl => match us, hl with | [_, _], _ => rfl, fun ks pm h => absurd h (by simp [P])⟩
theorem c__law_tied : chkSs T P i__law_tied.body ⟨n__law_tied, defScope (st 46), fun _ => true⟩ (defBody (st 46)) = true := by decide +kernel
theorem s__law_tied : FnScope n__law_tied (n__law_tied.take 2) (defScope (st 46)) := ⟨rfl, rfl, rfl, by decide +kernel, by decide +kernel, by decide +kernel, by decide +kernel⟩
theorem t__law_tied : DefT T P "_law_tied" i__law_tied n__law_tied (st 46) := ⟨s__law_tied, by decide, rfl, c__law_tied, fun _ _ _ _ _ _ us hl => match us, hl with | [_, _], _ => rfl, fun ks pm h => absurd h (by simp [P])⟩
theorem c__law_side : chkSs T P i__law_side.body ⟨n__law_side, defScope (st 47), fun _ => true⟩ (defBody (st 47)) = true := by decide +kernel
theorem s__law_side : FnScope n__law_side (n__law_side.take 3) (defScope (st 47)) := ⟨rfl, rfl, rfl, by decide +kernel, by decide +kernel, by decide +kernel, by decide +kernel⟩
theorem t__law_side : DefT T P "_law_side" i__law_side n__law_side (st 47) := ⟨s__law_side, by decide, rfl, c__law_side, fun _ _ _ _ _ _ us hl => match us, hl with | [_, _, _], _ => rfl, fun ks pm h => absurd h (by simp [P])⟩
theorem c__law_crossings : chkSs T P i__law_crossings.body ⟨n__law_crossings, defScope (st 48), fun _ => true⟩ (defBody (st 48)) = true := by decide +kernel
theorem s__law_crossings : FnScope n__law_crossings (n__law_crossings.take 3) (defScope (st 48)) := ⟨rfl, rfl, rfl, by decide +kernel, by decide +kernel, by decide +kernel, by decide +kernel⟩
theorem t__law_crossings : DefT T P "_law_crossings" i__law_crossings n__law_crossings (st 48) := ⟨s__law_crossings, by decide, rfl, c__law_crossings, fun _ _ _ _ _ _ us hl => match us, hl with | [_, _, _], _ => rfl, fun ks pm h => absurd h (by simp [P])⟩
theorem c__law_made : chkSs T P i__law_made.body ⟨n__law_made, defScope (st 49), fun _ => true⟩ (defBody (st 49)) = true := by decide +kernel
theorem s__law_made : FnScope n__law_made (n__law_made.take 1) (defScope (st 49)) := ⟨rfl, rfl, rfl, by decide +kernel, by decide +kernel, by decide +kernel, by decide +kernel⟩
theorem t__law_made : DefT T P "_law_made" i__law_made n__law_made (st 49) := ⟨s__law_made, by decide, rfl, c__law_made, fun _ _ _ _ _ _ us hl => match us, hl with | [_], _ => rfl, fun ks pm h => absurd h (by simp [P])⟩
theorem c__law_second : chkSs T P i__law_second.body ⟨n__law_second, defScope (st 50), fun _ => true⟩ (defBody (st 50)) = true := by decide +kernel
theorem s__law_second : FnScope n__law_second (n__law_second.take 3) (defScope (st 50)) := ⟨rfl, rfl, rfl, by decide +kernel, by decide +kernel, by decide +kernel, by decide +kernel⟩
theorem t__law_second : DefT T P "_law_second" i__law_second n__law_second (st 50) := ⟨s__law_second, by decide, rfl, c__law_second, fun _ _ _ _ _ _ us hl => match us, hl with | [_, _, _], _ => rfl, fun ks pm h => absurd h (by simp [P])⟩
theorem c__law_told : chkSs T P i__law_told.body ⟨n__law_told, defScope (st 51), fun _ => true⟩ (defBody (st 51)) = true := by decide +kernel
theorem s__law_told : FnScope n__law_told (n__law_told.take 3) (defScope (st 51)) := ⟨rfl, rfl, rfl, by decide +kernel, by decide +kernel, by decide +kernel, by decide +kernel⟩
theorem t__law_told : DefT T P "_law_told" i__law_told n__law_told (st 51) := ⟨s__law_told, by decide, rfl, c__law_told, fun _ _ _ _ _ _ us hl => match us, hl with | [_, _, _], _ => rfl, fun ks pm h => absurd h (by simp [P])⟩
theorem c__law_spoilt : chkSs T P i__law_spoilt.body ⟨n__law_spoilt, defScope (st 52), fun _ => true⟩ (defBody (st 52)) = true := by decide +kernel
theorem s__law_spoilt : FnScope n__law_spoilt (n__law_spoilt.take 3) (defScope (st 52)) := ⟨rfl, rfl, rfl, by decide +kernel, by decide +kernel, by decide +kernel, by decide +kernel⟩
theorem t__law_spoilt : DefT T P "_law_spoilt" i__law_spoilt n__law_spoilt (st 52) := ⟨s__law_spoilt, by decide, rfl, c__law_spoilt, fun _ _ _ _ _ _ us hl => match us, hl with | [_, _, _], _ => rfl, fun ks pm h => absurd h (by simp [P])⟩
theorem c_law : chkSs T P i_law.body ⟨n_law, defScope (st 53), fun _ => true⟩ (defBody (st 53)) = true := by decide +kernel
theorem s_law : FnScope n_law (n_law.take 1) (defScope (st 53)) := ⟨rfl, rfl, rfl, by decide +kernel, by decide +kernel, by decide +kernel, by decide +kernel⟩
theorem t_law : DefT T P "law" i_law n_law (st 53) := ⟨s_law, by decide, rfl, c_law, fun _ _ _ _ _ _ us hl => match us, hl with | [_], _ => rfl, fun ks pm h => absurd h (by simp [P])⟩
def init_Land : Stmt := match st 24 with
  | .ClassDef _ _ _ body _ _ _ _ _ _ _ => body.getD 0 (.Pass ⟨0, 0, 0, 0⟩)
  | _ => .Pass ⟨0, 0, 0, 0⟩
def f_Land : List Str := [Str.ofString "many", Str.ofString "roads", Str.ofString "lamps"]
def ni_Land : List Str := [Str.ofString "self", Str.ofString "many", Str.ofString "roads", Str.ofString "lamps"]
theorem rt_Land : RecT (Str.ofString "Land", f_Land) (Str.ofString "Land.__init__") init_Land ni_Land := ⟨⟨rfl, rfl, rfl, by decide +kernel, by decide +kernel, by decide +kernel, by decide +kernel⟩, rfl, by decide +kernel, by decide, by decide +kernel, fun _ _ _ _ _ _ us hl => match us, hl with | [_, _, _, _], _ => rfl⟩
def init_Web : Stmt := match st 15 with
  | .ClassDef _ _ _ body _ _ _ _ _ _ _ => body.getD 0 (.Pass ⟨0, 0, 0, 0⟩)
  | _ => .Pass ⟨0, 0, 0, 0⟩
def f_Web : List Str := [Str.ofString "many", Str.ofString "roads"]
def ni_Web : List Str := [Str.ofString "self", Str.ofString "many", Str.ofString "roads"]
theorem rt_Web : RecT (Str.ofString "Web", f_Web) (Str.ofString "Web.__init__") init_Web ni_Web := ⟨⟨rfl, rfl, rfl, by decide +kernel, by decide +kernel, by decide +kernel, by decide +kernel⟩, rfl, by decide +kernel, by decide, by decide +kernel, fun _ _ _ _ _ _ us hl => match us, hl with | [_, _, _], _ => rfl⟩
theorem r_is_number {k : Nat} {d0 : D} {S : Store} {Z : Option (PL.R D)} (h : finR S (exSs (ixOf P k) i_is_number.body [some d0] S) = Z) : callN P (k + 1) "is_number" [d0] S = Z := (run_eq (P := P) (F := i_is_number) (f := "is_number") rfl [d0] S).trans h
theorem r_is_road {k : Nat} {d0 d1 : D} {S : Store} {Z : Option (PL.R D)} (h : finR S (exSs (ixOf P k) i_is_road.body [some d0, some d1, none] S) = Z) : callN P (k + 1) "is_road" [d0, d1] S = Z := (run_eq (P := P) (F := i_is_road) (f := "is_road") rfl [d0, d1] S).trans h
theorem r_want_roads {k : Nat} {d0 d1 : D} {S : Store} {Z : Option (PL.R D)} (h : finR S (exSs (ixOf P k) i_want_roads.body [some d0, some d1, none, none] S) = Z) : callN P (k + 1) "want_roads" [d0, d1] S = Z := (run_eq (P := P) (F := i_want_roads) (f := "want_roads") rfl [d0, d1] S).trans h
theorem r_tied {k : Nat} {d0 d1 : D} {S : Store} {Z : Option (PL.R D)} (h : finR S (exSs (ixOf P k) i_tied.body [some d0, some d1, none, none, none, none] S) = Z) : callN P (k + 1) "tied" [d0, d1] S = Z := (run_eq (P := P) (F := i_tied) (f := "tied") rfl [d0, d1] S).trans h
theorem r_reached {k : Nat} {d0 d1 : D} {S : Store} {Z : Option (PL.R D)} (h : finR S (exSs (ixOf P k) i_reached.body [some d0, some d1, none, none, none, none] S) = Z) : callN P (k + 1) "reached" [d0, d1] S = Z := (run_eq (P := P) (F := i_reached) (f := "reached") rfl [d0, d1] S).trans h
theorem r_want_whole {k : Nat} {d0 d1 : D} {S : Store} {Z : Option (PL.R D)} (h : finR S (exSs (ixOf P k) i_want_whole.body [some d0, some d1, none, none] S) = Z) : callN P (k + 1) "want_whole" [d0, d1] S = Z := (run_eq (P := P) (F := i_want_whole) (f := "want_whole") rfl [d0, d1] S).trans h
theorem r_made_web {k : Nat} {d0 d1 : D} {S : Store} {Z : Option (PL.R D)} (h : finR S (exSs (ixOf P k) i_made_web.body [some d0, some d1] S) = Z) : callN P (k + 1) "made_web" [d0, d1] S = Z := (run_eq (P := P) (F := i_made_web) (f := "made_web") rfl [d0, d1] S).trans h
theorem r_made_land {k : Nat} {d0 d1 d2 : D} {S : Store} {Z : Option (PL.R D)} (h : finR S (exSs (ixOf P k) i_made_land.body [some d0, some d1, some d2, none, none] S) = Z) : callN P (k + 1) "made_land" [d0, d1, d2] S = Z := (run_eq (P := P) (F := i_made_land) (f := "made_land") rfl [d0, d1, d2] S).trans h
theorem r_is_tree {k : Nat} {d0 : D} {S : Store} {Z : Option (PL.R D)} (h : finR S (exSs (ixOf P k) i_is_tree.body [some d0] S) = Z) : callN P (k + 1) "is_tree" [d0] S = Z := (run_eq (P := P) (F := i_is_tree) (f := "is_tree") rfl [d0] S).trans h
theorem r_want_tree {k : Nat} {d0 : D} {S : Store} {Z : Option (PL.R D)} (h : finR S (exSs (ixOf P k) i_want_tree.body [some d0] S) = Z) : callN P (k + 1) "want_tree" [d0] S = Z := (run_eq (P := P) (F := i_want_tree) (f := "want_tree") rfl [d0] S).trans h
theorem r_want_place {k : Nat} {d0 d1 : D} {S : Store} {Z : Option (PL.R D)} (h : finR S (exSs (ixOf P k) i_want_place.body [some d0, some d1] S) = Z) : callN P (k + 1) "want_place" [d0, d1] S = Z := (run_eq (P := P) (F := i_want_place) (f := "want_place") rfl [d0, d1] S).trans h
theorem r_want_row {k : Nat} {d0 d1 : D} {S : Store} {Z : Option (PL.R D)} (h : finR S (exSs (ixOf P k) i_want_row.body [some d0, some d1, none, none] S) = Z) : callN P (k + 1) "want_row" [d0, d1] S = Z := (run_eq (P := P) (F := i_want_row) (f := "want_row") rfl [d0, d1] S).trans h
theorem r_want_state {k : Nat} {d0 d1 : D} {S : Store} {Z : Option (PL.R D)} (h : finR S (exSs (ixOf P k) i_want_state.body [some d0, some d1] S) = Z) : callN P (k + 1) "want_state" [d0, d1] S = Z := (run_eq (P := P) (F := i_want_state) (f := "want_state") rfl [d0, d1] S).trans h
theorem r_changed_of {k : Nat} {d0 d1 : D} {S : Store} {Z : Option (PL.R D)} (h : finR S (exSs (ixOf P k) i_changed_of.body [some d0, some d1, none, none] S) = Z) : callN P (k + 1) "changed_of" [d0, d1] S = Z := (run_eq (P := P) (F := i_changed_of) (f := "changed_of") rfl [d0, d1] S).trans h
theorem r_crossing_of {k : Nat} {d0 d1 d2 d3 d4 : D} {S : Store} {Z : Option (PL.R D)} (h : finR S (exSs (ixOf P k) i_crossing_of.body [some d0, some d1, some d2, some d3, some d4, none, none] S) = Z) : callN P (k + 1) "crossing_of" [d0, d1, d2, d3, d4] S = Z := (run_eq (P := P) (F := i_crossing_of) (f := "crossing_of") rfl [d0, d1, d2, d3, d4] S).trans h
theorem r_crossings_of {k : Nat} {d0 d1 d2 : D} {S : Store} {Z : Option (PL.R D)} (h : finR S (exSs (ixOf P k) i_crossings_of.body [some d0, some d1, some d2, none, none] S) = Z) : callN P (k + 1) "crossings_of" [d0, d1, d2] S = Z := (run_eq (P := P) (F := i_crossings_of) (f := "crossings_of") rfl [d0, d1, d2] S).trans h
theorem r_crossings {k : Nat} {d0 d1 d2 : D} {S : Store} {Z : Option (PL.R D)} (h : finR S (exSs (ixOf P k) i_crossings.body [some d0, some d1, some d2] S) = Z) : callN P (k + 1) "crossings" [d0, d1, d2] S = Z := (run_eq (P := P) (F := i_crossings) (f := "crossings") rfl [d0, d1, d2] S).trans h
theorem r__law_pool {k : Nat} {d0 d1 : D} {S : Store} {Z : Option (PL.R D)} (h : finR S (exSs (ixOf P k) i__law_pool.body [some d0, some d1, none, none, none] S) = Z) : callN P (k + 1) "_law_pool" [d0, d1] S = Z := (run_eq (P := P) (F := i__law_pool) (f := "_law_pool") rfl [d0, d1] S).trans h
theorem r__law_take {k : Nat} {d0 d1 : D} {S : Store} {Z : Option (PL.R D)} (h : finR S (exSs (ixOf P k) i__law_take.body [some d0, some d1, none] S) = Z) : callN P (k + 1) "_law_take" [d0, d1] S = Z := (run_eq (P := P) (F := i__law_take) (f := "_law_take") rfl [d0, d1] S).trans h
theorem r__law_one {k : Nat} {d0 d1 : D} {S : Store} {Z : Option (PL.R D)} (h : finR S (exSs (ixOf P k) i__law_one.body [some d0, some d1] S) = Z) : callN P (k + 1) "_law_one" [d0, d1] S = Z := (run_eq (P := P) (F := i__law_one) (f := "_law_one") rfl [d0, d1] S).trans h
theorem r__law_tree_roads {k : Nat} {d0 d1 d2 : D} {S : Store} {Z : Option (PL.R D)} (h : finR S (exSs (ixOf P k) i__law_tree_roads.body [some d0, some d1, some d2, none, none] S) = Z) : callN P (k + 1) "_law_tree_roads" [d0, d1, d2] S = Z := (run_eq (P := P) (F := i__law_tree_roads) (f := "_law_tree_roads") rfl [d0, d1, d2] S).trans h
theorem r__law_web {k : Nat} {d0 d1 d2 : D} {S : Store} {Z : Option (PL.R D)} (h : finR S (exSs (ixOf P k) i__law_web.body [some d0, some d1, some d2, none, none, none, none, none, none, none] S) = Z) : callN P (k + 1) "_law_web" [d0, d1, d2] S = Z := (run_eq (P := P) (F := i__law_web) (f := "_law_web") rfl [d0, d1, d2] S).trans h
theorem r__law_land {k : Nat} {d0 d1 d2 : D} {S : Store} {Z : Option (PL.R D)} (h : finR S (exSs (ixOf P k) i__law_land.body [some d0, some d1, some d2, none, none, none] S) = Z) : callN P (k + 1) "_law_land" [d0, d1, d2] S = Z := (run_eq (P := P) (F := i__law_land) (f := "_law_land") rfl [d0, d1, d2] S).trans h
theorem r__law_row {k : Nat} {d0 d1 : D} {S : Store} {Z : Option (PL.R D)} (h : finR S (exSs (ixOf P k) i__law_row.body [some d0, some d1, none, none] S) = Z) : callN P (k + 1) "_law_row" [d0, d1] S = Z := (run_eq (P := P) (F := i__law_row) (f := "_law_row") rfl [d0, d1] S).trans h
theorem r__law_state {k : Nat} {d0 d1 : D} {S : Store} {Z : Option (PL.R D)} (h : finR S (exSs (ixOf P k) i__law_state.body [some d0, some d1] S) = Z) : callN P (k + 1) "_law_state" [d0, d1] S = Z := (run_eq (P := P) (F := i__law_state) (f := "_law_state") rfl [d0, d1] S).trans h
theorem r__law_tied {k : Nat} {d0 d1 : D} {S : Store} {Z : Option (PL.R D)} (h : finR S (exSs (ixOf P k) i__law_tied.body [some d0, some d1, none, none, none] S) = Z) : callN P (k + 1) "_law_tied" [d0, d1] S = Z := (run_eq (P := P) (F := i__law_tied) (f := "_law_tied") rfl [d0, d1] S).trans h
theorem r__law_side {k : Nat} {d0 d1 d2 : D} {S : Store} {Z : Option (PL.R D)} (h : finR S (exSs (ixOf P k) i__law_side.body [some d0, some d1, some d2, none, none, none, none] S) = Z) : callN P (k + 1) "_law_side" [d0, d1, d2] S = Z := (run_eq (P := P) (F := i__law_side) (f := "_law_side") rfl [d0, d1, d2] S).trans h
theorem r__law_crossings {k : Nat} {d0 d1 d2 : D} {S : Store} {Z : Option (PL.R D)} (h : finR S (exSs (ixOf P k) i__law_crossings.body [some d0, some d1, some d2, none, none, none, none, none, none, none] S) = Z) : callN P (k + 1) "_law_crossings" [d0, d1, d2] S = Z := (run_eq (P := P) (F := i__law_crossings) (f := "_law_crossings") rfl [d0, d1, d2] S).trans h
theorem r__law_made {k : Nat} {d0 : D} {S : Store} {Z : Option (PL.R D)} (h : finR S (exSs (ixOf P k) i__law_made.body [some d0, none, none, none, none] S) = Z) : callN P (k + 1) "_law_made" [d0] S = Z := (run_eq (P := P) (F := i__law_made) (f := "_law_made") rfl [d0] S).trans h
theorem r__law_second {k : Nat} {d0 d1 d2 : D} {S : Store} {Z : Option (PL.R D)} (h : finR S (exSs (ixOf P k) i__law_second.body [some d0, some d1, some d2, none, none] S) = Z) : callN P (k + 1) "_law_second" [d0, d1, d2] S = Z := (run_eq (P := P) (F := i__law_second) (f := "_law_second") rfl [d0, d1, d2] S).trans h
theorem r__law_told {k : Nat} {d0 d1 d2 : D} {S : Store} {Z : Option (PL.R D)} (h : finR S (exSs (ixOf P k) i__law_told.body [some d0, some d1, some d2, none] S) = Z) : callN P (k + 1) "_law_told" [d0, d1, d2] S = Z := (run_eq (P := P) (F := i__law_told) (f := "_law_told") rfl [d0, d1, d2] S).trans h
theorem r__law_spoilt {k : Nat} {d0 d1 d2 : D} {S : Store} {Z : Option (PL.R D)} (h : finR S (exSs (ixOf P k) i__law_spoilt.body [some d0, some d1, some d2, none, none, none, none, none, none] S) = Z) : callN P (k + 1) "_law_spoilt" [d0, d1, d2] S = Z := (run_eq (P := P) (F := i__law_spoilt) (f := "_law_spoilt") rfl [d0, d1, d2] S).trans h
theorem r_law {k : Nat} {d0 : D} {S : Store} {Z : Option (PL.R D)} (h : finR S (exSs (ixOf P k) i_law.body [some d0, none, none, none, none, none, none, none, none, none, none] S) = Z) : callN P (k + 1) "law" [d0] S = Z := (run_eq (P := P) (F := i_law) (f := "law") rfl [d0] S).trans h
theorem fam {p : String × IFun → Prop} {a : String × IFun} {l : List (String × IFun)} (h : p a) (t : ∀ b ∈ l, p b) : ∀ b ∈ a :: l, p b := List.forall_mem_cons.mpr ⟨h, t⟩
theorem all_mk {prog : Program} {w : World} {K : PySem.W.Frag} {h : Heap} {mg : Str → Option Value} {fa : Addr} (X : K.In h) (G : h.Ns mainGlobals mg) (hfa : mg ("law" : Str) = some (.ref fa))
    (d_is_number : DefAt K (Str.ofString "is_number") (st 11))
    (d_is_road : DefAt K (Str.ofString "is_road") (st 16))
    (d_want_roads : DefAt K (Str.ofString "want_roads") (st 17))
    (d_tied : DefAt K (Str.ofString "tied") (st 18))
    (d_reached : DefAt K (Str.ofString "reached") (st 19))
    (d_want_whole : DefAt K (Str.ofString "want_whole") (st 20))
    (d_made_web : DefAt K (Str.ofString "made_web") (st 21))
    (d_made_land : DefAt K (Str.ofString "made_land") (st 25))
    (d_is_tree : DefAt K (Str.ofString "is_tree") (st 26))
    (d_want_tree : DefAt K (Str.ofString "want_tree") (st 27))
    (d_want_place : DefAt K (Str.ofString "want_place") (st 28))
    (d_want_row : DefAt K (Str.ofString "want_row") (st 30))
    (d_want_state : DefAt K (Str.ofString "want_state") (st 31))
    (d_changed_of : DefAt K (Str.ofString "changed_of") (st 33))
    (d_crossing_of : DefAt K (Str.ofString "crossing_of") (st 34))
    (d_crossings_of : DefAt K (Str.ofString "crossings_of") (st 35))
    (d_crossings : DefAt K (Str.ofString "crossings") (st 36))
    (d__law_pool : DefAt K (Str.ofString "_law_pool") (st 38))
    (d__law_take : DefAt K (Str.ofString "_law_take") (st 39))
    (d__law_one : DefAt K (Str.ofString "_law_one") (st 40))
    (d__law_tree_roads : DefAt K (Str.ofString "_law_tree_roads") (st 41))
    (d__law_web : DefAt K (Str.ofString "_law_web") (st 42))
    (d__law_land : DefAt K (Str.ofString "_law_land") (st 43))
    (d__law_row : DefAt K (Str.ofString "_law_row") (st 44))
    (d__law_state : DefAt K (Str.ofString "_law_state") (st 45))
    (d__law_tied : DefAt K (Str.ofString "_law_tied") (st 46))
    (d__law_side : DefAt K (Str.ofString "_law_side") (st 47))
    (d__law_crossings : DefAt K (Str.ofString "_law_crossings") (st 48))
    (d__law_made : DefAt K (Str.ofString "_law_made") (st 49))
    (d__law_second : DefAt K (Str.ofString "_law_second") (st 50))
    (d__law_told : DefAt K (Str.ofString "_law_told") (st 51))
    (d__law_spoilt : DefAt K (Str.ofString "_law_spoilt") (st 52))
    (d_law : DefAt K (Str.ofString "law") (st 53))
    (r_Land : RecAt K (Str.ofString "Land") f_Land (Str.ofString "Land.__init__") init_Land)
    (r_Web : RecAt K (Str.ofString "Web") f_Web (Str.ofString "Web.__init__") init_Web)
    (ap_Land_Web : Apart K (Str.ofString "Land") (Str.ofString "Web"))
    (ap_Web_Land : Apart K (Str.ofString "Web") (Str.ofString "Land"))
    (z_len : NoneAt K (Str.ofString "len"))
    (z_int : NoneAt K (Str.ofString "int"))
    (z_max : NoneAt K (Str.ofString "max"))
    (z_min : NoneAt K (Str.ofString "min"))
    (z_sum : NoneAt K (Str.ofString "sum"))
    (z_all : NoneAt K (Str.ofString "all"))
    (z_any : NoneAt K (Str.ofString "any"))
    (z_sorted : NoneAt K (Str.ofString "sorted"))
    (z_tuple : NoneAt K (Str.ofString "tuple"))
    (z_list : NoneAt K (Str.ofString "list"))
    (z_isinstance : NoneAt K (Str.ofString "isinstance"))
    (z_range : NoneAt K (Str.ofString "range"))
    (z_enumerate : NoneAt K (Str.ofString "enumerate"))
    (z_zip : NoneAt K (Str.ofString "zip"))
    (z_bool : NoneAt K (Str.ofString "bool"))
    (z_str : NoneAt K (Str.ofString "str"))
    (z_dict : NoneAt K (Str.ofString "dict"))
    (g_MOST_POSITIONS : IntAt K (Str.ofString "MOST_POSITIONS") 6)
    (g_MOST_LENGTH : IntAt K (Str.ofString "MOST_LENGTH") 100)
    (g_MOST_PLACES : IntAt K (Str.ofString "MOST_PLACES") 10)
    (e_BadSize : ErrAt prog K (Str.ofString "BadSize"))
    (e_BadRoad : ErrAt prog K (Str.ofString "BadRoad"))
    (e_Parted : ErrAt prog K (Str.ofString "Parted"))
    (e_BadLength : ErrAt prog K (Str.ofString "BadLength"))
    (e_BadLamp : ErrAt prog K (Str.ofString "BadLamp"))
    (e_BadPlace : ErrAt prog K (Str.ofString "BadPlace"))
    (e_BadState : ErrAt prog K (Str.ofString "BadState"))
    (e_NotTree : ErrAt prog K (Str.ofString "NotTree"))
    (hc_BadPlace : ClsAt K (Str.ofString "BadPlace"))
    (sb_BadSize_BadPlace : SubAt K (Str.ofString "BadSize") (Str.ofString "BadPlace") false)
    (sb_BadRoad_BadPlace : SubAt K (Str.ofString "BadRoad") (Str.ofString "BadPlace") false)
    (sb_Parted_BadPlace : SubAt K (Str.ofString "Parted") (Str.ofString "BadPlace") false)
    (sb_BadLength_BadPlace : SubAt K (Str.ofString "BadLength") (Str.ofString "BadPlace") false)
    (sb_BadLamp_BadPlace : SubAt K (Str.ofString "BadLamp") (Str.ofString "BadPlace") false)
    (sb_BadPlace_BadPlace : SubAt K (Str.ofString "BadPlace") (Str.ofString "BadPlace") true)
    (sb_BadState_BadPlace : SubAt K (Str.ofString "BadState") (Str.ofString "BadPlace") false)
    (sb_NotTree_BadPlace : SubAt K (Str.ofString "NotTree") (Str.ofString "BadPlace") false)
    (hc_BadState : ClsAt K (Str.ofString "BadState"))
    (sb_BadSize_BadState : SubAt K (Str.ofString "BadSize") (Str.ofString "BadState") false)
    (sb_BadRoad_BadState : SubAt K (Str.ofString "BadRoad") (Str.ofString "BadState") false)
    (sb_Parted_BadState : SubAt K (Str.ofString "Parted") (Str.ofString "BadState") false)
    (sb_BadLength_BadState : SubAt K (Str.ofString "BadLength") (Str.ofString "BadState") false)
    (sb_BadLamp_BadState : SubAt K (Str.ofString "BadLamp") (Str.ofString "BadState") false)
    (sb_BadPlace_BadState : SubAt K (Str.ofString "BadPlace") (Str.ofString "BadState") false)
    (sb_BadState_BadState : SubAt K (Str.ofString "BadState") (Str.ofString "BadState") true)
    (sb_NotTree_BadState : SubAt K (Str.ofString "NotTree") (Str.ofString "BadState") false)
    (hc_Refused : ClsAt K (Str.ofString "Refused"))
    (sb_BadSize_Refused : SubAt K (Str.ofString "BadSize") (Str.ofString "Refused") true)
    (sb_BadRoad_Refused : SubAt K (Str.ofString "BadRoad") (Str.ofString "Refused") true)
    (sb_Parted_Refused : SubAt K (Str.ofString "Parted") (Str.ofString "Refused") true)
    (sb_BadLength_Refused : SubAt K (Str.ofString "BadLength") (Str.ofString "Refused") true)
    (sb_BadLamp_Refused : SubAt K (Str.ofString "BadLamp") (Str.ofString "Refused") true)
    (sb_BadPlace_Refused : SubAt K (Str.ofString "BadPlace") (Str.ofString "Refused") true)
    (sb_BadState_Refused : SubAt K (Str.ofString "BadState") (Str.ofString "Refused") true)
    (sb_NotTree_Refused : SubAt K (Str.ofString "NotTree") (Str.ofString "Refused") true)
    (z_super : NoneAt K (Str.ofString "super")) :
    ∃ fd : FuncData, (∀ (s : Shared) (u : Value), BindsTo s fd ⟨[u], []⟩ [(("script" : Str), u)]) ∧
        ∀ base : Heap, K.In base → base.Ns mainGlobals mg → FnOk prog w K mg base (L2.CX prog w) (19 + 1) fa fd [("script" : Str)] (spI (mkG recs errs K) P (19 + 1) "law") := by
  have all : ∀ p ∈ L, ∃ N st, DefAt K (Str.ofString p.1) st ∧ DefT T P p.1 p.2 N st := (fam ⟨_, _, d_is_number, t_is_number⟩ (fam ⟨_, _, d_is_road, t_is_road⟩ (fam ⟨_, _, d_want_roads, t_want_roads⟩ (fam ⟨_, _, d_tied, t_tied⟩ (fam ⟨_, _, d_reached, t_reached⟩ (fam ⟨_, _, d_want_whole, t_want_whole⟩ (fam ⟨_, _, d_made_web, t_made_web⟩ (fam ⟨_, _, d_made_land, t_made_land⟩ (fam ⟨_, _, d_is_tree, t_is_tree⟩ (fam ⟨_, _, d_want_tree, t_want_tree⟩ (fam ⟨_, _, d_want_place, t_want_place⟩ (fam ⟨_, _, d_want_row, t_want_row⟩ (fam ⟨_, _, d_want_state, t_want_state⟩ (fam ⟨_, _, d_changed_of, t_changed_of⟩ (fam ⟨_, _, d_crossing_of, t_crossing_of⟩ (fam ⟨_, _, d_crossings_of, t_crossings_of⟩ (fam ⟨_, _, d_crossings, t_crossings⟩ (fam ⟨_, _, d__law_pool, t__law_pool⟩ (fam ⟨_, _, d__law_take, t__law_take⟩ (fam ⟨_, _, d__law_one, t__law_one⟩ (fam ⟨_, _, d__law_tree_roads, t__law_tree_roads⟩ (fam ⟨_, _, d__law_web, t__law_web⟩ (fam ⟨_, _, d__law_land, t__law_land⟩ (fam ⟨_, _, d__law_row, t__law_row⟩ (fam ⟨_, _, d__law_state, t__law_state⟩ (fam ⟨_, _, d__law_tied, t__law_tied⟩ (fam ⟨_, _, d__law_side, t__law_side⟩ (fam ⟨_, _, d__law_crossings, t__law_crossings⟩ (fam ⟨_, _, d__law_made, t__law_made⟩ (fam ⟨_, _, d__law_second, t__law_second⟩ (fam ⟨_, _, d__law_told, t__law_told⟩ (fam ⟨_, _, d__law_spoilt, t__law_spoilt⟩ (fam ⟨_, _, d_law, t_law⟩ (fun _ h => (by cases h)))))))))))))))))))))))))))))))))))
  refine law_of X G hfa (fun base => base_of' X G
    (fun c p h => match c, h with
      | 0, h => (by cases h; exact ⟨_, _, _, r_Land, rt_Land⟩)
      | 1, h => (by cases h; exact ⟨_, _, _, r_Web, rt_Web⟩)
      | n + 2, h => absurd h (by simp [recs]))
    (fun c d p q hp hq hne => match c, d, hp, hq, hne with
      | 0, 0, _, _, hne => absurd rfl hne
      | 0, 1, hp, hq, _ => (by cases hp; cases hq; exact ap_Land_Web)
      | 1, 0, hp, hq, _ => (by cases hp; cases hq; exact ap_Web_Land)
      | 1, 1, _, _, hne => absurd rfl hne
      | n + 2, _, hp, _, _ => absurd hp (by simp [recs])
      | _, n + 2, _, hq, _ => absurd hq (by simp [recs]))
    (fun c => match c with
      | 0 => rfl
      | 1 => rfl
      | n + 2 => rfl)
    (by
      intro x hx
      simp only [errs, List.mem_cons, List.not_mem_nil, or_false] at hx
      rcases hx with rfl | rfl | rfl | rfl | rfl | rfl | rfl | rfl
      · exact e_BadSize
      · exact e_BadRoad
      · exact e_Parted
      · exact e_BadLength
      · exact e_BadLamp
      · exact e_BadPlace
      · exact e_BadState
      · exact e_NotTree)
    (by
      intro p hp
      simp only [hns, List.mem_cons, List.not_mem_nil, or_false] at hp
      rcases hp with rfl | rfl | rfl
      · exact hndAt_of hc_BadPlace fun c y h => by
          have hm := mem_lk h
          simp only [errs, List.mem_cons, List.not_mem_nil, or_false, Prod.mk.injEq] at hm
          rcases hm with ⟨rfl, rfl⟩ | ⟨rfl, rfl⟩ | ⟨rfl, rfl⟩ | ⟨rfl, rfl⟩ | ⟨rfl, rfl⟩ | ⟨rfl, rfl⟩ | ⟨rfl, rfl⟩ | ⟨rfl, rfl⟩
          · exact sb_BadSize_BadPlace
          · exact sb_BadRoad_BadPlace
          · exact sb_Parted_BadPlace
          · exact sb_BadLength_BadPlace
          · exact sb_BadLamp_BadPlace
          · exact sb_BadPlace_BadPlace
          · exact sb_BadState_BadPlace
          · exact sb_NotTree_BadPlace
      · exact hndAt_of hc_BadState fun c y h => by
          have hm := mem_lk h
          simp only [errs, List.mem_cons, List.not_mem_nil, or_false, Prod.mk.injEq] at hm
          rcases hm with ⟨rfl, rfl⟩ | ⟨rfl, rfl⟩ | ⟨rfl, rfl⟩ | ⟨rfl, rfl⟩ | ⟨rfl, rfl⟩ | ⟨rfl, rfl⟩ | ⟨rfl, rfl⟩ | ⟨rfl, rfl⟩
          · exact sb_BadSize_BadState
          · exact sb_BadRoad_BadState
          · exact sb_Parted_BadState
          · exact sb_BadLength_BadState
          · exact sb_BadLamp_BadState
          · exact sb_BadPlace_BadState
          · exact sb_BadState_BadState
          · exact sb_NotTree_BadState
      · exact hndAt_of hc_Refused fun c y h => by
          have hm := mem_lk h
          simp only [errs, List.mem_cons, List.not_mem_nil, or_false, Prod.mk.injEq] at hm
          rcases hm with ⟨rfl, rfl⟩ | ⟨rfl, rfl⟩ | ⟨rfl, rfl⟩ | ⟨rfl, rfl⟩ | ⟨rfl, rfl⟩ | ⟨rfl, rfl⟩ | ⟨rfl, rfl⟩ | ⟨rfl, rfl⟩
          · exact sb_BadSize_Refused
          · exact sb_BadRoad_Refused
          · exact sb_Parted_Refused
          · exact sb_BadLength_Refused
          · exact sb_BadLamp_Refused
          · exact sb_BadPlace_Refused
          · exact sb_BadState_Refused
          · exact sb_NotTree_Refused
)
    z_super
    (by
      intro x hx
      simp only [bNames, List.mem_cons, List.not_mem_nil, or_false] at hx
      rcases hx with rfl | rfl | rfl | rfl | rfl | rfl | rfl | rfl | rfl | rfl | rfl | rfl | rfl | rfl | rfl | rfl | rfl
      · exact z_len
      · exact z_int
      · exact z_max
      · exact z_min
      · exact z_sum
      · exact z_all
      · exact z_any
      · exact z_sorted
      · exact z_tuple
      · exact z_list
      · exact z_isinstance
      · exact z_range
      · exact z_enumerate
      · exact z_zip
      · exact z_bool
      · exact z_str
      · exact z_dict)
    (fun x d e => by
      have hm : (x, d) ∈ consts := mem_lk (show consts.lookup x = some d from e)
      simp only [consts, List.mem_cons, List.not_mem_nil, or_false, Prod.mk.injEq] at hm
      rcases hm with ⟨rfl, rfl⟩ | ⟨rfl, rfl⟩ | ⟨rfl, rfl⟩
      · exact ⟨_, rfl, g_MOST_POSITIONS⟩
      · exact ⟨_, rfl, g_MOST_LENGTH⟩
      · exact ⟨_, rfl, g_MOST_PLACES⟩)
    (fun f F hF => all (f, F) (mem_lk (show L.lookup f = some F from hF)))) rfl d_law rfl t_law
theorem na2 {K : PySem.W.Frag} {C : Addr} {f0 f1 : Str} (h0 : PySem.W.findIn K (.ref C) f0 = some none) (h1 : PySem.W.findIn K (.ref C) f1 = some none) : ∀ f ∈ [f0, f1], NoAttr K C f := by
  intro f hf
  simp only [List.mem_cons, List.not_mem_nil, or_false] at hf
  rcases hf with rfl | rfl <;> assumption
theorem na3 {K : PySem.W.Frag} {C : Addr} {f0 f1 f2 : Str} (h0 : PySem.W.findIn K (.ref C) f0 = some none) (h1 : PySem.W.findIn K (.ref C) f1 = some none) (h2 : PySem.W.findIn K (.ref C) f2 = some none) : ∀ f ∈ [f0, f1, f2], NoAttr K C f := by
  intro f hf
  simp only [List.mem_cons, List.not_mem_nil, or_false] at hf
  rcases hf with rfl | rfl | rfl <;> assumption
end K13
set_option Elab.async false
set_option linter.all false
set_option maxRecDepth 100000
namespace K13
open PySem PySem.Spec PyProof.Rows PL L2
/-- steps of a run -/
local macro_rules | `(tactic| walk_at "pl") => `(tactic| repeat' (first
  | ((with_reducible apply hyp_get); (with_reducible assumption))
  | ((with_reducible apply call_get); (with_reducible assumption))
  | (with_reducible exact ev_cst) | (with_reducible exact es_nil) | (with_reducible exact et_nil) | (with_reducible exact eo_none) | (with_reducible exact ss_nil) | (with_reducible exact ev_dict0) | (with_reducible exact t_bl) | (with_reducible exact b_add) | (with_reducible exact b_mulb) | (with_reducible exact b_pow18) | (with_reducible exact b_sub) | (with_reducible exact f_int) | (with_reducible exact f_max) | (with_reducible exact f_min) | (with_reducible exact t_scr0) | (with_reducible exact t_scr1) | (with_reducible exact f_intb) | (with_reducible exact f_len_tup) | (with_reducible exact f_len_scr) | (with_reducible exact f_list_tup) | (with_reducible exact unlk_free) | (with_reducible exact not_tt) | (with_reducible exact not_ff) | (with_reducible exact not_k) | (with_reducible exact isa_int) | (with_reducible exact isa_bl) | (with_reducible exact isa_tup) | (with_reducible exact isa_obj) | (with_reducible exact get0) | (with_reducible exact get1) | (with_reducible exact get2) | (with_reducible exact par2) | (with_reducible exact par3) | (with_reducible exact bind_nm) | (with_reducible exact sn_rt) | (with_reducible exact k_tf) | (with_reducible exact k_ft)
  | ((with_reducible apply env_get); exact rfl) | ((with_reducible apply sto_get); exact rfl) | ((with_reducible apply atI_get'); exact rfl) | ((with_reducible apply ixN_get'); exact rfl) | ((with_reducible apply ar_get); exact rfl) | ((with_reducible apply gl_get); exact rfl) | ((with_reducible apply perm_get); exact rfl) | ((with_reducible apply bind_get); exact rfl) | ((with_reducible apply pure_t); (first | (with_reducible assumption) | (simp only [D.pure, D.pures, O.pure, Bool.and_self, Bool.and_true, Bool.true_and, List.set_cons_zero, List.set_cons_succ, Int.toNat_zero, Int.toNat_one]; done))) | ((with_reducible apply pure_o); (first | (with_reducible assumption) | (simp only [D.pure, D.pures, O.pure, Bool.and_self, Bool.and_true, Bool.true_and, List.set_cons_zero, List.set_cons_succ, Int.toNat_zero, Int.toNat_one]; done))) | ((with_reducible apply pures_t); (first | (with_reducible assumption) | (simp only [D.pure, D.pures, O.pure, Bool.and_self, Bool.and_true, Bool.true_and, List.set_cons_zero, List.set_cons_succ, Int.toNat_zero, Int.toNat_one]; done))) | ((with_reducible apply le_line); exact rfl) | ((with_reducible apply compact_self); (first | (with_reducible assumption) | (simp only [D.pure, D.pures, O.pure, Bool.and_self, Bool.and_true, Bool.true_and, List.set_cons_zero, List.set_cons_succ, Int.toNat_zero, Int.toNat_one]; done))) | ((with_reducible apply compact_app); (first | (with_reducible assumption) | (simp only [D.pure, D.pures, O.pure, Bool.and_self, Bool.and_true, Bool.true_and, List.set_cons_zero, List.set_cons_succ, Int.toNat_zero, Int.toNat_one]; done))) | ((with_reducible apply compact_new0); (first | (with_reducible assumption) | (simp only [D.pure, D.pures, O.pure, Bool.and_self, Bool.and_true, Bool.true_and, List.set_cons_zero, List.set_cons_succ, Int.toNat_zero, Int.toNat_one]; done)))
  | ((with_reducible apply lt_line); exact rfl)
  | ((with_reducible apply sto_eq); (simp only [List.set_cons_zero, List.set_cons_succ, List.cons_append, List.nil_append, Int.toNat_zero, Int.toNat_one]; done))
  | ((with_reducible apply sto_eq); (try simp only [List.set_cons_zero, List.set_cons_succ, List.cons_append, List.nil_append, Int.toNat_zero, Int.toNat_one]); exact rfl)
  | ((with_reducible apply env_eq); (try simp only [List.set_cons_zero, List.set_cons_succ]); exact rfl)
  | ((with_reducible apply b_mul); omega) | ((with_reducible apply b_fdiv) <;> omega) | ((with_reducible apply b_mod); omega)
  | ((with_reducible apply c_lt_t); omega) | ((with_reducible apply c_lt_f); omega) | ((with_reducible apply c_le_t); omega) | ((with_reducible apply c_le_f); omega) | ((with_reducible apply c_gt_t); omega) | ((with_reducible apply c_gt_f); omega) | ((with_reducible apply c_ge_t); omega) | ((with_reducible apply c_ge_f); omega) | ((with_reducible apply c_eq_t); omega) | ((with_reducible apply c_eq_f); omega) | ((with_reducible apply c_ne_t); omega) | ((with_reducible apply c_ne_f); omega) | ((with_reducible apply room_le); omega)
  | (with_reducible exact c_lt) | (with_reducible exact c_le) | (with_reducible exact c_gt) | (with_reducible exact c_ge) | (with_reducible exact c_eq) | (with_reducible exact c_ne)
  | (with_reducible apply f_len_lst) | (with_reducible apply f_tup_lst) | (with_reducible apply f_list_lst) | (with_reducible apply i_lst) | (with_reducible apply i_tup) | (with_reducible apply i_scr) | (with_reducible apply p_lst2)
  | ((with_reducible apply compact_head0) <;> (first | (with_reducible assumption) | (simp only [D.pure, D.pures, O.pure, Bool.and_self, Bool.and_true, Bool.true_and, List.set_cons_zero, List.set_cons_succ, Int.toNat_zero, Int.toNat_one]; done))) | ((with_reducible apply compact_head) <;> (first | (with_reducible assumption) | (simp only [D.pure, D.pures, O.pure, Bool.and_self, Bool.and_true, Bool.true_and, List.set_cons_zero, List.set_cons_succ, Int.toNat_zero, Int.toNat_one]; done)))
  | (with_reducible refine k_tt ?_) | (with_reducible refine k_ff ?_)
  | (with_reducible apply ev_slot) | (with_reducible apply ev_glob) | (with_reducible apply ev_bin) | (with_reducible apply ev_neg) | (with_reducible apply ev_not') | (with_reducible apply ev_cmp) | (with_reducible apply ev_chn) | (with_reducible apply ch_last) | (with_reducible apply ch_more') | (with_reducible apply ev_and') | (with_reducible apply ev_or') | (with_reducible apply ev_ite') | (with_reducible apply es_cons) | (with_reducible apply ev_tup) | (with_reducible apply ev_lst) | (with_reducible apply ev_idx) | (with_reducible apply eo_some) | (with_reducible apply ev_slc) | (with_reducible apply ev_fld) | (with_reducible apply ev_isa) | (with_reducible apply ev_call) | (with_reducible apply ev_callK) | (with_reducible apply ev_bif) | (with_reducible apply ev_meth) | (with_reducible apply ev_mk) | (with_reducible apply ev_comp) | (with_reducible apply et_one) | (with_reducible apply xs_set2) | (with_reducible apply xs_par) | (with_reducible apply xs_put) | (with_reducible apply xs_expr) | (with_reducible apply xs_ret) | (with_reducible apply xs_ite') | (with_reducible apply xs_unp) | (with_reducible apply ss_cons') | (with_reducible apply sn_nx) | (with_reducible apply fin') | (with_reducible apply fn_rt) | (with_reducible apply fn_nx) | (with_reducible apply m_append2)))
theorem x_is_number (k : Nat) (i : Int) (S : Store) : callN P (k + 1) "is_number" [.int i] S = some (.val (.bl true) S) := by
  refine r_is_number ?_
  dsimp only [i_is_number]
  walk_at "pl"
@[reducible] def pool (a b : Int) : O := .lst [.int a, .int b]
def Pok (a b : Int) : Prop := 0 ≤ a ∧ 0 ≤ b ∧ b < 2147483647
theorem x_law_take (k : Nat) (R : Store) {a b top : Int} (h : Pok a b) (ht : 1 ≤ top) (ht2 : top < 1000) : ∃ r a' b', Pok a' b' ∧ 0 ≤ r ∧ r < top ∧ callN P (k + 1) "_law_take" [.loc 0, .int top] (pool a b :: R) = some (.val (.int r) (pool a' b' :: R)) := by
  obtain ⟨h1, h2, h3⟩ := h
  by_cases ha : 0 < a
  · refine ⟨a % top, a / top, b, ⟨?_, h2, h3⟩, ?_, ?_, ?_⟩
    · exact Int.ediv_nonneg h1 (by omega)
    · exact Int.emod_nonneg _ (by omega)
    · exact Int.emod_lt_of_pos _ (by omega)
    · refine r__law_take ?_
      dsimp only [i__law_take]
      walk_at "pl"
  · have ha : a = 0 := by omega
    subst ha
    generalize hb : (b * 39373 + 7) % 2147483647 = b'
    have hb1 : 0 ≤ b' := by rw [← hb]; exact Int.emod_nonneg _ (by decide)
    have hb2 : b' < 2147483647 := by rw [← hb]; exact Int.emod_lt_of_pos _ (by decide)
    refine ⟨b' * b' % 2147483629 / 32 % top, 0, b', ⟨h1, hb1, hb2⟩, ?_, ?_, ?_⟩
    · exact Int.emod_nonneg _ (by omega)
    · exact Int.emod_lt_of_pos _ (by omega)
    · refine r__law_take ?_
      dsimp only [i__law_take]
      rw [← hb] at *
      walk_at "pl"
theorem bigsmall (c m : Int) : Pok ((if -1 - c > c then -1 - c else c) * m) 0 → True := fun _ => trivial
theorem pool_ok {c : Int} {p : Bool} {y : Int} : Pok ((if -1 - c > c then -1 - c else c) * b2n p) (y % 2147483647) := by
  have hb : 0 ≤ (if -1 - c > c then -1 - c else c) := by split <;> omega
  refine ⟨?_, Int.emod_nonneg _ (by decide), Int.emod_lt_of_pos _ (by decide)⟩
  cases p with
  | true => show 0 ≤ _ * (1 : Int); omega
  | false => show 0 ≤ _ * (0 : Int); omega
theorem x_law_pool (k : Nat) (S : Store) (ns : List Int) : ∃ a b, Pok a b ∧ callN P (k + 1) "_law_pool" [.scr ns, .int 0] S = some (.val (.loc S.length) (S ++ [pool a b])) := by
  have h0 : (([] : List Int).length : Int) = 0 := rfl
  cases ns with
  | nil =>
    refine ⟨(if -1 - 0 > (0 : Int) then -1 - 0 else 0) * b2n false, ((if -1 - 0 > (0 : Int) then -1 - 0 else 0) % 2147483629 + 7919 * 0 * 0 + 31 * 0 + 17) * 48271 % 2147483647, pool_ok, r__law_pool ?_⟩
    dsimp only [i__law_pool]
    walk_at "pl"
  | cons n ns =>
    have h1 : (0 : Int) < ((n :: ns).length : Int) := by simp only [List.length_cons]; omega
    have h2 : L2.atI (n :: ns) 0 = some n := L2.atI_nat (j := 0) rfl
    refine ⟨(if -1 - n > n then -1 - n else n) * b2n (decide (10 ^ (18 : Nat) ≤ (if -1 - n > n then -1 - n else n))), ((if -1 - n > n then -1 - n else n) % 2147483629 + 7919 * 0 * 0 + 31 * 0 + 17) * 48271 % 2147483647, pool_ok, r__law_pool ?_⟩
    dsimp only [i__law_pool]
    walk_at "pl"
theorem x_law_one (k : Nat) (R : Store) {a b : Int} {j : Nat} {l : List D} (h : Pok a b) (hj : R[j]? = some (.lst l)) (h1 : 1 ≤ l.length) (h2 : l.length < 1000) (hpu : D.pures l = true) : ∃ d a' b', Pok a' b' ∧ d ∈ l ∧ callN P (k + 2) "_law_one" [.loc 0, .loc (j + 1)] (pool a b :: R) = some (.val d (pool a' b' :: R)) := by
  obtain ⟨r, a', b', hp, hr0, hr1, hc⟩ := x_law_take k R h (top := l.length) (by omega) (by omega)
  obtain ⟨d, hd, hat⟩ := atI_of (l := l) hr0 hr1
  have hdp : d.pure = true := D.pures_iff.mp hpu d hd
  refine ⟨d, a', b', hp, hd, ?_⟩
  refine r__law_one ?_
  dsimp only [i__law_one]
  have hj' : (pool a b :: R)[j + 1]? = some (.lst l) := hj
  have hj2 : (pool a' b' :: R)[j + 1]? = some (.lst l) := hj
  walk_at "pl"
end K13
set_option Elab.async false
set_option linter.all false
set_option maxRecDepth 100000
namespace K13
open PySem PySem.Spec PyProof.Rows PL L2
/-- steps of a run -/
local macro_rules | `(tactic| walk_at "pl") => `(tactic| repeat' (first
  | ((with_reducible apply hyp_get); (with_reducible assumption))
  | ((with_reducible apply call_get); (with_reducible assumption))
  | (with_reducible exact ev_cst) | (with_reducible exact es_nil) | (with_reducible exact et_nil) | (with_reducible exact eo_none) | (with_reducible exact ss_nil) | (with_reducible exact ev_dict0) | (with_reducible exact t_bl) | (with_reducible exact b_add) | (with_reducible exact b_mulb) | (with_reducible exact b_pow18) | (with_reducible exact b_sub) | (with_reducible exact f_int) | (with_reducible exact f_max) | (with_reducible exact f_min) | (with_reducible exact t_scr0) | (with_reducible exact t_scr1) | (with_reducible exact f_intb) | (with_reducible exact f_len_tup) | (with_reducible exact f_len_scr) | (with_reducible exact f_list_tup) | (with_reducible exact unlk_free) | (with_reducible exact not_tt) | (with_reducible exact not_ff) | (with_reducible exact not_k) | (with_reducible exact isa_int) | (with_reducible exact isa_bl) | (with_reducible exact isa_tup) | (with_reducible exact isa_obj) | (with_reducible exact get0) | (with_reducible exact get1) | (with_reducible exact get2) | (with_reducible exact par2) | (with_reducible exact par3) | (with_reducible exact bind_nm) | (with_reducible exact sn_rt) | (with_reducible exact k_tf) | (with_reducible exact k_ft)
  | ((with_reducible apply env_get); exact rfl) | ((with_reducible apply sto_get); exact rfl) | ((with_reducible apply atI_get'); exact rfl) | ((with_reducible apply ixN_get'); exact rfl) | ((with_reducible apply ar_get); exact rfl) | ((with_reducible apply gl_get); exact rfl) | ((with_reducible apply perm_get); exact rfl) | ((with_reducible apply bind_get); exact rfl) | ((with_reducible apply pure_t); (first | (with_reducible assumption) | (simp only [D.pure, D.pures, O.pure, Bool.and_self, Bool.and_true, Bool.true_and, List.set_cons_zero, List.set_cons_succ, Int.toNat_zero, Int.toNat_one]; done))) | ((with_reducible apply pure_o); (first | (with_reducible assumption) | (simp only [D.pure, D.pures, O.pure, Bool.and_self, Bool.and_true, Bool.true_and, List.set_cons_zero, List.set_cons_succ, Int.toNat_zero, Int.toNat_one]; done))) | ((with_reducible apply pures_t); (first | (with_reducible assumption) | (simp only [D.pure, D.pures, O.pure, Bool.and_self, Bool.and_true, Bool.true_and, List.set_cons_zero, List.set_cons_succ, Int.toNat_zero, Int.toNat_one]; done))) | ((with_reducible apply le_line); exact rfl) | ((with_reducible apply compact_self); (first | (with_reducible assumption) | (simp only [D.pure, D.pures, O.pure, Bool.and_self, Bool.and_true, Bool.true_and, List.set_cons_zero, List.set_cons_succ, Int.toNat_zero, Int.toNat_one]; done))) | ((with_reducible apply compact_app); (first | (with_reducible assumption) | (simp only [D.pure, D.pures, O.pure, Bool.and_self, Bool.and_true, Bool.true_and, List.set_cons_zero, List.set_cons_succ, Int.toNat_zero, Int.toNat_one]; done))) | ((with_reducible apply compact_new0); (first | (with_reducible assumption) | (simp only [D.pure, D.pures, O.pure, Bool.and_self, Bool.and_true, Bool.true_and, List.set_cons_zero, List.set_cons_succ, Int.toNat_zero, Int.toNat_one]; done)))
  | ((with_reducible apply lt_line); exact rfl)
  | ((with_reducible apply sto_eq); (simp only [List.set_cons_zero, List.set_cons_succ, List.cons_append, List.nil_append, Int.toNat_zero, Int.toNat_one]; done))
  | ((with_reducible apply sto_eq); (try simp only [List.set_cons_zero, List.set_cons_succ, List.cons_append, List.nil_append, Int.toNat_zero, Int.toNat_one]); exact rfl)
  | ((with_reducible apply env_eq); (try simp only [List.set_cons_zero, List.set_cons_succ]); exact rfl)
  | ((with_reducible apply b_mul); omega) | ((with_reducible apply b_fdiv) <;> omega) | ((with_reducible apply b_mod); omega)
  | ((with_reducible apply c_lt_t); omega) | ((with_reducible apply c_lt_f); omega) | ((with_reducible apply c_le_t); omega) | ((with_reducible apply c_le_f); omega) | ((with_reducible apply c_gt_t); omega) | ((with_reducible apply c_gt_f); omega) | ((with_reducible apply c_ge_t); omega) | ((with_reducible apply c_ge_f); omega) | ((with_reducible apply c_eq_t); omega) | ((with_reducible apply c_eq_f); omega) | ((with_reducible apply c_ne_t); omega) | ((with_reducible apply c_ne_f); omega) | ((with_reducible apply room_le); omega)
  | (with_reducible exact c_lt) | (with_reducible exact c_le) | (with_reducible exact c_gt) | (with_reducible exact c_ge) | (with_reducible exact c_eq) | (with_reducible exact c_ne)
  | (with_reducible apply f_len_lst) | (with_reducible apply f_tup_lst) | (with_reducible apply f_list_lst) | (with_reducible apply i_lst) | (with_reducible apply i_tup) | (with_reducible apply i_scr) | (with_reducible apply p_lst2)
  | ((with_reducible apply compact_head0) <;> (first | (with_reducible assumption) | (simp only [D.pure, D.pures, O.pure, Bool.and_self, Bool.and_true, Bool.true_and, List.set_cons_zero, List.set_cons_succ, Int.toNat_zero, Int.toNat_one]; done))) | ((with_reducible apply compact_head) <;> (first | (with_reducible assumption) | (simp only [D.pure, D.pures, O.pure, Bool.and_self, Bool.and_true, Bool.true_and, List.set_cons_zero, List.set_cons_succ, Int.toNat_zero, Int.toNat_one]; done)))
  | (with_reducible refine k_tt ?_) | (with_reducible refine k_ff ?_)
  | (with_reducible apply ev_slot) | (with_reducible apply ev_glob) | (with_reducible apply ev_bin) | (with_reducible apply ev_neg) | (with_reducible apply ev_not') | (with_reducible apply ev_cmp) | (with_reducible apply ev_chn) | (with_reducible apply ch_last) | (with_reducible apply ch_more') | (with_reducible apply ev_and') | (with_reducible apply ev_or') | (with_reducible apply ev_ite') | (with_reducible apply es_cons) | (with_reducible apply ev_tup) | (with_reducible apply ev_lst) | (with_reducible apply ev_idx) | (with_reducible apply eo_some) | (with_reducible apply ev_slc) | (with_reducible apply ev_fld) | (with_reducible apply ev_isa) | (with_reducible apply ev_call) | (with_reducible apply ev_callK) | (with_reducible apply ev_bif) | (with_reducible apply ev_meth) | (with_reducible apply ev_mk) | (with_reducible apply ev_comp) | (with_reducible apply et_one) | (with_reducible apply xs_set2) | (with_reducible apply xs_par) | (with_reducible apply xs_put) | (with_reducible apply xs_expr) | (with_reducible apply xs_ret) | (with_reducible apply xs_ite') | (with_reducible apply xs_unp) | (with_reducible apply ss_cons') | (with_reducible apply sn_nx) | (with_reducible apply fin') | (with_reducible apply fn_rt) | (with_reducible apply fn_nx) | (with_reducible apply m_append2)))
theorem x_law_oneI (k : Nat) (R : Store) {a b : Int} {j : Nat} {ms : List Int} (h : Pok a b) (hj : R[j]? = some (.lst (ms.map D.int))) (h1 : 1 ≤ ms.length) (h2 : ms.length < 1000) : ∃ m a' b', Pok a' b' ∧ m ∈ ms ∧ callN P (k + 2) "_law_one" [.loc 0, .loc (j + 1)] (pool a b :: R) = some (.val (.int m) (pool a' b' :: R)) := by
  obtain ⟨d, a', b', hp, hd, hc⟩ := x_law_one k R h hj (by simpa using h1) (by simpa using h2) (pures_ints ms)
  obtain ⟨m, hm, rfl⟩ := List.mem_map.mp hd
  exact ⟨m, a', b', hp, hm, hc⟩
theorem kept_two {o o' p p' : O} (R : Store) (ho : o'.pure = true) (hp : p'.pure = true) : Kept (o :: (R ++ [p])) (o' :: (R ++ [p'])) := ⟨by simp, fun n q h e => by
  cases n with
  | zero => simp at e; subst e; exact .inr ho
  | succ n =>
    simp only [List.length_cons, List.length_append, List.length_nil] at h
    simp only [List.getElem?_cons_succ] at e ⊢
    by_cases hn : n < R.length
    · left
      rw [List.getElem?_append_left hn] at e ⊢
      exact e
    · right
      have hn' : n = R.length := by omega
      subst hn'
      rw [List.getElem?_append_right (Nat.le_refl _), Nat.sub_self] at e
      simp at e
      subst e
      exact hp⟩
theorem compact_two {o o' p p' : O} {d : D} (R : Store) (ho : o'.pure = true) (hp : p'.pure = true) (hd : d.pure = true) : compact (o :: (R ++ [p])) (d, o' :: (R ++ [p'])) = (d, o' :: (R ++ [p'])) := by
  rw [compact_pure (kept_two R ho hp) hd]
  have e : (o :: (R ++ [p])).length = (o' :: (R ++ [p'])).length := by simp
  rw [e, List.take_length]
theorem set_two {o p p' : O} (R : Store) : (o :: (R ++ [p])).set (R.length + 1) p' = o :: (R ++ [p']) := by
  rw [List.set_cons_succ, List.set_append_right _ _ (Nat.le_refl _), Nat.sub_self]; rfl
theorem get_two {o p : O} (R : Store) : (o :: (R ++ [p]))[R.length + 1]? = some p := by
  rw [List.getElem?_cons_succ, List.getElem?_append_right (Nat.le_refl _), Nat.sub_self]; rfl
theorem recv_lst {S : Store} {n : Nat} {l : List D} {z : Bool} (h : S[n]? = some (.lst l)) : recvOk S .append z (.loc n) = true := by
  unfold recvOk; simp only [h]
theorem recv_ext {S : Store} {n : Nat} {l : List D} {z : Bool} (h : S[n]? = some (.lst l)) : recvOk S .extend z (.loc n) = true := by
  unfold recvOk; simp only [h]
theorem recv_pop {S : Store} {n : Nat} {l : List D} (h : S[n]? = some (.lst l)) : recvOk S .pop true (.loc n) = true := by
  unfold recvOk; simp only [h]
theorem tree_step (k : Nat) (R : Store) {a b : Int} {j : Nat} {ms : List Int} {many x : Int} {e4 : Option D} {raw : List (List Int)} (h : Pok a b) (hj : R[j]? = some (.lst (ms.map D.int))) (h1 : 1 ≤ ms.length) (h2 : ms.length < 1000) (hx : 1 ≤ x) (hx2 : x < 1000) (hr : raw.length < 1000) :
    ∃ p m a' b', Pok a' b' ∧ 0 ≤ p ∧ p < x ∧ m ∈ ms ∧ forF (ixOf P (k + 2)) (.nm 4) [.expr (.meth .append (.slot 3) (.cons (.tup (.cons (.call "_law_take" (.cons (.slot 0) (.cons (.slot 4) .nil)) [] []) (.cons (.slot 4) (.cons (.call "_law_one" (.cons (.slot 0) (.cons (.slot 2) .nil)) [] []) .nil)))) .nil))] (.int x) [some (.loc 0), some (.int many), some (.loc (j + 1)), some (.loc (R.length + 1)), e4] (pool a b :: (R ++ [.lst (raw.map tI)])) = some (.nx [some (.loc 0), some (.int many), some (.loc (j + 1)), some (.loc (R.length + 1)), some (.int x)] (pool a' b' :: (R ++ [.lst ((raw ++ [[p, x, m]]).map tI)]))) := by
  obtain ⟨p, a1, b1, hp1, p0, p1, hc1⟩ := x_law_take (k + 1) (R ++ [.lst (raw.map tI)]) h hx hx2
  have hj2 : (R ++ [O.lst (raw.map tI)])[j]? = some (.lst (ms.map D.int)) := by
    rw [List.getElem?_append_left]
    · exact hj
    · exact (List.getElem?_eq_some_iff.mp hj).1
  obtain ⟨m, a2, b2, hp2, hm, hc2⟩ := x_law_oneI k (R ++ [.lst (raw.map tI)]) hp1 hj2 h1 h2
  refine ⟨p, m, a2, b2, hp2, p0, p1, hm, ?_⟩
  refine ff_bind bind_nm ?_
  have hg := get_two (o := pool a2 b2) (p := .lst (raw.map tI)) R
  walk_at "pl"
  · exact recv_lst (get_two R)
  · rw [List.length_map]; exact Nat.lt_trans hr (by decide)
  · have e := set_two (o := pool a2 b2) (p := .lst (raw.map tI)) (p' := .lst (raw.map tI ++ [D.tup [D.int p, D.int x, D.int m]])) R
    rw [List.set_cons_succ] at e
    rw [e]
    refine compact_two R rfl ?_ rfl
    show D.pures (raw.map tI ++ [tI [p, x, m]]) = true
    rw [show raw.map tI ++ [tI [p, x, m]] = (raw ++ [[p, x, m]]).map tI by simp]
    exact tI_pures _
  · rw [List.map_append]; exact ss_nil
/-- what the roads of a drawn tree are, ahead of the sorting -/
def Raw (ms : List Int) (raw : List (List Int)) : Prop := ∀ i, i < raw.length → ∃ p m, raw[i]? = some [p, (i : Int) + 1, m] ∧ 0 ≤ p ∧ p < (i : Int) + 1 ∧ m ∈ ms
theorem Raw.add {ms : List Int} {raw : List (List Int)} (h : Raw ms raw) {p m x : Int} (hx : x = (raw.length : Int) + 1) (h0 : 0 ≤ p) (h1 : p < x) (hm : m ∈ ms) : Raw ms (raw ++ [[p, x, m]]) := by
  intro i hi
  simp only [List.length_append, List.length_cons, List.length_nil] at hi
  by_cases h2 : i < raw.length
  · obtain ⟨p, m, e, h3⟩ := h i h2
    exact ⟨p, m, by rw [List.getElem?_append_left h2]; exact e, h3⟩
  · have : i = raw.length := by omega
    subst this
    refine ⟨p, m, ?_, h0, by omega, hm⟩
    rw [List.getElem?_append_right (Nat.le_refl _), Nat.sub_self, hx]; rfl
theorem Raw.ne {ms : List Int} {raw : List (List Int)} (h : Raw ms raw) : ∀ l ∈ raw, l ≠ [] := by
  intro l hl
  obtain ⟨i, hi, e⟩ := List.getElem_of_mem hl
  obtain ⟨p, m, e2, _⟩ := h i hi
  rw [List.getElem?_eq_getElem hi, e] at e2
  rw [Option.some.inj e2]; exact List.cons_ne_nil _ _
theorem rangeD_nil {i n : Int} (h : n ≤ i) : rangeD i n = [] := by
  unfold rangeD
  have : (n - i).toNat = 0 := by omega
  rw [this]; rfl
theorem rangeD_cons {i n : Int} (h : i < n) : rangeD i n = .int i :: rangeD (i + 1) n := by
  unfold rangeD
  have : (n - i).toNat = (n - (i + 1)).toNat + 1 := by omega
  rw [this, List.range_succ_eq_map, List.map_cons, List.map_map]
  congr 1
  · simp
  · apply List.map_congr_left
    intro k _
    show D.int (i + ((k + 1 : Nat) : Int)) = D.int (i + 1 + k)
    congr 1; omega
theorem for_free {f : D → PL.Env → Store → Option SR} {l : List D} {env env' : PL.Env} {S S' : Store} (h : forI f .free l env S = some (.nx env' S')) : unlS .free (forI f .free l env S) = some (.nx env' S') := by rw [h, unlS_free]
theorem x_tree (k : Nat) (R : Store) {a b : Int} {j : Nat} {ms : List Int} {many : Int} (h : Pok a b) (hj : R[j]? = some (.lst (ms.map D.int))) (h1 : 1 ≤ ms.length) (h2 : ms.length < 1000) (hm1 : 1 ≤ many) (hm2 : many < 1000) :
    ∃ raw a' b', Pok a' b' ∧ Raw ms raw ∧ (raw.length : Int) + 1 = many ∧ callN P (k + 3) "_law_tree_roads" [.loc 0, .int many, .loc (j + 1)] (pool a b :: R) = some (.val (.tup ((srt raw).map tI)) (pool a' b' :: R)) := by
  have hloop := forI_inv (f := forF (ixOf P (k + 2)) (.nm 4) [.expr (.meth .append (.slot 3) (.cons (.tup (.cons (.call "_law_take" (.cons (.slot 0) (.cons (.slot 4) .nil)) [] []) (.cons (.slot 4) (.cons (.call "_law_one" (.cons (.slot 0) (.cons (.slot 2) .nil)) [] []) .nil)))) .nil))]) (src := .free)
    (Inv := fun l env S => ∃ a b raw x e4, Pok a b ∧ 1 ≤ x ∧ x ≤ many ∧ l = rangeD x many ∧ Raw ms raw ∧ (raw.length : Int) + 1 = x ∧ env = [some (.loc 0), some (.int many), some (.loc (j + 1)), some (.loc (R.length + 1)), e4] ∧ S = pool a b :: (R ++ [.lst (raw.map tI)])) ?_ ?_
    (rangeD 1 many) [some (.loc 0), some (.int many), some (.loc (j + 1)), some (.loc (R.length + 1)), none] (pool a b :: (R ++ [.lst (([] : List (List Int)).map tI)])) ⟨a, b, [], 1, none, h, by omega, hm1, rfl, fun i hi => by simp at hi, rfl, rfl, rfl⟩
  · obtain ⟨env', S', hf, a', b', raw, x, e4, hp, hx1, hx2, hr, hraw, hl, rfl, rfl⟩ := hloop
    have hx : x = many := by
      by_cases hlt : x < many
      · rw [rangeD_cons hlt] at hr; cases hr
      · omega
    subst hx
    refine ⟨raw, a', b', hp, hraw, hl, ?_⟩
    refine r__law_tree_roads ?_
    dsimp only [i__law_tree_roads]
    have hret : exS (ixOf P (k + 2)) (.ret (.bif .tuple (.cons (.bif .sorted (.cons (.slot 3) .nil)) .nil))) [some (.loc 0), some (.int x), some (.loc (j + 1)), some (.loc (R.length + 1)), e4] (pool a' b' :: (R ++ [O.lst (raw.map tI)])) = some (.rt (.tup ((srt raw).map tI)) (pool a' b' :: (R ++ [O.lst (raw.map tI)]))) :=
      xs_ret (ev_bif (es_cons (ev_bif (es_cons (ev_slot rfl) es_nil) (f_sorted_tI (get_two R) hraw.ne (by show _ ≤ 16777216; omega))) es_nil) (f_tup_lst (List.getElem?_concat_length))) (compact_app _ _ (tI_pures _))
    have hok : (okRange 1 && okRange x) = true := by
      unfold okRange
      rw [Bool.and_eq_true, Bool.and_eq_true, Bool.and_eq_true]
      exact ⟨⟨by decide, by decide⟩, decide_eq_true (by omega), decide_eq_true (by omega)⟩
    exact fin_rt' (ss_nx (xs_set (ev_lst es_nil (by decide)) (d' := .loc (R.length + 1)) (S2 := pool a b :: (R ++ [O.lst []])) (compact_new0 (o := O.lst []) (pool a b :: R) rfl)) (ss_nx (xs_for (l := rangeD 1 x) (src := .free) (S1 := pool a b :: (R ++ [O.lst []])) (it_range2' ev_cst (ev_slot rfl) hok (compact_self _ rfl)) (for_free hf)) (ss_rt hret))) (compact_head R _ rfl (tI_pures _))
  · rintro d r env S ⟨a, b, raw, x, e4, hp, hx1, hx2, hr, hraw, hl, rfl, rfl⟩
    have hlt : x < many := by
      by_cases hlt : x < many
      · exact hlt
      · rw [rangeD_nil (by omega)] at hr; cases hr
    rw [rangeD_cons hlt] at hr
    injection hr with hd hr
    subst hd; subst hr
    obtain ⟨p, m, a1, b1, hp1, p0, p1, hm, hf⟩ := tree_step k R (many := many) (e4 := e4) hp hj h1 h2 hx1 (by omega) (raw := raw) (by omega)
    refine ⟨trivial, _, _, .inl hf, a1, b1, raw ++ [[p, x, m]], x + 1, some (.int x), hp1, by omega, by omega, rfl, hraw.add hl.symm p0 p1 hm, by simp; omega, rfl, rfl⟩
  · intro _ _ _; trivial
end K13
set_option Elab.async false
set_option linter.all false
set_option maxRecDepth 100000
namespace K13
open PySem PySem.Spec PyProof.Rows PL L2
/-- steps of a run -/
local macro_rules | `(tactic| walk_at "pl") => `(tactic| repeat' (first
  | ((with_reducible apply hyp_get); (with_reducible assumption))
  | ((with_reducible apply call_get); (with_reducible assumption))
  | (with_reducible exact ev_cst) | (with_reducible exact es_nil) | (with_reducible exact et_nil) | (with_reducible exact eo_none) | (with_reducible exact ss_nil) | (with_reducible exact ev_dict0) | (with_reducible exact t_bl) | (with_reducible exact b_add) | (with_reducible exact b_mulb) | (with_reducible exact b_pow18) | (with_reducible exact b_sub) | (with_reducible exact f_int) | (with_reducible exact f_max) | (with_reducible exact f_min) | (with_reducible exact t_scr0) | (with_reducible exact t_scr1) | (with_reducible exact f_intb) | (with_reducible exact f_len_tup) | (with_reducible exact f_len_scr) | (with_reducible exact f_list_tup) | (with_reducible exact unlk_free) | (with_reducible exact not_tt) | (with_reducible exact not_ff) | (with_reducible exact not_k) | (with_reducible exact isa_int) | (with_reducible exact isa_bl) | (with_reducible exact isa_tup) | (with_reducible exact isa_obj) | (with_reducible exact get0) | (with_reducible exact get1) | (with_reducible exact get2) | (with_reducible exact par2) | (with_reducible exact par3) | (with_reducible exact bind_nm) | (with_reducible exact sn_rt) | (with_reducible exact k_tf) | (with_reducible exact k_ft)
  | ((with_reducible apply env_get); exact rfl) | ((with_reducible apply sto_get); exact rfl) | ((with_reducible apply atI_get'); exact rfl) | ((with_reducible apply ixN_get'); exact rfl) | ((with_reducible apply ar_get); exact rfl) | ((with_reducible apply gl_get); exact rfl) | ((with_reducible apply perm_get); exact rfl) | ((with_reducible apply bind_get); exact rfl) | ((with_reducible apply pure_t); (first | (with_reducible assumption) | (simp only [D.pure, D.pures, O.pure, Bool.and_self, Bool.and_true, Bool.true_and, List.set_cons_zero, List.set_cons_succ, Int.toNat_zero, Int.toNat_one]; done))) | ((with_reducible apply pure_o); (first | (with_reducible assumption) | (simp only [D.pure, D.pures, O.pure, Bool.and_self, Bool.and_true, Bool.true_and, List.set_cons_zero, List.set_cons_succ, Int.toNat_zero, Int.toNat_one]; done))) | ((with_reducible apply pures_t); (first | (with_reducible assumption) | (simp only [D.pure, D.pures, O.pure, Bool.and_self, Bool.and_true, Bool.true_and, List.set_cons_zero, List.set_cons_succ, Int.toNat_zero, Int.toNat_one]; done))) | ((with_reducible apply le_line); exact rfl) | ((with_reducible apply compact_self); (first | (with_reducible assumption) | (simp only [D.pure, D.pures, O.pure, Bool.and_self, Bool.and_true, Bool.true_and, List.set_cons_zero, List.set_cons_succ, Int.toNat_zero, Int.toNat_one]; done))) | ((with_reducible apply compact_app); (first | (with_reducible assumption) | (simp only [D.pure, D.pures, O.pure, Bool.and_self, Bool.and_true, Bool.true_and, List.set_cons_zero, List.set_cons_succ, Int.toNat_zero, Int.toNat_one]; done))) | ((with_reducible apply compact_new0); (first | (with_reducible assumption) | (simp only [D.pure, D.pures, O.pure, Bool.and_self, Bool.and_true, Bool.true_and, List.set_cons_zero, List.set_cons_succ, Int.toNat_zero, Int.toNat_one]; done)))
  | ((with_reducible apply lt_line); exact rfl)
  | ((with_reducible apply sto_eq); (simp only [List.set_cons_zero, List.set_cons_succ, List.cons_append, List.nil_append, Int.toNat_zero, Int.toNat_one]; done))
  | ((with_reducible apply sto_eq); (try simp only [List.set_cons_zero, List.set_cons_succ, List.cons_append, List.nil_append, Int.toNat_zero, Int.toNat_one]); exact rfl)
  | ((with_reducible apply env_eq); (try simp only [List.set_cons_zero, List.set_cons_succ]); exact rfl)
  | ((with_reducible apply b_mul); omega) | ((with_reducible apply b_fdiv) <;> omega) | ((with_reducible apply b_mod); omega)
  | ((with_reducible apply c_lt_t); omega) | ((with_reducible apply c_lt_f); omega) | ((with_reducible apply c_le_t); omega) | ((with_reducible apply c_le_f); omega) | ((with_reducible apply c_gt_t); omega) | ((with_reducible apply c_gt_f); omega) | ((with_reducible apply c_ge_t); omega) | ((with_reducible apply c_ge_f); omega) | ((with_reducible apply c_eq_t); omega) | ((with_reducible apply c_eq_f); omega) | ((with_reducible apply c_ne_t); omega) | ((with_reducible apply c_ne_f); omega) | ((with_reducible apply room_le); omega)
  | (with_reducible exact c_lt) | (with_reducible exact c_le) | (with_reducible exact c_gt) | (with_reducible exact c_ge) | (with_reducible exact c_eq) | (with_reducible exact c_ne)
  | (with_reducible apply f_len_lst) | (with_reducible apply f_tup_lst) | (with_reducible apply f_list_lst) | (with_reducible apply i_lst) | (with_reducible apply i_tup) | (with_reducible apply i_scr) | (with_reducible apply p_lst2)
  | ((with_reducible apply compact_head0) <;> (first | (with_reducible assumption) | (simp only [D.pure, D.pures, O.pure, Bool.and_self, Bool.and_true, Bool.true_and, List.set_cons_zero, List.set_cons_succ, Int.toNat_zero, Int.toNat_one]; done))) | ((with_reducible apply compact_head) <;> (first | (with_reducible assumption) | (simp only [D.pure, D.pures, O.pure, Bool.and_self, Bool.and_true, Bool.true_and, List.set_cons_zero, List.set_cons_succ, Int.toNat_zero, Int.toNat_one]; done)))
  | (with_reducible refine k_tt ?_) | (with_reducible refine k_ff ?_)
  | (with_reducible apply ev_slot) | (with_reducible apply ev_glob) | (with_reducible apply ev_bin) | (with_reducible apply ev_neg) | (with_reducible apply ev_not') | (with_reducible apply ev_cmp) | (with_reducible apply ev_chn) | (with_reducible apply ch_last) | (with_reducible apply ch_more') | (with_reducible apply ev_and') | (with_reducible apply ev_or') | (with_reducible apply ev_ite') | (with_reducible apply es_cons) | (with_reducible apply ev_tup) | (with_reducible apply ev_lst) | (with_reducible apply ev_idx) | (with_reducible apply eo_some) | (with_reducible apply ev_slc) | (with_reducible apply ev_fld) | (with_reducible apply ev_isa) | (with_reducible apply ev_call) | (with_reducible apply ev_callK) | (with_reducible apply ev_bif) | (with_reducible apply ev_meth) | (with_reducible apply ev_mk) | (with_reducible apply ev_comp) | (with_reducible apply et_one) | (with_reducible apply xs_set2) | (with_reducible apply xs_par) | (with_reducible apply xs_put) | (with_reducible apply xs_expr) | (with_reducible apply xs_ret) | (with_reducible apply xs_ite') | (with_reducible apply xs_unp) | (with_reducible apply ss_cons') | (with_reducible apply sn_nx) | (with_reducible apply fin') | (with_reducible apply fn_rt) | (with_reducible apply fn_nx) | (with_reducible apply m_append2)))
/-- rows of three -/
def Rows3 (rs : List (List Int)) : Prop := ∀ r ∈ rs, ∃ p q l, r = [p, q, l]
def ti1 (x : Int) : List Int → Option (List Int)
  | [p, q, l] => if p = x then some [q, l] else none
  | _ => none
def ti2 (x : Int) : List Int → Option (List Int)
  | [p, q, l] => if q = x then some [p, l] else none
  | _ => none
def tD (f : List Int → Option (List Int)) : D → Option D
  | .tup [.int p, .int q, .int l] => (f [p, q, l]).map tI
  | _ => none
theorem tD_map (f : List Int → Option (List Int)) : ∀ {rs : List (List Int)}, Rows3 rs → (rs.map tI).filterMap (tD f) = (rs.filterMap f).map tI
  | [], _ => rfl
  | r :: rs, h => by
    obtain ⟨p, q, l, rfl⟩ := h r List.mem_cons_self
    have ih := tD_map f (rs := rs) fun r hr => h r (List.mem_cons_of_mem _ hr)
    have e : tD f (tI [p, q, l]) = (f [p, q, l]).map tI := rfl
    rw [List.map_cons, List.filterMap_cons, List.filterMap_cons, e, ih]
    cases f [p, q, l] <;> rfl
def tiedI (rs : List (List Int)) (x : Int) : List (List Int) := srt (rs.filterMap (ti1 x) ++ rs.filterMap (ti2 x))
theorem x_tied (k : Nat) (S : Store) {rs : List (List Int)} (x : Int) (h3 : Rows3 rs) (hl : rs.length ≤ 1000) : callN P (k + 1) "tied" [.tup (rs.map tI), .int x] S = some (.val (.loc S.length) (S ++ [.lst ((tiedI rs x).map tI)])) := by
  have hc1 : ∀ S, compI (compF (ixOf P k) (.tup (.cons (.slot 4) (.cons (.slot 5) .nil))) (.tup [.nm 3, .nm 4, .nm 5]) (.cons (.cmp .eq (.slot 3) (.slot 1)) .nil) [3, 4, 5] [some (.tup (rs.map tI)), some (.int x), none, none, none, none]) .free (rs.map tI) [] S = some ((rs.filterMap (ti1 x)).map tI, S) := by
    intro S
    have := compI_fm (f := compF (ixOf P k) (.tup (.cons (.slot 4) (.cons (.slot 5) .nil))) (.tup [.nm 3, .nm 4, .nm 5]) (.cons (.cmp .eq (.slot 3) (.slot 1)) .nil) [3, 4, 5] [some (.tup (rs.map tI)), some (.int x), none, none, none, none]) (src := .free) (S := S) (tD (ti1 x)) trivial (rs.map tI) [] ?_ (by simp only [List.length_nil, List.length_map]; show _ ≤ 16777216; omega)
    · rw [this, tD_map _ h3]; rfl
    · intro d hd
      obtain ⟨r, hr, rfl⟩ := List.mem_map.mp hd
      obtain ⟨p, q, l, rfl⟩ := h3 r hr
      have ht : ∀ S : Store, evTs (ixOf P k) (.cons (.cmp .eq (.slot 3) (.slot 1)) .nil) [some (.tup (rs.map tI)), some (.int x), none, some (.int p), some (.int q), some (.int l)] S = some (.val (decide (p = x)) S) := fun S => et_one (ev_cmp (ev_slot rfl) (ev_slot rfl) c_eq) rfl (compact_self _ rfl)
      by_cases e : p = x
      · have e2 : tD (ti1 x) (tI [p, q, l]) = some (tI [q, l]) := by
          show (ti1 x [p, q, l]).map tI = _
          rw [ti1, if_pos e]; rfl
        rw [e2]
        refine cf_t (env' := [some (.tup (rs.map tI)), some (.int x), none, some (.int p), some (.int q), some (.int l)]) rfl ((ht S).trans ?_) (ev_tup (es_cons (ev_slot rfl) (es_cons (ev_slot rfl) es_nil)) (le_line rfl)) (compact_self _ rfl)
        rw [decide_eq_true e]
      · have e2 : tD (ti1 x) (tI [p, q, l]) = none := by
          show (ti1 x [p, q, l]).map tI = _
          rw [ti1, if_neg e]; rfl
        rw [e2]
        refine cf_f (env' := [some (.tup (rs.map tI)), some (.int x), none, some (.int p), some (.int q), some (.int l)]) rfl ((ht S).trans ?_)
        rw [decide_eq_false e]
  have hc2 : ∀ S, compI (compF (ixOf P k) (.tup (.cons (.slot 3) (.cons (.slot 5) .nil))) (.tup [.nm 3, .nm 4, .nm 5]) (.cons (.cmp .eq (.slot 4) (.slot 1)) .nil) [3, 4, 5] [some (.tup (rs.map tI)), some (.int x), none, none, none, none]) .free (rs.map tI) [] S = some ((rs.filterMap (ti2 x)).map tI, S) := by
    intro S
    have := compI_fm (f := compF (ixOf P k) (.tup (.cons (.slot 3) (.cons (.slot 5) .nil))) (.tup [.nm 3, .nm 4, .nm 5]) (.cons (.cmp .eq (.slot 4) (.slot 1)) .nil) [3, 4, 5] [some (.tup (rs.map tI)), some (.int x), none, none, none, none]) (src := .free) (S := S) (tD (ti2 x)) trivial (rs.map tI) [] ?_ (by simp only [List.length_nil, List.length_map]; show _ ≤ 16777216; omega)
    · rw [this, tD_map _ h3]; rfl
    · intro d hd
      obtain ⟨r, hr, rfl⟩ := List.mem_map.mp hd
      obtain ⟨p, q, l, rfl⟩ := h3 r hr
      have ht : ∀ S : Store, evTs (ixOf P k) (.cons (.cmp .eq (.slot 4) (.slot 1)) .nil) [some (.tup (rs.map tI)), some (.int x), none, some (.int p), some (.int q), some (.int l)] S = some (.val (decide (q = x)) S) := fun S => et_one (ev_cmp (ev_slot rfl) (ev_slot rfl) c_eq) rfl (compact_self _ rfl)
      by_cases e : q = x
      · have e2 : tD (ti2 x) (tI [p, q, l]) = some (tI [p, l]) := by
          show (ti2 x [p, q, l]).map tI = _
          rw [ti2, if_pos e]; rfl
        rw [e2]
        refine cf_t (env' := [some (.tup (rs.map tI)), some (.int x), none, some (.int p), some (.int q), some (.int l)]) rfl ((ht S).trans ?_) (ev_tup (es_cons (ev_slot rfl) (es_cons (ev_slot rfl) es_nil)) (le_line rfl)) (compact_self _ rfl)
        rw [decide_eq_true e]
      · have e2 : tD (ti2 x) (tI [p, q, l]) = none := by
          show (ti2 x [p, q, l]).map tI = _
          rw [ti2, if_neg e]; rfl
        rw [e2]
        refine cf_f (env' := [some (.tup (rs.map tI)), some (.int x), none, some (.int p), some (.int q), some (.int l)]) rfl ((ht S).trans ?_)
        rw [decide_eq_false e]
  generalize hA : rs.filterMap (ti1 x) = A at hc1
  generalize hB : rs.filterMap (ti2 x) = B at hc2
  have hAl : A.length ≤ 1000 := by rw [← hA]; exact Nat.le_trans (List.length_filterMap_le _ _) hl
  have hBl : B.length ≤ 1000 := by rw [← hB]; exact Nat.le_trans (List.length_filterMap_le _ _) hl
  have hne : ∀ l ∈ A ++ B, l ≠ [] := by
    intro l hl
    rcases List.mem_append.mp hl with h | h
    · rw [← hA] at h
      obtain ⟨r, hr, e⟩ := List.mem_filterMap.mp h
      obtain ⟨p, q, m, rfl⟩ := h3 r hr
      rw [ti1] at e
      split at e
      · cases e; exact List.cons_ne_nil _ _
      · cases e
    · rw [← hB] at h
      obtain ⟨r, hr, e⟩ := List.mem_filterMap.mp h
      obtain ⟨p, q, m, rfl⟩ := h3 r hr
      rw [ti2] at e
      split at e
      · cases e; exact List.cons_ne_nil _ _
      · cases e
  have ht : tiedI rs x = srt (A ++ B) := by unfold tiedI; rw [hA, hB]
  rw [ht]
  refine r_tied ?_
  dsimp only [i_tied]
  have hit : ∀ S : Store, evIt (ixOf P k) (.val (.slot 0)) [some (.tup (rs.map tI)), some (.int x), none, none, none, none] S = some (.val (rs.map tI, .free) S) := fun S => it_tup' (ev_slot rfl) (compact_self _ (tI_pures rs))
  have hset : exS (ixOf P k) (.set 2 (.bin .add (.comp (.tup (.cons (.slot 4) (.cons (.slot 5) .nil))) (.tup [.nm 3, .nm 4, .nm 5]) (.val (.slot 0)) (.cons (.cmp .eq (.slot 3) (.slot 1)) .nil) [3, 4, 5]) (.comp (.tup (.cons (.slot 3) (.cons (.slot 5) .nil))) (.tup [.nm 3, .nm 4, .nm 5]) (.val (.slot 0)) (.cons (.cmp .eq (.slot 4) (.slot 1)) .nil) [3, 4, 5]))) [some (.tup (rs.map tI)), some (.int x), none, none, none, none] S = some (.nx [some (.tup (rs.map tI)), some (.int x), some (.loc S.length), none, none, none] (S ++ [O.lst ((A ++ B).map tI)])) := by
    have hb := b_lst (S := S ++ [O.lst (A.map tI)] ++ [O.lst (B.map tI)]) (j := S.length) (k := (S ++ [O.lst (A.map tI)]).length) (l := A.map tI) (m := B.map tI) (by rw [List.append_assoc, List.getElem?_append_right (Nat.le_refl _), Nat.sub_self]; rfl) List.getElem?_concat_length (by rw [List.length_map, List.length_map]; show _ ≤ 16777216; omega)
    refine xs_set (ev_bin (ev_comp (hit S) (hc1 S) (unlk_free ..)) (ev_comp (hit _) (hc2 _) (unlk_free ..)) hb) ?_
    have := compact_new (S := S) (S' := S ++ [O.lst (A.map tI)] ++ [O.lst (B.map tI)] ++ [O.lst (A.map tI ++ B.map tI)]) (n := (S ++ [O.lst (A.map tI)] ++ [O.lst (B.map tI)]).length) (o := O.lst (A.map tI ++ B.map tI)) (by rw [List.append_assoc, List.append_assoc]; exact kept_app _ _) (by simp) List.getElem?_concat_length (by show D.pures _ = true; rw [← List.map_append]; exact tI_pures _)
    rw [this, List.append_assoc, List.append_assoc, List.take_left, List.map_append]
  have hret : exS (ixOf P k) (.ret (.bif .sorted (.cons (.slot 2) .nil))) [some (.tup (rs.map tI)), some (.int x), some (.loc S.length), none, none, none] (S ++ [O.lst ((A ++ B).map tI)]) = some (.rt (.loc (S ++ [O.lst ((A ++ B).map tI)]).length) (S ++ [O.lst ((A ++ B).map tI)] ++ [O.lst ((srt (A ++ B)).map tI)])) :=
    xs_ret (ev_bif (es_cons (ev_slot rfl) es_nil) (f_sorted_tI List.getElem?_concat_length hne (by rw [List.length_append]; show _ ≤ 16777216; omega))) (compact_new0 _ (tI_pures _))
  refine fin_rt' (ss_nx hset (ss_rt hret)) ?_
  have := compact_new (S := S) (S' := S ++ [O.lst ((A ++ B).map tI)] ++ [O.lst ((srt (A ++ B)).map tI)]) (n := (S ++ [O.lst ((A ++ B).map tI)]).length) (o := O.lst ((srt (A ++ B)).map tI)) (by rw [List.append_assoc]; exact kept_app _ _) (by simp) List.getElem?_concat_length (tI_pures _)
  rw [this, List.append_assoc, List.take_left]
end K13
set_option Elab.async false
set_option linter.all false
set_option maxRecDepth 100000
namespace K13
open PySem PySem.Spec PyProof.Rows PL L2
/-- steps of a run -/
local macro_rules | `(tactic| walk_at "pl") => `(tactic| repeat' (first
  | ((with_reducible apply hyp_get); (with_reducible assumption))
  | ((with_reducible apply call_get); (with_reducible assumption))
  | (with_reducible exact ev_cst) | (with_reducible exact es_nil) | (with_reducible exact et_nil) | (with_reducible exact eo_none) | (with_reducible exact ss_nil) | (with_reducible exact ev_dict0) | (with_reducible exact t_bl) | (with_reducible exact b_add) | (with_reducible exact b_mulb) | (with_reducible exact b_pow18) | (with_reducible exact b_sub) | (with_reducible exact f_int) | (with_reducible exact f_max) | (with_reducible exact f_min) | (with_reducible exact t_scr0) | (with_reducible exact t_scr1) | (with_reducible exact f_intb) | (with_reducible exact f_len_tup) | (with_reducible exact f_len_scr) | (with_reducible exact f_list_tup) | (with_reducible exact unlk_free) | (with_reducible exact not_tt) | (with_reducible exact not_ff) | (with_reducible exact not_k) | (with_reducible exact isa_int) | (with_reducible exact isa_bl) | (with_reducible exact isa_tup) | (with_reducible exact isa_obj) | (with_reducible exact get0) | (with_reducible exact get1) | (with_reducible exact get2) | (with_reducible exact par2) | (with_reducible exact par3) | (with_reducible exact bind_nm) | (with_reducible exact sn_rt) | (with_reducible exact k_tf) | (with_reducible exact k_ft)
  | ((with_reducible apply env_get); exact rfl) | ((with_reducible apply sto_get); exact rfl) | ((with_reducible apply atI_get'); exact rfl) | ((with_reducible apply ixN_get'); exact rfl) | ((with_reducible apply ar_get); exact rfl) | ((with_reducible apply gl_get); exact rfl) | ((with_reducible apply perm_get); exact rfl) | ((with_reducible apply bind_get); exact rfl) | ((with_reducible apply pure_t); (first | (with_reducible assumption) | (simp only [D.pure, D.pures, O.pure, Bool.and_self, Bool.and_true, Bool.true_and, List.set_cons_zero, List.set_cons_succ, Int.toNat_zero, Int.toNat_one]; done))) | ((with_reducible apply pure_o); (first | (with_reducible assumption) | (simp only [D.pure, D.pures, O.pure, Bool.and_self, Bool.and_true, Bool.true_and, List.set_cons_zero, List.set_cons_succ, Int.toNat_zero, Int.toNat_one]; done))) | ((with_reducible apply pures_t); (first | (with_reducible assumption) | (simp only [D.pure, D.pures, O.pure, Bool.and_self, Bool.and_true, Bool.true_and, List.set_cons_zero, List.set_cons_succ, Int.toNat_zero, Int.toNat_one]; done))) | ((with_reducible apply le_line); exact rfl) | ((with_reducible apply compact_self); (first | (with_reducible assumption) | (simp only [D.pure, D.pures, O.pure, Bool.and_self, Bool.and_true, Bool.true_and, List.set_cons_zero, List.set_cons_succ, Int.toNat_zero, Int.toNat_one]; done))) | ((with_reducible apply compact_app); (first | (with_reducible assumption) | (simp only [D.pure, D.pures, O.pure, Bool.and_self, Bool.and_true, Bool.true_and, List.set_cons_zero, List.set_cons_succ, Int.toNat_zero, Int.toNat_one]; done))) | ((with_reducible apply compact_new0); (first | (with_reducible assumption) | (simp only [D.pure, D.pures, O.pure, Bool.and_self, Bool.and_true, Bool.true_and, List.set_cons_zero, List.set_cons_succ, Int.toNat_zero, Int.toNat_one]; done)))
  | ((with_reducible apply lt_line); exact rfl)
  | ((with_reducible apply sto_eq); (simp only [List.set_cons_zero, List.set_cons_succ, List.cons_append, List.nil_append, Int.toNat_zero, Int.toNat_one]; done))
  | ((with_reducible apply sto_eq); (try simp only [List.set_cons_zero, List.set_cons_succ, List.cons_append, List.nil_append, Int.toNat_zero, Int.toNat_one]); exact rfl)
  | ((with_reducible apply env_eq); (try simp only [List.set_cons_zero, List.set_cons_succ]); exact rfl)
  | ((with_reducible apply b_mul); omega) | ((with_reducible apply b_fdiv) <;> omega) | ((with_reducible apply b_mod); omega)
  | ((with_reducible apply c_lt_t); omega) | ((with_reducible apply c_lt_f); omega) | ((with_reducible apply c_le_t); omega) | ((with_reducible apply c_le_f); omega) | ((with_reducible apply c_gt_t); omega) | ((with_reducible apply c_gt_f); omega) | ((with_reducible apply c_ge_t); omega) | ((with_reducible apply c_ge_f); omega) | ((with_reducible apply c_eq_t); omega) | ((with_reducible apply c_eq_f); omega) | ((with_reducible apply c_ne_t); omega) | ((with_reducible apply c_ne_f); omega) | ((with_reducible apply room_le); omega)
  | (with_reducible exact c_lt) | (with_reducible exact c_le) | (with_reducible exact c_gt) | (with_reducible exact c_ge) | (with_reducible exact c_eq) | (with_reducible exact c_ne)
  | (with_reducible apply f_len_lst) | (with_reducible apply f_tup_lst) | (with_reducible apply f_list_lst) | (with_reducible apply i_lst) | (with_reducible apply i_tup) | (with_reducible apply i_scr) | (with_reducible apply p_lst2)
  | ((with_reducible apply compact_head0) <;> (first | (with_reducible assumption) | (simp only [D.pure, D.pures, O.pure, Bool.and_self, Bool.and_true, Bool.true_and, List.set_cons_zero, List.set_cons_succ, Int.toNat_zero, Int.toNat_one]; done))) | ((with_reducible apply compact_head) <;> (first | (with_reducible assumption) | (simp only [D.pure, D.pures, O.pure, Bool.and_self, Bool.and_true, Bool.true_and, List.set_cons_zero, List.set_cons_succ, Int.toNat_zero, Int.toNat_one]; done)))
  | (with_reducible refine k_tt ?_) | (with_reducible refine k_ff ?_)
  | (with_reducible apply ev_slot) | (with_reducible apply ev_glob) | (with_reducible apply ev_bin) | (with_reducible apply ev_neg) | (with_reducible apply ev_not') | (with_reducible apply ev_cmp) | (with_reducible apply ev_chn) | (with_reducible apply ch_last) | (with_reducible apply ch_more') | (with_reducible apply ev_and') | (with_reducible apply ev_or') | (with_reducible apply ev_ite') | (with_reducible apply es_cons) | (with_reducible apply ev_tup) | (with_reducible apply ev_lst) | (with_reducible apply ev_idx) | (with_reducible apply eo_some) | (with_reducible apply ev_slc) | (with_reducible apply ev_fld) | (with_reducible apply ev_isa) | (with_reducible apply ev_call) | (with_reducible apply ev_callK) | (with_reducible apply ev_bif) | (with_reducible apply ev_meth) | (with_reducible apply ev_mk) | (with_reducible apply ev_comp) | (with_reducible apply et_one) | (with_reducible apply xs_set2) | (with_reducible apply xs_par) | (with_reducible apply xs_put) | (with_reducible apply xs_expr) | (with_reducible apply xs_ret) | (with_reducible apply xs_ite') | (with_reducible apply xs_unp) | (with_reducible apply ss_cons') | (with_reducible apply sn_nx) | (with_reducible apply fin') | (with_reducible apply fn_rt) | (with_reducible apply fn_nx) | (with_reducible apply m_append2)))
@[reducible] def rst (S : Store) (F W : List Int) : Store := S ++ [O.dict false (dF F), O.lst (W.map D.int)]
@[reducible] def rbody : List IS := [.ite (.cmp .notin (.slot 4) (.slot 2)) [
        .put (.slot 2) (.slot 4) (.cst (.bl true)),
        .expr (.meth .append (.slot 3) (.cons (.slot 4) .nil))] []]
theorem rst_pure (F W : List Int) : ∀ o ∈ [O.dict false (dF F), O.lst (W.map D.int)], o.pure = true := by
  intro o ho
  rcases List.mem_cons.mp ho with h | h
  · subst h; exact dF_pure F
  · rw [List.mem_singleton] at h
    subst h; exact pures_ints W
@[reducible] def renv (S : Store) (ro : D) (x : Int) (e4 e5 : Option D) : PL.Env := [some ro, some (.int x), some (.loc S.length), some (.loc (S.length + 1)), e4, e5]
theorem reach_in (k : Nat) (S : Store) {ro : D} {x y l : Int} {e4 e5 : Option D} {F W : List Int} (hF : F.length < 100) (hW : W.length < 1000) :
    forF (ixOf P k) (.tup [.nm 4, .nm 5]) rbody (tI [y, l]) (renv S ro x e4 e5) (rst S F W) = some (.nx (renv S ro x (some (.int y)) (some (.int l))) (if y ∈ F then rst S F W else rst S (F ++ [y]) (W ++ [y]))) := by
  have g0 : ∀ F W, (rst S F W)[S.length]? = some (O.dict false (dF F)) := fun F W => getT S _ 0
  have g1 : ∀ F W, (rst S F W)[S.length + 1]? = some (O.lst (W.map D.int)) := fun F W => getT S _ 1
  refine ff_bind (env' := renv S ro x (some (.int y)) (some (.int l))) rfl ?_
  have ht := ev_cmp (ix := ixOf P k) (env := renv S ro x (some (.int y)) (some (.int l))) (S := rst S F W) (a := .slot 4) (b := .slot 2) (ev_slot rfl) (ev_slot rfl) (c_notin_dF (y := y) (g0 F W))
  by_cases hy : y ∈ F
  · rw [if_pos hy]
    rw [decide_eq_true hy] at ht
    exact ss_nx (xs_ite_f ht rfl (compact_self _ rfl) ss_nil) ss_nil
  · rw [if_neg hy]
    rw [decide_eq_false hy] at ht
    have hp := p_dF (g0 F W) hy (by show _ < 16777216; omega)
    have e1 := setT S [O.dict false (dF F), O.lst (W.map D.int)] 0 (O.dict false (dF (F ++ [y])))
    rw [show (rst S F W).set S.length (O.dict false (dF (F ++ [y]))) = rst S (F ++ [y]) W from e1] at hp
    have hm := m_append2 (d := .int y) (g1 (F ++ [y]) W) (by rw [List.length_map]; show _ < 16777216; omega) (setT S _ 1 _)
    have e2 : S ++ [O.dict false (dF (F ++ [y])), O.lst (W.map D.int)].set 1 (O.lst (W.map D.int ++ [.int y])) = rst S (F ++ [y]) (W ++ [y]) := by
      show _ = S ++ [_, O.lst ((W ++ [y]).map D.int)]
      rw [List.map_append]; rfl
    rw [e2] at hm
    refine ss_nx (xs_ite_t ht rfl (compact_self _ rfl) (ss_nx (xs_put ev_cst (ev_slot rfl) (ev_slot rfl) hp (compact_tail0 S rfl (rst_pure _ _) rfl)) (ss_nx (xs_expr (ev_meth (ev_slot rfl) (recv_lst (g1 _ _)) (es_cons (ev_slot rfl) es_nil) hm) (compact_tail0 S rfl (rst_pure _ _) rfl)) ss_nil))) ss_nil
end K13
set_option Elab.async false
set_option linter.all false
set_option maxRecDepth 100000
namespace K13
open PySem PySem.Spec PyProof.Rows PL L2
/-- steps of a run -/
local macro_rules | `(tactic| walk_at "pl") => `(tactic| repeat' (first
  | ((with_reducible apply hyp_get); (with_reducible assumption))
  | ((with_reducible apply call_get); (with_reducible assumption))
  | (with_reducible exact ev_cst) | (with_reducible exact es_nil) | (with_reducible exact et_nil) | (with_reducible exact eo_none) | (with_reducible exact ss_nil) | (with_reducible exact ev_dict0) | (with_reducible exact t_bl) | (with_reducible exact b_add) | (with_reducible exact b_mulb) | (with_reducible exact b_pow18) | (with_reducible exact b_sub) | (with_reducible exact f_int) | (with_reducible exact f_max) | (with_reducible exact f_min) | (with_reducible exact t_scr0) | (with_reducible exact t_scr1) | (with_reducible exact f_intb) | (with_reducible exact f_len_tup) | (with_reducible exact f_len_scr) | (with_reducible exact f_list_tup) | (with_reducible exact unlk_free) | (with_reducible exact not_tt) | (with_reducible exact not_ff) | (with_reducible exact not_k) | (with_reducible exact isa_int) | (with_reducible exact isa_bl) | (with_reducible exact isa_tup) | (with_reducible exact isa_obj) | (with_reducible exact get0) | (with_reducible exact get1) | (with_reducible exact get2) | (with_reducible exact par2) | (with_reducible exact par3) | (with_reducible exact bind_nm) | (with_reducible exact sn_rt) | (with_reducible exact k_tf) | (with_reducible exact k_ft)
  | ((with_reducible apply env_get); exact rfl) | ((with_reducible apply sto_get); exact rfl) | ((with_reducible apply atI_get'); exact rfl) | ((with_reducible apply ixN_get'); exact rfl) | ((with_reducible apply ar_get); exact rfl) | ((with_reducible apply gl_get); exact rfl) | ((with_reducible apply perm_get); exact rfl) | ((with_reducible apply bind_get); exact rfl) | ((with_reducible apply pure_t); (first | (with_reducible assumption) | (simp only [D.pure, D.pures, O.pure, Bool.and_self, Bool.and_true, Bool.true_and, List.set_cons_zero, List.set_cons_succ, Int.toNat_zero, Int.toNat_one]; done))) | ((with_reducible apply pure_o); (first | (with_reducible assumption) | (simp only [D.pure, D.pures, O.pure, Bool.and_self, Bool.and_true, Bool.true_and, List.set_cons_zero, List.set_cons_succ, Int.toNat_zero, Int.toNat_one]; done))) | ((with_reducible apply pures_t); (first | (with_reducible assumption) | (simp only [D.pure, D.pures, O.pure, Bool.and_self, Bool.and_true, Bool.true_and, List.set_cons_zero, List.set_cons_succ, Int.toNat_zero, Int.toNat_one]; done))) | ((with_reducible apply le_line); exact rfl) | ((with_reducible apply compact_self); (first | (with_reducible assumption) | (simp only [D.pure, D.pures, O.pure, Bool.and_self, Bool.and_true, Bool.true_and, List.set_cons_zero, List.set_cons_succ, Int.toNat_zero, Int.toNat_one]; done))) | ((with_reducible apply compact_app); (first | (with_reducible assumption) | (simp only [D.pure, D.pures, O.pure, Bool.and_self, Bool.and_true, Bool.true_and, List.set_cons_zero, List.set_cons_succ, Int.toNat_zero, Int.toNat_one]; done))) | ((with_reducible apply compact_new0); (first | (with_reducible assumption) | (simp only [D.pure, D.pures, O.pure, Bool.and_self, Bool.and_true, Bool.true_and, List.set_cons_zero, List.set_cons_succ, Int.toNat_zero, Int.toNat_one]; done)))
  | ((with_reducible apply lt_line); exact rfl)
  | ((with_reducible apply sto_eq); (simp only [List.set_cons_zero, List.set_cons_succ, List.cons_append, List.nil_append, Int.toNat_zero, Int.toNat_one]; done))
  | ((with_reducible apply sto_eq); (try simp only [List.set_cons_zero, List.set_cons_succ, List.cons_append, List.nil_append, Int.toNat_zero, Int.toNat_one]); exact rfl)
  | ((with_reducible apply env_eq); (try simp only [List.set_cons_zero, List.set_cons_succ]); exact rfl)
  | ((with_reducible apply b_mul); omega) | ((with_reducible apply b_fdiv) <;> omega) | ((with_reducible apply b_mod); omega)
  | ((with_reducible apply c_lt_t); omega) | ((with_reducible apply c_lt_f); omega) | ((with_reducible apply c_le_t); omega) | ((with_reducible apply c_le_f); omega) | ((with_reducible apply c_gt_t); omega) | ((with_reducible apply c_gt_f); omega) | ((with_reducible apply c_ge_t); omega) | ((with_reducible apply c_ge_f); omega) | ((with_reducible apply c_eq_t); omega) | ((with_reducible apply c_eq_f); omega) | ((with_reducible apply c_ne_t); omega) | ((with_reducible apply c_ne_f); omega) | ((with_reducible apply room_le); omega)
  | (with_reducible exact c_lt) | (with_reducible exact c_le) | (with_reducible exact c_gt) | (with_reducible exact c_ge) | (with_reducible exact c_eq) | (with_reducible exact c_ne)
  | (with_reducible apply f_len_lst) | (with_reducible apply f_tup_lst) | (with_reducible apply f_list_lst) | (with_reducible apply i_lst) | (with_reducible apply i_tup) | (with_reducible apply i_scr) | (with_reducible apply p_lst2)
  | ((with_reducible apply compact_head0) <;> (first | (with_reducible assumption) | (simp only [D.pure, D.pures, O.pure, Bool.and_self, Bool.and_true, Bool.true_and, List.set_cons_zero, List.set_cons_succ, Int.toNat_zero, Int.toNat_one]; done))) | ((with_reducible apply compact_head) <;> (first | (with_reducible assumption) | (simp only [D.pure, D.pures, O.pure, Bool.and_self, Bool.and_true, Bool.true_and, List.set_cons_zero, List.set_cons_succ, Int.toNat_zero, Int.toNat_one]; done)))
  | (with_reducible refine k_tt ?_) | (with_reducible refine k_ff ?_)
  | (with_reducible apply ev_slot) | (with_reducible apply ev_glob) | (with_reducible apply ev_bin) | (with_reducible apply ev_neg) | (with_reducible apply ev_not') | (with_reducible apply ev_cmp) | (with_reducible apply ev_chn) | (with_reducible apply ch_last) | (with_reducible apply ch_more') | (with_reducible apply ev_and') | (with_reducible apply ev_or') | (with_reducible apply ev_ite') | (with_reducible apply es_cons) | (with_reducible apply ev_tup) | (with_reducible apply ev_lst) | (with_reducible apply ev_idx) | (with_reducible apply eo_some) | (with_reducible apply ev_slc) | (with_reducible apply ev_fld) | (with_reducible apply ev_isa) | (with_reducible apply ev_call) | (with_reducible apply ev_callK) | (with_reducible apply ev_bif) | (with_reducible apply ev_meth) | (with_reducible apply ev_mk) | (with_reducible apply ev_comp) | (with_reducible apply et_one) | (with_reducible apply xs_set2) | (with_reducible apply xs_par) | (with_reducible apply xs_put) | (with_reducible apply xs_expr) | (with_reducible apply xs_ret) | (with_reducible apply xs_ite') | (with_reducible apply xs_unp) | (with_reducible apply ss_cons') | (with_reducible apply sn_nx) | (with_reducible apply fin') | (with_reducible apply fn_rt) | (with_reducible apply fn_nx) | (with_reducible apply m_append2)))
theorem few : ∀ (n : Nat) (F : List Int), F.Nodup → (∀ u ∈ F, 0 ≤ u ∧ u < n) → F.length ≤ n
  | 0, F, _, h => by
    cases F with
    | nil => simp
    | cons a F => have := h a List.mem_cons_self; omega
  | n + 1, F, hn, h => by
    by_cases hm : (n : Int) ∈ F
    · have h1 := few n (F.erase (n : Int)) (hn.erase _) (fun u hu => by
        have h2 := (hn.mem_erase_iff).mp hu
        have h3 := h u h2.2
        have := h2.1
        omega)
      rw [List.length_erase_of_mem hm] at h1
      omega
    · have h1 := few n F hn (fun u hu => by
        have h3 := h u hu
        have : u ≠ (n : Int) := fun e => hm (e ▸ hu)
        omega)
      omega
theorem reach_for (k : Nat) (S : Store) {ro : D} {x : Int} {n : Nat} (hn : n ≤ 50) : ∀ (ts : List (List Int)), (∀ t ∈ ts, ∃ y l, t = [y, l] ∧ 0 ≤ y ∧ y < n) → ∀ (e4 e5 : Option D) (F W : List Int), F.Nodup → (∀ u ∈ F, 0 ≤ u ∧ u < n) → (∀ u ∈ W, u ∈ F) → 2 * (n - F.length) + W.length ≤ 200 →
    ∃ F' W' e4' e5', forI (forF (ixOf P k) (.tup [.nm 4, .nm 5]) rbody) .free (ts.map tI) (renv S ro x e4 e5) (rst S F W) = some (.nx (renv S ro x e4' e5') (rst S F' W')) ∧ F'.Nodup ∧ (∀ u ∈ F', 0 ≤ u ∧ u < n) ∧ (∀ u ∈ W', u ∈ F') ∧ (∀ u ∈ F, u ∈ F') ∧ (∀ u ∈ W, u ∈ W') ∧ (∀ u ∈ F', u ∈ F ∨ (u ∈ W' ∧ ∃ l, [u, l] ∈ ts)) ∧ (∀ y l, [y, l] ∈ ts → y ∈ F') ∧ 2 * (n - F'.length) + W'.length ≤ 2 * (n - F.length) + W.length
  | [], _, e4, e5, F, W, h1, h2, h3, h4 => ⟨F, W, e4, e5, by unfold forI; rw [List.map_nil]; exact if_pos trivial, h1, h2, h3, fun u h => h, fun u h => h, fun u h => .inl h, fun y l h => by simp at h, Nat.le_refl _⟩
  | t :: ts, ht, e4, e5, F, W, h1, h2, h3, h4 => by
    obtain ⟨y, l, rfl, y0, y1⟩ := ht t List.mem_cons_self
    have hl := few n F h1 h2
    have hb := reach_in k S (ro := ro) (x := x) (y := y) (l := l) (e4 := e4) (e5 := e5) (F := F) (W := W) (by omega) (by omega)
    by_cases hy : y ∈ F
    · rw [if_pos hy] at hb
      obtain ⟨F', W', e4', e5', g, g1, g2, g3, g4, g5, g6, g7, g8⟩ := reach_for k S (ro := ro) (x := x) hn ts (fun t h => ht t (List.mem_cons_of_mem _ h)) (some (.int y)) (some (.int l)) F W h1 h2 h3 h4
      refine ⟨F', W', e4', e5', ?_, g1, g2, g3, g4, g5, fun u hu => (g6 u hu).imp id fun h => ⟨h.1, h.2.elim fun l hl => ⟨l, List.mem_cons_of_mem _ hl⟩⟩, ?_, g8⟩
      · rw [List.map_cons]
        unfold forI
        rw [if_pos (show Src.ok _ .free from trivial), hb]
        exact g
      · intro y' l' h
        rcases List.mem_cons.mp h with h | h
        · cases h; exact g4 _ hy
        · exact g7 _ _ h
    · rw [if_neg hy] at hb
      have hnd : (F ++ [y]).Nodup := by
        rw [List.nodup_append]
        refine ⟨h1, by simp, ?_⟩
        intro a ha b hb
        rw [List.mem_singleton] at hb
        subst hb
        exact fun e => hy (e ▸ ha)
      have hin : ∀ u ∈ F ++ [y], 0 ≤ u ∧ u < n := by
        intro u hu
        rcases List.mem_append.mp hu with h | h
        · exact h2 u h
        · rw [List.mem_singleton] at h; subst h; exact ⟨y0, y1⟩
      have hl2 := few n _ hnd hin
      simp only [List.length_append, List.length_cons, List.length_nil] at hl2
      obtain ⟨F', W', e4', e5', g, g1, g2, g3, g4, g5, g6, g7, g8⟩ := reach_for k S (ro := ro) (x := x) hn ts (fun t h => ht t (List.mem_cons_of_mem _ h)) (some (.int y)) (some (.int l)) (F ++ [y]) (W ++ [y]) hnd hin (fun u hu => by
        rcases List.mem_append.mp hu with h | h
        · exact List.mem_append_left _ (h3 u h)
        · exact List.mem_append_right _ h) (by simp only [List.length_append, List.length_cons, List.length_nil]; omega)
      refine ⟨F', W', e4', e5', ?_, g1, g2, g3, fun u hu => g4 u (List.mem_append_left _ hu), fun u hu => g5 u (List.mem_append_left _ hu), ?_, ?_, ?_⟩
      · rw [List.map_cons]
        unfold forI
        rw [if_pos (show Src.ok _ .free from trivial), hb]
        exact g
      · intro u hu
        rcases g6 u hu with h | h
        · rcases List.mem_append.mp h with h | h
          · exact .inl h
          · rw [List.mem_singleton] at h
            subst h
            exact .inr ⟨g5 _ (by simp), l, List.mem_cons_self⟩
        · exact .inr ⟨h.1, h.2.elim fun l hl => ⟨l, List.mem_cons_of_mem _ hl⟩⟩
      · intro y' l' h
        rcases List.mem_cons.mp h with h | h
        · cases h; exact g4 _ (by simp)
        · exact g7 _ _ h
      · simp only [List.length_append, List.length_cons, List.length_nil] at g8
        omega
/-- what ties -/
def Tie (rs : List (List Int)) (x y : Int) : Prop := ∃ l, [x, y, l] ∈ rs ∨ [y, x, l] ∈ rs
inductive Conn (rs : List (List Int)) (x : Int) : Int → Prop
  | refl : Conn rs x x
  | step {y z : Int} : Conn rs x y → Tie rs y z → Conn rs x z
theorem mem_tiedI {rs : List (List Int)} (h3 : Rows3 rs) {x : Int} {t : List Int} : t ∈ tiedI rs x ↔ ∃ y l, t = [y, l] ∧ ([x, y, l] ∈ rs ∨ [y, x, l] ∈ rs) := by
  unfold tiedI
  rw [(srt_perm _).mem_iff, List.mem_append, List.mem_filterMap, List.mem_filterMap]
  constructor
  · rintro (⟨r, hr, e⟩ | ⟨r, hr, e⟩)
    · obtain ⟨p, q, l, rfl⟩ := h3 r hr
      rw [ti1] at e
      split at e
      · rename_i hx
        subst hx
        cases e
        exact ⟨q, l, rfl, .inl hr⟩
      · cases e
    · obtain ⟨p, q, l, rfl⟩ := h3 r hr
      rw [ti2] at e
      split at e
      · rename_i hx
        subst hx
        cases e
        exact ⟨p, l, rfl, .inr hr⟩
      · cases e
  · rintro ⟨y, l, rfl, h | h⟩
    · exact .inl ⟨_, h, by rw [ti1, if_pos rfl]⟩
    · exact .inr ⟨_, h, by rw [ti2, if_pos rfl]⟩
end K13
set_option Elab.async false
set_option linter.all false
set_option maxRecDepth 100000
namespace K13
open PySem PySem.Spec PyProof.Rows PL L2
/-- steps of a run -/
local macro_rules | `(tactic| walk_at "pl") => `(tactic| repeat' (first
  | ((with_reducible apply hyp_get); (with_reducible assumption))
  | ((with_reducible apply call_get); (with_reducible assumption))
  | (with_reducible exact ev_cst) | (with_reducible exact es_nil) | (with_reducible exact et_nil) | (with_reducible exact eo_none) | (with_reducible exact ss_nil) | (with_reducible exact ev_dict0) | (with_reducible exact t_bl) | (with_reducible exact b_add) | (with_reducible exact b_mulb) | (with_reducible exact b_pow18) | (with_reducible exact b_sub) | (with_reducible exact f_int) | (with_reducible exact f_max) | (with_reducible exact f_min) | (with_reducible exact t_scr0) | (with_reducible exact t_scr1) | (with_reducible exact f_intb) | (with_reducible exact f_len_tup) | (with_reducible exact f_len_scr) | (with_reducible exact f_list_tup) | (with_reducible exact unlk_free) | (with_reducible exact not_tt) | (with_reducible exact not_ff) | (with_reducible exact not_k) | (with_reducible exact isa_int) | (with_reducible exact isa_bl) | (with_reducible exact isa_tup) | (with_reducible exact isa_obj) | (with_reducible exact get0) | (with_reducible exact get1) | (with_reducible exact get2) | (with_reducible exact par2) | (with_reducible exact par3) | (with_reducible exact bind_nm) | (with_reducible exact sn_rt) | (with_reducible exact k_tf) | (with_reducible exact k_ft)
  | ((with_reducible apply env_get); exact rfl) | ((with_reducible apply sto_get); exact rfl) | ((with_reducible apply atI_get'); exact rfl) | ((with_reducible apply ixN_get'); exact rfl) | ((with_reducible apply ar_get); exact rfl) | ((with_reducible apply gl_get); exact rfl) | ((with_reducible apply perm_get); exact rfl) | ((with_reducible apply bind_get); exact rfl) | ((with_reducible apply pure_t); (first | (with_reducible assumption) | (simp only [D.pure, D.pures, O.pure, Bool.and_self, Bool.and_true, Bool.true_and, List.set_cons_zero, List.set_cons_succ, Int.toNat_zero, Int.toNat_one]; done))) | ((with_reducible apply pure_o); (first | (with_reducible assumption) | (simp only [D.pure, D.pures, O.pure, Bool.and_self, Bool.and_true, Bool.true_and, List.set_cons_zero, List.set_cons_succ, Int.toNat_zero, Int.toNat_one]; done))) | ((with_reducible apply pures_t); (first | (with_reducible assumption) | (simp only [D.pure, D.pures, O.pure, Bool.and_self, Bool.and_true, Bool.true_and, List.set_cons_zero, List.set_cons_succ, Int.toNat_zero, Int.toNat_one]; done))) | ((with_reducible apply le_line); exact rfl) | ((with_reducible apply compact_self); (first | (with_reducible assumption) | (simp only [D.pure, D.pures, O.pure, Bool.and_self, Bool.and_true, Bool.true_and, List.set_cons_zero, List.set_cons_succ, Int.toNat_zero, Int.toNat_one]; done))) | ((with_reducible apply compact_app); (first | (with_reducible assumption) | (simp only [D.pure, D.pures, O.pure, Bool.and_self, Bool.and_true, Bool.true_and, List.set_cons_zero, List.set_cons_succ, Int.toNat_zero, Int.toNat_one]; done))) | ((with_reducible apply compact_new0); (first | (with_reducible assumption) | (simp only [D.pure, D.pures, O.pure, Bool.and_self, Bool.and_true, Bool.true_and, List.set_cons_zero, List.set_cons_succ, Int.toNat_zero, Int.toNat_one]; done)))
  | ((with_reducible apply lt_line); exact rfl)
  | ((with_reducible apply sto_eq); (simp only [List.set_cons_zero, List.set_cons_succ, List.cons_append, List.nil_append, Int.toNat_zero, Int.toNat_one]; done))
  | ((with_reducible apply sto_eq); (try simp only [List.set_cons_zero, List.set_cons_succ, List.cons_append, List.nil_append, Int.toNat_zero, Int.toNat_one]); exact rfl)
  | ((with_reducible apply env_eq); (try simp only [List.set_cons_zero, List.set_cons_succ]); exact rfl)
  | ((with_reducible apply b_mul); omega) | ((with_reducible apply b_fdiv) <;> omega) | ((with_reducible apply b_mod); omega)
  | ((with_reducible apply c_lt_t); omega) | ((with_reducible apply c_lt_f); omega) | ((with_reducible apply c_le_t); omega) | ((with_reducible apply c_le_f); omega) | ((with_reducible apply c_gt_t); omega) | ((with_reducible apply c_gt_f); omega) | ((with_reducible apply c_ge_t); omega) | ((with_reducible apply c_ge_f); omega) | ((with_reducible apply c_eq_t); omega) | ((with_reducible apply c_eq_f); omega) | ((with_reducible apply c_ne_t); omega) | ((with_reducible apply c_ne_f); omega) | ((with_reducible apply room_le); omega)
  | (with_reducible exact c_lt) | (with_reducible exact c_le) | (with_reducible exact c_gt) | (with_reducible exact c_ge) | (with_reducible exact c_eq) | (with_reducible exact c_ne)
  | (with_reducible apply f_len_lst) | (with_reducible apply f_tup_lst) | (with_reducible apply f_list_lst) | (with_reducible apply i_lst) | (with_reducible apply i_tup) | (with_reducible apply i_scr) | (with_reducible apply p_lst2)
  | ((with_reducible apply compact_head0) <;> (first | (with_reducible assumption) | (simp only [D.pure, D.pures, O.pure, Bool.and_self, Bool.and_true, Bool.true_and, List.set_cons_zero, List.set_cons_succ, Int.toNat_zero, Int.toNat_one]; done))) | ((with_reducible apply compact_head) <;> (first | (with_reducible assumption) | (simp only [D.pure, D.pures, O.pure, Bool.and_self, Bool.and_true, Bool.true_and, List.set_cons_zero, List.set_cons_succ, Int.toNat_zero, Int.toNat_one]; done)))
  | (with_reducible refine k_tt ?_) | (with_reducible refine k_ff ?_)
  | (with_reducible apply ev_slot) | (with_reducible apply ev_glob) | (with_reducible apply ev_bin) | (with_reducible apply ev_neg) | (with_reducible apply ev_not') | (with_reducible apply ev_cmp) | (with_reducible apply ev_chn) | (with_reducible apply ch_last) | (with_reducible apply ch_more') | (with_reducible apply ev_and') | (with_reducible apply ev_or') | (with_reducible apply ev_ite') | (with_reducible apply es_cons) | (with_reducible apply ev_tup) | (with_reducible apply ev_lst) | (with_reducible apply ev_idx) | (with_reducible apply eo_some) | (with_reducible apply ev_slc) | (with_reducible apply ev_fld) | (with_reducible apply ev_isa) | (with_reducible apply ev_call) | (with_reducible apply ev_callK) | (with_reducible apply ev_bif) | (with_reducible apply ev_meth) | (with_reducible apply ev_mk) | (with_reducible apply ev_comp) | (with_reducible apply et_one) | (with_reducible apply xs_set2) | (with_reducible apply xs_par) | (with_reducible apply xs_put) | (with_reducible apply xs_expr) | (with_reducible apply xs_ret) | (with_reducible apply xs_ite') | (with_reducible apply xs_unp) | (with_reducible apply ss_cons') | (with_reducible apply sn_nx) | (with_reducible apply fin') | (with_reducible apply fn_rt) | (with_reducible apply fn_nx) | (with_reducible apply m_append2)))
theorem ev_dict1 {ix : Ix} {env : PL.Env} {S : Store} {x : Int} {a b : IE} (h1 : ∀ S, evE ix a env S = some (.val (.int x) S)) (h2 : ∀ S, evE ix b env S = some (.val (.bl true) S)) : evE ix (.dict false (.cons a b .nil)) env S = some (.val (.loc S.length) (S ++ [.dict false (dF [x])])) := by
  unfold evE
  dsimp only
  rw [if_pos rfl]
  unfold evPs
  rw [h1, bnd_val, h2, bnd_val]
  unfold evPs
  rw [bnd_val, bnd_val, List.getElem?_concat_length]
  dsimp only
  rw [if_pos ⟨Nat.le_of_ble_eq_true rfl, rfl⟩]
  have := setT S [O.dict false []] 0 (O.dict false (dF [x]))
  exact congrArg (fun T => some (PL.R.val (D.loc S.length) T)) this
/-- what the search has found, on its way -/
def RInv (rs : List (List Int)) (x : Int) (n : Nat) (F W : List Int) : Prop := F.Nodup ∧ (∀ u ∈ F, 0 ≤ u ∧ u < (n : Int)) ∧ (∀ u ∈ W, u ∈ F) ∧ x ∈ F ∧ (∀ u ∈ F, Conn rs x u) ∧ ∀ u ∈ F, u ∉ W → ∀ z, Tie rs u z → z ∈ F
def InR (n : Nat) (rs : List (List Int)) : Prop := ∀ r ∈ rs, ∃ p q l, r = [p, q, l] ∧ 0 ≤ p ∧ p < n ∧ 0 ≤ q ∧ q < (n : Int)
theorem InR.rows {n : Nat} {rs : List (List Int)} (h : InR n rs) : Rows3 rs := fun r hr => by
  obtain ⟨p, q, l, e, _⟩ := h r hr
  exact ⟨p, q, l, e⟩
theorem InR.tie {n : Nat} {rs : List (List Int)} (h : InR n rs) {x y : Int} (ht : Tie rs x y) : 0 ≤ y ∧ y < n := by
  obtain ⟨l, ht | ht⟩ := ht
  · obtain ⟨p, q, m, e, h1, h2, h3, h4⟩ := h _ ht
    cases e; exact ⟨h3, h4⟩
  · obtain ⟨p, q, m, e, h1, h2, h3, h4⟩ := h _ ht
    cases e; exact ⟨h1, h2⟩
@[reducible] def rtest : IE := .cmp .ne (.slot 3) (.lst (.nil))
@[reducible] def rwork : List IS := [.for_ (.tup [.nm 4, .nm 5]) (.val (.call "tied" (.cons (.slot 0) (.cons (.meth .pop (.slot 3) (.nil)) .nil)) [] [])) rbody]
theorem reach_test (k : Nat) (S : Store) {ro : D} {x : Int} {e4 e5 : Option D} {F W : List Int} : tstR (rst S F W) (evE (ixOf P k) rtest (renv S ro x e4 e5) (rst S F W)) = some (.val (!W.isEmpty) (rst S F W)) := by
  have g1 : (rst S F W)[S.length + 1]? = some (O.lst (W.map D.int)) := getT S _ 1
  have g2 : (rst S F W ++ [O.lst []])[S.length + 1]? = some (O.lst (W.map D.int)) := by
    rw [List.getElem?_append_left (List.getElem?_eq_some_iff.mp g1).1]; exact g1
  exact tst_of (ev_cmp (ev_slot rfl) (ev_lst es_nil (le_line rfl)) (c_ne_nil g2 List.getElem?_concat_length)) rfl (compact_app _ _ rfl)
theorem reach_work (k : Nat) (S : Store) {x v : Int} {n : Nat} (hn : n ≤ 50) {rs : List (List Int)} (hr : InR n rs) (hl : rs.length ≤ 1000) {e4 e5 : Option D} {F W : List Int} (hi : RInv rs x n F (W ++ [v])) (hm : 2 * (n - F.length) + (W ++ [v]).length ≤ 200) :
    ∃ F' W' e4' e5', exSs (ixOf P (k + 1)) rwork (renv S (.tup (rs.map tI)) x e4 e5) (rst S F (W ++ [v])) = some (.nx (renv S (.tup (rs.map tI)) x e4' e5') (rst S F' W')) ∧ RInv rs x n F' W' ∧ 2 * (n - F'.length) + W'.length < 2 * (n - F.length) + (W ++ [v]).length := by
  obtain ⟨i1, i2, i3, i4, i5, i6⟩ := hi
  simp only [List.length_append, List.length_cons, List.length_nil] at hm
  have hv : v ∈ F := i3 v (by simp)
  obtain ⟨F', W', e4', e5', g, g1, g2, g3, g4, g5, g6, g7, g8⟩ := reach_for (k + 1) S (ro := .tup (rs.map tI)) (x := x) hn (tiedI rs v) (fun t ht => by
    obtain ⟨y, l, e, h⟩ := (mem_tiedI hr.rows).mp ht
    exact ⟨y, l, e, hr.tie ⟨l, h⟩⟩) e4 e5 F W i1 i2 (fun u hu => i3 u (List.mem_append_left _ hu)) (by omega)
  refine ⟨F', W', e4', e5', ?_, ⟨g1, g2, g3, g4 _ i4, ?_, ?_⟩, by simp only [List.length_append, List.length_cons, List.length_nil]; omega⟩
  · have q1 : (rst S F (W ++ [v]))[S.length + 1]? = some (O.lst (W.map D.int ++ [.int v])) := by
      have := getT S [O.dict false (dF F), O.lst ((W ++ [v]).map D.int)] 1
      rw [this, List.map_append]; rfl
    have q2 : (rst S F (W ++ [v])).set (S.length + 1) (O.lst (W.map D.int)) = rst S F W := setT S _ 1 _
    have hp := m_pop q1
    rw [q2] at hp
    have hc : evE (ixOf P (k + 1)) (.call "tied" (.cons (.slot 0) (.cons (.meth .pop (.slot 3) (.nil)) .nil)) [] []) (renv S (.tup (rs.map tI)) x e4 e5) (rst S F (W ++ [v])) = some (.val (.loc (rst S F W).length) (rst S F W ++ [.lst ((tiedI rs v).map tI)])) :=
      ev_call (es_cons (ev_slot rfl) (es_cons (ev_meth (ev_slot rfl) (recv_pop q1) es_nil hp) es_nil)) (x_tied k _ v hr.rows hl)
    have hk : Kept (rst S F (W ++ [v])) (rst S F W ++ [.lst ((tiedI rs v).map tI)]) := kept_tail S rfl (rst_pure F W)
    have hlen : (rst S F (W ++ [v])).length = (rst S F W).length := by simp
    have hcm := compact_new hk (n := (rst S F W).length) (by rw [hlen]; exact Nat.le_refl _) List.getElem?_concat_length (show (O.lst ((tiedI rs v).map tI)).pure = true from tI_pures _)
    rw [hlen, List.take_left] at hcm
    have hit := it_new hc hcm List.getElem?_concat_length (by rw [hlen]; exact Nat.le_refl _) (tI_pures _) hk
    rw [hlen, List.take_left] at hit
    exact ss_nx (xs_for hit (for_free g)) ss_nil
  · intro u hu
    rcases g6 u hu with h | ⟨_, l, h⟩
    · exact i5 u h
    · obtain ⟨y, l', e, ht⟩ := (mem_tiedI hr.rows).mp h
      cases e
      exact .step (i5 v hv) ⟨_, ht⟩
  · intro u hu hw z hz
    rcases g6 u hu with h | ⟨h, _⟩
    · by_cases e : u = v
      · subst e
        obtain ⟨l, ht⟩ := hz
        exact g7 z l ((mem_tiedI hr.rows).mpr ⟨z, l, rfl, ht⟩)
      · refine g4 _ (i6 u h (fun hw' => ?_) z hz)
        rcases List.mem_append.mp hw' with h' | h'
        · exact hw (g5 u h')
        · rw [List.mem_singleton] at h'; exact e h'
    · exact absurd h hw
theorem reach_while (k : Nat) (S : Store) {x : Int} {n : Nat} (hn : n ≤ 50) {rs : List (List Int)} (hr : InR n rs) (hl : rs.length ≤ 1000) : ∀ (fuel : Nat) (e4 e5 : Option D) (F W : List Int), RInv rs x n F W → 2 * (n - F.length) + W.length < fuel → 2 * (n - F.length) + W.length ≤ 200 →
    ∃ F' e4' e5', whileI (fun env S => tstR S (evE (ixOf P (k + 1)) rtest env S)) (fun env S => exSs (ixOf P (k + 1)) rwork env S) fuel (renv S (.tup (rs.map tI)) x e4 e5) (rst S F W) = some (.nx (renv S (.tup (rs.map tI)) x e4' e5') (rst S F' [])) ∧ RInv rs x n F' []
  | 0, _, _, _, _, _, h, _ => by omega
  | fuel + 1, e4, e5, F, W, hi, h, h2 => by
    have ht := reach_test (k + 1) S (ro := .tup (rs.map tI)) (x := x) (e4 := e4) (e5 := e5) (F := F) (W := W)
    rcases List.eq_nil_or_concat W with e | ⟨W0, v, e⟩
    · subst e
      refine ⟨F, e4, e5, ?_, hi⟩
      unfold whileI
      rw [ht, sbnd_val, if_neg (by decide)]
    · rw [List.concat_eq_append] at e
      subst e
      obtain ⟨F', W', e4', e5', g1, g2, g3⟩ := reach_work k S hn hr hl (e4 := e4) (e5 := e5) hi h2
      obtain ⟨F2, e42, e52, g4, g5⟩ := reach_while k S hn hr hl fuel e4' e5' F' W' g2 (by omega) (by omega)
      refine ⟨F2, e42, e52, ?_, g5⟩
      have hne : (!(W0 ++ [v]).isEmpty) = true := by cases W0 <;> rfl
      unfold whileI
      rw [ht, sbnd_val, if_pos hne, g1]
      exact g4
theorem x_reached (k : Nat) (S : Store) {x : Int} {n : Nat} (hn : n ≤ 50) {rs : List (List Int)} (hr : InR n rs) (hl : rs.length ≤ 1000) (hx0 : 0 ≤ x) (hx1 : x < n) :
    ∃ G : List Int, G.Nodup ∧ G.Pairwise (· ≤ ·) ∧ (∀ u ∈ G, 0 ≤ u ∧ u < n) ∧ (∀ u, u ∈ G ↔ Conn rs x u) ∧ callN P (k + 2) "reached" [.tup (rs.map tI), .int x] S = some (.val (.loc S.length) (S ++ [.lst (G.map D.int)])) := by
  obtain ⟨F, e4, e5, hw, i1, i2, i3, i4, i5, i6⟩ := reach_while k S hn hr hl turns none none [x] [x] ⟨by simp, fun u hu => by rw [List.mem_singleton] at hu; subst hu; exact ⟨hx0, hx1⟩, fun u hu => hu, List.mem_cons_self, fun u hu => by rw [List.mem_singleton] at hu; subst hu; exact .refl, fun u hu hw => absurd hu hw⟩ (by
    show _ < turns
    have : 200 < turns := by decide
    simp only [List.length_cons, List.length_nil]; omega) (by simp only [List.length_cons, List.length_nil]; omega)
  have hF := few n F i1 i2
  refine ⟨srtI F, (srtI_perm F).nodup_iff.mpr i1, srtI_asc F, fun u hu => i2 u ((srtI_perm F).mem_iff.mp hu), fun u => ?_, ?_⟩
  · rw [(srtI_perm F).mem_iff]
    refine ⟨i5 u, fun h => ?_⟩
    induction h with
    | refl => exact i4
    | step _ ht ih => exact i6 _ ih (by simp) _ ht
  · refine r_reached ?_
    dsimp only [i_reached]
    have hpar : exS (ixOf P (k + 1)) (.par [2, 3] (.cons (.dict false (.cons (.slot 1) (.cst (.bl true)) (.nil))) (.cons (.lst (.cons (.slot 1) .nil)) .nil))) [some (.tup (rs.map tI)), some (.int x), none, none, none, none] S = some (.nx (renv S (.tup (rs.map tI)) x none none) (rst S [x] [x])) := by
      have h1 : evE (ixOf P (k + 1)) (.dict false (.cons (.slot 1) (.cst (.bl true)) (.nil))) [some (.tup (rs.map tI)), some (.int x), none, none, none, none] S = some (.val (.loc S.length) (S ++ [.dict false (dF [x])])) := ev_dict1 (fun _ => ev_slot rfl) (fun _ => ev_cst)
      have h2 : evE (ixOf P (k + 1)) (.lst (.cons (.slot 1) .nil)) [some (.tup (rs.map tI)), some (.int x), none, none, none, none] (S ++ [O.dict false (dF [x])]) = some (.val (.loc (S.length + 1)) (rst S [x] [x])) := by
        have := ev_lst (ix := ixOf P (k + 1)) (env := [some (.tup (rs.map tI)), some (.int x), none, none, none, none]) (S := S ++ [O.dict false (dF [x])]) (es := .cons (.slot 1) .nil) (es_cons (ev_slot rfl) es_nil) (le_line rfl)
        rw [List.length_append, List.append_assoc] at this
        exact this
      exact xs_par (es_cons h1 (es_cons h2 es_nil)) par2
    have hg : (rst S F [])[S.length]? = some (O.dict false (dF F)) := getT S _ 0
    have hret : exS (ixOf P (k + 1)) (.ret (.bif .sorted (.cons (.slot 2) .nil))) (renv S (.tup (rs.map tI)) x e4 e5) (rst S F []) = some (.rt (.loc (rst S F []).length) (rst S F [] ++ [O.lst ((srtI F).map D.int)])) :=
      xs_ret (ev_bif (es_cons (ev_slot rfl) es_nil) (f_sorted_dF hg (by omega))) (compact_new0 _ (pures_ints _))
    refine fin_rt' (ss_nx hpar (ss_nx (xs_while hw) (ss_rt hret))) ?_
    have := compact_new (S := S) (S' := rst S F [] ++ [O.lst ((srtI F).map D.int)]) (n := (rst S F []).length) (o := O.lst ((srtI F).map D.int)) (by rw [List.append_assoc]; exact kept_app _ _) (by simp) List.getElem?_concat_length (pures_ints _)
    rw [this, List.append_assoc, List.take_left]
theorem conn_ext {rs rs' : List (List Int)} {x : Int} (h : ∀ a b, Tie rs a b ↔ Tie rs' a b) (u : Int) : Conn rs x u ↔ Conn rs' x u := by
  constructor
  · intro c
    induction c with
    | refl => exact .refl
    | step _ ht ih => exact .step ih ((h _ _).mp ht)
  · intro c
    induction c with
    | refl => exact .refl
    | step _ ht ih => exact .step ih ((h _ _).mpr ht)
theorem asc_one {A B : List Int} (a1 : A.Nodup) (a2 : A.Pairwise (· ≤ ·)) (b1 : B.Nodup) (b2 : B.Pairwise (· ≤ ·)) (h : ∀ u, u ∈ A ↔ u ∈ B) : A = B :=
  asc_ext a2 b2 ((List.perm_ext_iff_of_nodup a1 b1).mpr h)
end K13
set_option Elab.async false
set_option linter.all false
set_option maxRecDepth 100000
namespace K13
open PySem PySem.Spec PyProof.Rows PL L2
/-- steps of a run -/
local macro_rules | `(tactic| walk_at "pl") => `(tactic| repeat' (first
  | ((with_reducible apply hyp_get); (with_reducible assumption))
  | ((with_reducible apply call_get); (with_reducible assumption))
  | (with_reducible exact ev_cst) | (with_reducible exact es_nil) | (with_reducible exact et_nil) | (with_reducible exact eo_none) | (with_reducible exact ss_nil) | (with_reducible exact ev_dict0) | (with_reducible exact t_bl) | (with_reducible exact b_add) | (with_reducible exact b_mulb) | (with_reducible exact b_pow18) | (with_reducible exact b_sub) | (with_reducible exact f_int) | (with_reducible exact f_max) | (with_reducible exact f_min) | (with_reducible exact t_scr0) | (with_reducible exact t_scr1) | (with_reducible exact f_intb) | (with_reducible exact f_len_tup) | (with_reducible exact f_len_scr) | (with_reducible exact f_list_tup) | (with_reducible exact unlk_free) | (with_reducible exact not_tt) | (with_reducible exact not_ff) | (with_reducible exact not_k) | (with_reducible exact isa_int) | (with_reducible exact isa_bl) | (with_reducible exact isa_tup) | (with_reducible exact isa_obj) | (with_reducible exact get0) | (with_reducible exact get1) | (with_reducible exact get2) | (with_reducible exact par2) | (with_reducible exact par3) | (with_reducible exact bind_nm) | (with_reducible exact sn_rt) | (with_reducible exact k_tf) | (with_reducible exact k_ft)
  | ((with_reducible apply env_get); exact rfl) | ((with_reducible apply sto_get); exact rfl) | ((with_reducible apply atI_get'); exact rfl) | ((with_reducible apply ixN_get'); exact rfl) | ((with_reducible apply ar_get); exact rfl) | ((with_reducible apply gl_get); exact rfl) | ((with_reducible apply perm_get); exact rfl) | ((with_reducible apply bind_get); exact rfl) | ((with_reducible apply pure_t); (first | (with_reducible assumption) | (simp only [D.pure, D.pures, O.pure, Bool.and_self, Bool.and_true, Bool.true_and, List.set_cons_zero, List.set_cons_succ, Int.toNat_zero, Int.toNat_one]; done))) | ((with_reducible apply pure_o); (first | (with_reducible assumption) | (simp only [D.pure, D.pures, O.pure, Bool.and_self, Bool.and_true, Bool.true_and, List.set_cons_zero, List.set_cons_succ, Int.toNat_zero, Int.toNat_one]; done))) | ((with_reducible apply pures_t); (first | (with_reducible assumption) | (simp only [D.pure, D.pures, O.pure, Bool.and_self, Bool.and_true, Bool.true_and, List.set_cons_zero, List.set_cons_succ, Int.toNat_zero, Int.toNat_one]; done))) | ((with_reducible apply le_line); exact rfl) | ((with_reducible apply compact_self); (first | (with_reducible assumption) | (simp only [D.pure, D.pures, O.pure, Bool.and_self, Bool.and_true, Bool.true_and, List.set_cons_zero, List.set_cons_succ, Int.toNat_zero, Int.toNat_one]; done))) | ((with_reducible apply compact_app); (first | (with_reducible assumption) | (simp only [D.pure, D.pures, O.pure, Bool.and_self, Bool.and_true, Bool.true_and, List.set_cons_zero, List.set_cons_succ, Int.toNat_zero, Int.toNat_one]; done))) | ((with_reducible apply compact_new0); (first | (with_reducible assumption) | (simp only [D.pure, D.pures, O.pure, Bool.and_self, Bool.and_true, Bool.true_and, List.set_cons_zero, List.set_cons_succ, Int.toNat_zero, Int.toNat_one]; done)))
  | ((with_reducible apply lt_line); exact rfl)
  | ((with_reducible apply sto_eq); (simp only [List.set_cons_zero, List.set_cons_succ, List.cons_append, List.nil_append, Int.toNat_zero, Int.toNat_one]; done))
  | ((with_reducible apply sto_eq); (try simp only [List.set_cons_zero, List.set_cons_succ, List.cons_append, List.nil_append, Int.toNat_zero, Int.toNat_one]); exact rfl)
  | ((with_reducible apply env_eq); (try simp only [List.set_cons_zero, List.set_cons_succ]); exact rfl)
  | ((with_reducible apply b_mul); omega) | ((with_reducible apply b_fdiv) <;> omega) | ((with_reducible apply b_mod); omega)
  | ((with_reducible apply c_lt_t); omega) | ((with_reducible apply c_lt_f); omega) | ((with_reducible apply c_le_t); omega) | ((with_reducible apply c_le_f); omega) | ((with_reducible apply c_gt_t); omega) | ((with_reducible apply c_gt_f); omega) | ((with_reducible apply c_ge_t); omega) | ((with_reducible apply c_ge_f); omega) | ((with_reducible apply c_eq_t); omega) | ((with_reducible apply c_eq_f); omega) | ((with_reducible apply c_ne_t); omega) | ((with_reducible apply c_ne_f); omega) | ((with_reducible apply room_le); omega)
  | (with_reducible exact c_lt) | (with_reducible exact c_le) | (with_reducible exact c_gt) | (with_reducible exact c_ge) | (with_reducible exact c_eq) | (with_reducible exact c_ne)
  | (with_reducible apply f_len_lst) | (with_reducible apply f_tup_lst) | (with_reducible apply f_list_lst) | (with_reducible apply i_lst) | (with_reducible apply i_tup) | (with_reducible apply i_scr) | (with_reducible apply p_lst2)
  | ((with_reducible apply compact_head0) <;> (first | (with_reducible assumption) | (simp only [D.pure, D.pures, O.pure, Bool.and_self, Bool.and_true, Bool.true_and, List.set_cons_zero, List.set_cons_succ, Int.toNat_zero, Int.toNat_one]; done))) | ((with_reducible apply compact_head) <;> (first | (with_reducible assumption) | (simp only [D.pure, D.pures, O.pure, Bool.and_self, Bool.and_true, Bool.true_and, List.set_cons_zero, List.set_cons_succ, Int.toNat_zero, Int.toNat_one]; done)))
  | (with_reducible refine k_tt ?_) | (with_reducible refine k_ff ?_)
  | (with_reducible apply ev_slot) | (with_reducible apply ev_glob) | (with_reducible apply ev_bin) | (with_reducible apply ev_neg) | (with_reducible apply ev_not') | (with_reducible apply ev_cmp) | (with_reducible apply ev_chn) | (with_reducible apply ch_last) | (with_reducible apply ch_more') | (with_reducible apply ev_and') | (with_reducible apply ev_or') | (with_reducible apply ev_ite') | (with_reducible apply es_cons) | (with_reducible apply ev_tup) | (with_reducible apply ev_lst) | (with_reducible apply ev_idx) | (with_reducible apply eo_some) | (with_reducible apply ev_slc) | (with_reducible apply ev_fld) | (with_reducible apply ev_isa) | (with_reducible apply ev_call) | (with_reducible apply ev_callK) | (with_reducible apply ev_bif) | (with_reducible apply ev_meth) | (with_reducible apply ev_mk) | (with_reducible apply ev_comp) | (with_reducible apply et_one) | (with_reducible apply xs_set2) | (with_reducible apply xs_par) | (with_reducible apply xs_put) | (with_reducible apply xs_expr) | (with_reducible apply xs_ret) | (with_reducible apply xs_ite') | (with_reducible apply xs_unp) | (with_reducible apply ss_cons') | (with_reducible apply sn_nx) | (with_reducible apply fin') | (with_reducible apply fn_rt) | (with_reducible apply fn_nx) | (with_reducible apply m_append2)))
theorem all3 (k : Nat) (S : Store) {p q l many : Int} : evE (ixOf P (k + 1)) (.bif .all (.cons (.comp (.call "is_number" (.cons (.slot 2) .nil) [] []) (.nm 2) (.val (.slot 1)) (.nil) [2]) .nil)) [some (.int many), some (.tup [.int p, .int q, .int l]), none] S = some (.val (.bl true) (S ++ [O.lst [.bl true, .bl true, .bl true]])) := by
  have hc := compI_map (f := compF (ixOf P (k + 1)) (.call "is_number" (.cons (.slot 2) .nil) [] []) (.nm 2) .nil [2] [some (.int many), some (.tup [.int p, .int q, .int l]), none]) (src := .free) (S := S) (fun _ => .bl true) trivial [.int p, .int q, .int l] (fun d hd => by
    have : ∃ i, d = .int i := by
      rcases List.mem_cons.mp hd with h | hd
      · exact ⟨_, h⟩
      rcases List.mem_cons.mp hd with h | hd
      · exact ⟨_, h⟩
      rcases List.mem_cons.mp hd with h | hd
      · exact ⟨_, h⟩
      · cases hd
    obtain ⟨i, rfl⟩ := this
    exact cf_t (env' := [some (.int many), some (.tup [.int p, .int q, .int l]), some (.int i)]) rfl et_nil (ev_call (es_cons (ev_slot rfl) es_nil) (x_is_number k i S)) (compact_self _ rfl)) (le_line rfl)
  refine ev_bif (es_cons (ev_comp (it_tup' (ev_slot rfl) (compact_self _ rfl)) hc (unlk_free ..)) es_nil) ?_
  unfold bifD
  simp only [lstAt, List.getElem?_concat_length]
  rfl
theorem x_is_road (k : Nat) (S : Store) {p q l many : Int} (h0 : 0 ≤ p) (h1 : p < q) (h2 : q < many) : callN P (k + 2) "is_road" [.int many, .tup [.int p, .int q, .int l]] S = some (.val (.bl true) S) := by
  have ha := all3 k S (p := p) (q := q) (l := l) (many := many)
  have ht : evE (ixOf P (k + 1)) (.or (.not (.isa (.slot 1) .tuple)) (.or (.cmp .ne (.bif .len (.cons (.slot 1) .nil)) (.cst (.int 3))) (.not (.bif .all (.cons (.comp (.call "is_number" (.cons (.slot 2) .nil) [] []) (.nm 2) (.val (.slot 1)) (.nil) [2]) .nil))))) [some (.int many), some (.tup [.int p, .int q, .int l]), none] S = some (.val (.bl false) (S ++ [O.lst [.bl true, .bl true, .bl true]])) :=
    ev_or' (ev_not' (ev_isa (ev_slot rfl) isa_tup) rfl rfl) rfl (fun h => by cases h) (fun _ => ev_or' (ev_cmp (ev_bif (es_cons (ev_slot rfl) es_nil) f_len_tup) ev_cst (c_ne_f rfl)) rfl (fun h => by cases h) (fun _ => ev_not' ha rfl rfl))
  have hr : exSs (ixOf P (k + 1)) [.ret (.chn (.cst (.int 0)) (.more .le (.idx (.slot 1) (.cst (.int 0))) (.more .lt (.idx (.slot 1) (.cst (.int 1))) (.last .lt (.slot 0)))))] [some (.int many), some (.tup [.int p, .int q, .int l]), none] S = some (.rt (.bl true) S) := by
    walk_at "pl"
  exact r_is_road (fin_rt' (ss_nx (xs_ite_f ht rfl (compact_app _ _ rfl) ss_nil) hr) (compact_self _ rfl))
theorem c_le_tI {a b : List Int} {S : Store} : cmpD .le (tI a) (tI b) S = some (!decide (b < a)) := by
  unfold cmpD
  dsimp only
  unfold ordD rdPy
  have e : ∀ l : List Int, (if (D.tup (l.map D.int)).plain = true then some (D.tup (l.map D.int)).py else none) = some (.tuple (l.map .int)) := fun l => by
    rw [show (D.tup (l.map D.int)).plain = true from plains_ints l, if_pos rfl, tI_py]
  dsimp only
  rw [e, e]
  dsimp only
  have ok : cmpOk (.tuple (a.map .int)) (.tuple (b.map .int)) = true := by
    unfold cmpOk
    rw [tI_alike]
    show (true && true && decide (PyData.depth (.tuple (a.map .int)) ≤ 60) && decide (PyData.depth (.tuple (b.map .int)) ≤ 60)) = true
    rw [PyData.depth, PyData.depth, PySem.W.depth_ints, PySem.W.depth_ints]; rfl
  rw [if_pos ok, ← tI_py, ← tI_py, tI_lt]
theorem mem_enumD : ∀ (i : Int) (l : List D) (d : D), d ∈ enumD i l → ∃ (j : Nat) (x : D), l[j]? = some x ∧ d = packI (i + j) x
  | i, [], d, h => by simp [enumD] at h
  | i, x :: r, d, h => by
    rw [enumD] at h
    rcases List.mem_cons.mp h with h | h
    · exact ⟨0, x, rfl, by rw [h]; simp⟩
    · obtain ⟨j, y, h1, h2⟩ := mem_enumD (i + 1) r d h
      refine ⟨j + 1, y, h1, ?_⟩
      rw [h2]
      congr 1
      omega
/-- roads that pass -/
structure Good (n : Int) (rs : List (List Int)) : Prop where
  row : ∀ r ∈ rs, ∃ p q l, r = [p, q, l] ∧ 0 ≤ p ∧ p < q ∧ q < n ∧ 1 ≤ l ∧ l ≤ 100
  asc : ∀ (i : Nat) (p q l p' q' l' : Int), rs[i]? = some [p, q, l] → rs[i + 1]? = some [p', q', l'] → [p, q] < [p', q']
@[reducible] def wbody1 : List IS := [.ite (.or (.not (.call "is_road" (.cons (.slot 0) (.cons (.slot 3) .nil)) [] [])) (.and (.cmp .gt (.slot 2) (.cst (.int 0))) (.cmp .le (.slc (.slot 3) none (some (.cst (.int 2)))) (.slc (.idx (.slot 1) (.bin .sub (.slot 2) (.cst (.int 1)))) none (some (.cst (.int 2))))))) [
      .raise 2 (.slot 2)] []]
@[reducible] def wbody2 : List IS := [.ite (.not (.chn (.cst (.int 1)) (.more .le (.idx (.slot 3) (.cst (.int 2))) (.last .le (.glob "MOST_LENGTH"))))) [
      .raise 4 (.slot 2)] []]
theorem roads1 (k : Nat) (S : Store) {n : Int} {rs : List (List Int)} (hg : Good n rs) {j : Nat} {r : List Int} (hj : rs[j]? = some r) {e2 e3 : Option D} : forF (ixOf P (k + 2)) (.tup [.nm 2, .nm 3]) wbody1 (packI (0 + (j : Int)) (tI r)) [some (.int n), some (.tup (rs.map tI)), e2, e3] S = some (.nx [some (.int n), some (.tup (rs.map tI)), some (.int (0 + (j : Int))), some (tI r)] S) := by
  obtain ⟨p, q, l, rfl, h0, h1, h2, h3, h4⟩ := hg.row r (List.mem_of_getElem? hj)
  refine ff_bind (env' := [some (.int n), some (.tup (rs.map tI)), some (.int (0 + (j : Int))), some (tI [p, q, l])]) rfl ?_
  have hr := x_is_road k S (l := l) h0 h1 h2
  have hc : evE (ixOf P (k + 2)) (.not (.call "is_road" (.cons (.slot 0) (.cons (.slot 3) .nil)) [] [])) [some (.int n), some (.tup (rs.map tI)), some (.int (0 + (j : Int))), some (tI [p, q, l])] S = some (.val (.bl false) S) :=
    ev_not' (ev_call (es_cons (ev_slot rfl) (es_cons (ev_slot rfl) es_nil)) hr) rfl rfl
  have hgt := ev_cmp (ix := ixOf P (k + 2)) (S := S) (a := .slot 2) (b := .cst (.int 0)) (env := [some (.int n), some (.tup (rs.map tI)), some (.int (0 + (j : Int))), some (tI [p, q, l])]) (ev_slot rfl) ev_cst c_gt
  have hand : evE (ixOf P (k + 2)) (.and (.cmp .gt (.slot 2) (.cst (.int 0))) (.cmp .le (.slc (.slot 3) none (some (.cst (.int 2)))) (.slc (.idx (.slot 1) (.bin .sub (.slot 2) (.cst (.int 1)))) none (some (.cst (.int 2)))))) [some (.int n), some (.tup (rs.map tI)), some (.int (0 + (j : Int))), some (tI [p, q, l])] S = some (.val (.bl false) S) := by
    refine ev_and' hgt rfl (fun hk => ?_) (fun hk => by rw [hk])
    have hk := of_decide_eq_true hk
    obtain ⟨i, rfl⟩ : ∃ i, j = i + 1 := ⟨j - 1, by omega⟩
    have hi : i < rs.length := by have := (List.getElem?_eq_some_iff.mp hj).1; omega
    obtain ⟨p', q', l', e, _⟩ := hg.row rs[i] (List.getElem_mem hi)
    have hi2 : rs[i]? = some [p', q', l'] := by rw [List.getElem?_eq_getElem hi, e]
    have hlt := hg.asc i _ _ _ _ _ _ hi2 hj
    have hat : L2.atI (rs.map tI) (0 + ((i + 1 : Nat) : Int) - 1) = some (tI [p', q', l']) := by
      have e2 : (0 + ((i + 1 : Nat) : Int) - 1) = (i : Int) := by omega
      rw [e2]
      exact L2.atI_nat (by rw [List.getElem?_map, hi2]; rfl)
    have h5 : cmpD .le (tI [p, q]) (tI [p', q']) S = some false := by rw [c_le_tI, decide_eq_true hlt]; rfl
    exact ev_cmp (ev_slc (ev_slot rfl) eo_none (eo_some ev_cst) (z := tI [p, q]) rfl) (ev_slc (ev_idx (ev_slot rfl) (ev_bin (ev_slot rfl) ev_cst b_sub) (i_tup hat)) eo_none (eo_some ev_cst) (z := tI [p', q']) rfl) h5
  exact ss_nx (xs_ite_f (ev_or' hc rfl (fun h => by cases h) (fun _ => hand)) rfl (compact_self _ rfl) ss_nil) ss_nil
theorem roads2 (k : Nat) (S : Store) {n : Int} {rs : List (List Int)} (hg : Good n rs) {j : Nat} {r : List Int} (hj : rs[j]? = some r) {e2 e3 : Option D} : forF (ixOf P (k + 2)) (.tup [.nm 2, .nm 3]) wbody2 (packI (0 + (j : Int)) (tI r)) [some (.int n), some (.tup (rs.map tI)), e2, e3] S = some (.nx [some (.int n), some (.tup (rs.map tI)), some (.int (0 + (j : Int))), some (tI r)] S) := by
  obtain ⟨p, q, l, rfl, h0, h1, h2, h3, h4⟩ := hg.row r (List.mem_of_getElem? hj)
  refine ff_bind (env' := [some (.int n), some (.tup (rs.map tI)), some (.int (0 + (j : Int))), some (tI [p, q, l])]) rfl ?_
  walk_at "pl"
theorem for_each (k : Nat) (S : Store) {n : Int} {rs : List (List Int)} {b : List IS} {e2 e3 : Option D} (hb : ∀ (j : Nat) (r : List Int) (e2 e3 : Option D), rs[j]? = some r → forF (ixOf P k) (.tup [.nm 2, .nm 3]) b (packI (0 + (j : Int)) (tI r)) [some (.int n), some (.tup (rs.map tI)), e2, e3] S = some (.nx [some (.int n), some (.tup (rs.map tI)), some (.int (0 + (j : Int))), some (tI r)] S)) :
    ∃ e2' e3', exS (ixOf P k) (.for_ (.tup [.nm 2, .nm 3]) (.enum (.slot 1)) b) [some (.int n), some (.tup (rs.map tI)), e2, e3] S = some (.nx [some (.int n), some (.tup (rs.map tI)), e2', e3'] S) := by
  obtain ⟨env', S', hf, ⟨rfl, e2', e3', rfl, _⟩⟩ := forI_inv (f := forF (ixOf P k) (.tup [.nm 2, .nm 3]) b) (src := .free) (Inv := fun l env S' => S' = S ∧ ∃ e2 e3, env = [some (.int n), some (.tup (rs.map tI)), e2, e3] ∧ ∀ d ∈ l, d ∈ enumD 0 (rs.map tI)) (by
    rintro d r env S' ⟨rfl, e2, e3, rfl, hd⟩
    obtain ⟨j, x, hx, rfl⟩ := mem_enumD _ _ _ (hd d List.mem_cons_self)
    rw [List.getElem?_map] at hx
    obtain ⟨r', hr', rfl⟩ := Option.map_eq_some_iff.mp hx
    exact ⟨trivial, _, _, .inl (hb j r' e2 e3 hr'), rfl, _, _, rfl, fun d h => hd d (List.mem_cons_of_mem _ h)⟩) (fun _ _ _ => trivial) (enumD 0 (rs.map tI)) [some (.int n), some (.tup (rs.map tI)), e2, e3] S ⟨rfl, e2, e3, rfl, fun d h => h⟩
  exact ⟨e2', e3', xs_for (it_enum_tup (ev_slot rfl) (compact_self _ (tI_pures rs))) (for_free hf)⟩
theorem x_want_roads (k : Nat) (S : Store) {n : Int} {rs : List (List Int)} (hg : Good n rs) : callN P (k + 3) "want_roads" [.int n, .tup (rs.map tI)] S = some (.val .non S) := by
  obtain ⟨a, b, h1⟩ := for_each (k + 2) S (n := n) (rs := rs) (b := wbody1) (e2 := none) (e3 := none) (fun j r e2 e3 hj => roads1 k S hg hj)
  obtain ⟨c, d, h2⟩ := for_each (k + 2) S (n := n) (rs := rs) (b := wbody2) (e2 := a) (e3 := b) (fun j r e2 e3 hj => roads2 k S hg hj)
  exact r_want_roads (fin_nx' (ss_nx h1 (ss_nx h2 ss_nil)) (compact_self _ rfl))
end K13
set_option Elab.async false
set_option linter.all false
set_option maxRecDepth 100000
namespace K13
open PySem PySem.Spec PyProof.Rows PL L2
/-- steps of a run -/
local macro_rules | `(tactic| walk_at "pl") => `(tactic| repeat' (first
  | ((with_reducible apply hyp_get); (with_reducible assumption))
  | ((with_reducible apply call_get); (with_reducible assumption))
  | (with_reducible exact ev_cst) | (with_reducible exact es_nil) | (with_reducible exact et_nil) | (with_reducible exact eo_none) | (with_reducible exact ss_nil) | (with_reducible exact ev_dict0) | (with_reducible exact t_bl) | (with_reducible exact b_add) | (with_reducible exact b_mulb) | (with_reducible exact b_pow18) | (with_reducible exact b_sub) | (with_reducible exact f_int) | (with_reducible exact f_max) | (with_reducible exact f_min) | (with_reducible exact t_scr0) | (with_reducible exact t_scr1) | (with_reducible exact f_intb) | (with_reducible exact f_len_tup) | (with_reducible exact f_len_scr) | (with_reducible exact f_list_tup) | (with_reducible exact unlk_free) | (with_reducible exact not_tt) | (with_reducible exact not_ff) | (with_reducible exact not_k) | (with_reducible exact isa_int) | (with_reducible exact isa_bl) | (with_reducible exact isa_tup) | (with_reducible exact isa_obj) | (with_reducible exact get0) | (with_reducible exact get1) | (with_reducible exact get2) | (with_reducible exact par2) | (with_reducible exact par3) | (with_reducible exact bind_nm) | (with_reducible exact sn_rt) | (with_reducible exact k_tf) | (with_reducible exact k_ft)
  | ((with_reducible apply env_get); exact rfl) | ((with_reducible apply sto_get); exact rfl) | ((with_reducible apply atI_get'); exact rfl) | ((with_reducible apply ixN_get'); exact rfl) | ((with_reducible apply ar_get); exact rfl) | ((with_reducible apply gl_get); exact rfl) | ((with_reducible apply perm_get); exact rfl) | ((with_reducible apply bind_get); exact rfl) | ((with_reducible apply pure_t); (first | (with_reducible assumption) | (simp only [D.pure, D.pures, O.pure, Bool.and_self, Bool.and_true, Bool.true_and, List.set_cons_zero, List.set_cons_succ, Int.toNat_zero, Int.toNat_one]; done))) | ((with_reducible apply pure_o); (first | (with_reducible assumption) | (simp only [D.pure, D.pures, O.pure, Bool.and_self, Bool.and_true, Bool.true_and, List.set_cons_zero, List.set_cons_succ, Int.toNat_zero, Int.toNat_one]; done))) | ((with_reducible apply pures_t); (first | (with_reducible assumption) | (simp only [D.pure, D.pures, O.pure, Bool.and_self, Bool.and_true, Bool.true_and, List.set_cons_zero, List.set_cons_succ, Int.toNat_zero, Int.toNat_one]; done))) | ((with_reducible apply le_line); exact rfl) | ((with_reducible apply compact_self); (first | (with_reducible assumption) | (simp only [D.pure, D.pures, O.pure, Bool.and_self, Bool.and_true, Bool.true_and, List.set_cons_zero, List.set_cons_succ, Int.toNat_zero, Int.toNat_one]; done))) | ((with_reducible apply compact_app); (first | (with_reducible assumption) | (simp only [D.pure, D.pures, O.pure, Bool.and_self, Bool.and_true, Bool.true_and, List.set_cons_zero, List.set_cons_succ, Int.toNat_zero, Int.toNat_one]; done))) | ((with_reducible apply compact_new0); (first | (with_reducible assumption) | (simp only [D.pure, D.pures, O.pure, Bool.and_self, Bool.and_true, Bool.true_and, List.set_cons_zero, List.set_cons_succ, Int.toNat_zero, Int.toNat_one]; done)))
  | ((with_reducible apply lt_line); exact rfl)
  | ((with_reducible apply sto_eq); (simp only [List.set_cons_zero, List.set_cons_succ, List.cons_append, List.nil_append, Int.toNat_zero, Int.toNat_one]; done))
  | ((with_reducible apply sto_eq); (try simp only [List.set_cons_zero, List.set_cons_succ, List.cons_append, List.nil_append, Int.toNat_zero, Int.toNat_one]); exact rfl)
  | ((with_reducible apply env_eq); (try simp only [List.set_cons_zero, List.set_cons_succ]); exact rfl)
  | ((with_reducible apply b_mul); omega) | ((with_reducible apply b_fdiv) <;> omega) | ((with_reducible apply b_mod); omega)
  | ((with_reducible apply c_lt_t); omega) | ((with_reducible apply c_lt_f); omega) | ((with_reducible apply c_le_t); omega) | ((with_reducible apply c_le_f); omega) | ((with_reducible apply c_gt_t); omega) | ((with_reducible apply c_gt_f); omega) | ((with_reducible apply c_ge_t); omega) | ((with_reducible apply c_ge_f); omega) | ((with_reducible apply c_eq_t); omega) | ((with_reducible apply c_eq_f); omega) | ((with_reducible apply c_ne_t); omega) | ((with_reducible apply c_ne_f); omega) | ((with_reducible apply room_le); omega)
  | (with_reducible exact c_lt) | (with_reducible exact c_le) | (with_reducible exact c_gt) | (with_reducible exact c_ge) | (with_reducible exact c_eq) | (with_reducible exact c_ne)
  | (with_reducible apply f_len_lst) | (with_reducible apply f_tup_lst) | (with_reducible apply f_list_lst) | (with_reducible apply i_lst) | (with_reducible apply i_tup) | (with_reducible apply i_scr) | (with_reducible apply p_lst2)
  | ((with_reducible apply compact_head0) <;> (first | (with_reducible assumption) | (simp only [D.pure, D.pures, O.pure, Bool.and_self, Bool.and_true, Bool.true_and, List.set_cons_zero, List.set_cons_succ, Int.toNat_zero, Int.toNat_one]; done))) | ((with_reducible apply compact_head) <;> (first | (with_reducible assumption) | (simp only [D.pure, D.pures, O.pure, Bool.and_self, Bool.and_true, Bool.true_and, List.set_cons_zero, List.set_cons_succ, Int.toNat_zero, Int.toNat_one]; done)))
  | (with_reducible refine k_tt ?_) | (with_reducible refine k_ff ?_)
  | (with_reducible apply ev_slot) | (with_reducible apply ev_glob) | (with_reducible apply ev_bin) | (with_reducible apply ev_neg) | (with_reducible apply ev_not') | (with_reducible apply ev_cmp) | (with_reducible apply ev_chn) | (with_reducible apply ch_last) | (with_reducible apply ch_more') | (with_reducible apply ev_and') | (with_reducible apply ev_or') | (with_reducible apply ev_ite') | (with_reducible apply es_cons) | (with_reducible apply ev_tup) | (with_reducible apply ev_lst) | (with_reducible apply ev_idx) | (with_reducible apply eo_some) | (with_reducible apply ev_slc) | (with_reducible apply ev_fld) | (with_reducible apply ev_isa) | (with_reducible apply ev_call) | (with_reducible apply ev_callK) | (with_reducible apply ev_bif) | (with_reducible apply ev_meth) | (with_reducible apply ev_mk) | (with_reducible apply ev_comp) | (with_reducible apply et_one) | (with_reducible apply xs_set2) | (with_reducible apply xs_par) | (with_reducible apply xs_put) | (with_reducible apply xs_expr) | (with_reducible apply xs_ret) | (with_reducible apply xs_ite') | (with_reducible apply xs_unp) | (with_reducible apply ss_cons') | (with_reducible apply sn_nx) | (with_reducible apply fin') | (with_reducible apply fn_rt) | (with_reducible apply fn_nx) | (with_reducible apply m_append2)))
theorem any_ints (G : List Int) (y : Int) : ((G.map PyData.int).any fun z => PyData.eqv z (.int y)) = decide (y ∈ G) := by
  induction G with
  | nil => rfl
  | cons a F ih =>
    rw [List.map_cons, List.any_cons, ih, PyData.eqv]
    by_cases h : a = y
    · simp [h]
    · have h' : ¬ y = a := fun e => h e.symm
      simp [h, h']
theorem c_notin_ints {S : Store} {n : Nat} {G : List Int} {y : Int} (h : S[n]? = some (.lst (G.map D.int))) : cmpD .notin (.int y) (.loc n) S = some (!decide (y ∈ G)) := by
  unfold cmpD
  dsimp only
  unfold inD
  dsimp only
  rw [h]
  dsimp only
  rw [plains_ints, pys_ints, PySem.W.depth_ints]
  show (if true = true then some ((G.map PyData.int).any fun z => PyData.eqv z (.int y)) else none).map _ = _
  rw [if_pos rfl, any_ints]; rfl
theorem Good.inR {n : Nat} {rs : List (List Int)} (h : Good n rs) : InR n rs := fun r hr => by
  obtain ⟨p, q, l, e, h0, h1, h2, _⟩ := h.row r hr
  exact ⟨p, q, l, e, h0, by omega, by omega, h2⟩
theorem x_want_whole (k : Nat) (S : Store) {n : Nat} (h1 : 1 ≤ n) (hn : n ≤ 50) {rs : List (List Int)} (hr : InR n rs) (hl : rs.length ≤ 1000) (hw : ∀ y : Int, 0 ≤ y → y < n → Conn rs 0 y) : callN P (k + 3) "want_whole" [.int n, .tup (rs.map tI)] S = some (.val .non S) := by
  obtain ⟨G, g1, g2, g3, g4, hc⟩ := x_reached k S hn hr hl (x := 0) (by omega) (by omega)
  have hset : exS (ixOf P (k + 2)) (.set 2 (.call "reached" (.cons (.slot 1) (.cons (.cst (.int 0)) .nil)) [] [])) [some (.int n), some (.tup (rs.map tI)), none, none] S = some (.nx [some (.int n), some (.tup (rs.map tI)), some (.loc S.length), none] (S ++ [O.lst (G.map D.int)])) :=
    xs_set (ev_call (es_cons (ev_slot rfl) (es_cons ev_cst es_nil)) hc) (compact_new0 _ (pures_ints _))
  obtain ⟨env', S', hf, ⟨rfl, e3', rfl, _⟩⟩ := forI_inv (f := forF (ixOf P (k + 2)) (.nm 3) [.ite (.cmp .notin (.slot 3) (.slot 2)) [.raise 3 (.slot 3)] []]) (src := .free) (Inv := fun l env S' => S' = S ++ [O.lst (G.map D.int)] ∧ ∃ e3, env = [some (.int n), some (.tup (rs.map tI)), some (.loc S.length), e3] ∧ ∀ d ∈ l, ∃ y : Int, d = .int y ∧ 0 ≤ y ∧ y < n) (by
    rintro d r env S' ⟨rfl, e3, rfl, hd⟩
    obtain ⟨y, rfl, y0, y1⟩ := hd d List.mem_cons_self
    have hy : cmpD .notin (.int y) (.loc S.length) (S ++ [O.lst (G.map D.int)]) = some false := by
      rw [c_notin_ints List.getElem?_concat_length, decide_eq_true ((g4 y).mpr (hw y y0 y1))]; rfl
    exact ⟨trivial, _, _, .inl (ff_bind (env' := [some (.int n), some (.tup (rs.map tI)), some (.loc S.length), some (.int y)]) rfl (ss_nx (xs_ite_f (ev_cmp (ev_slot rfl) (ev_slot rfl) hy) rfl (compact_self _ rfl) ss_nil) ss_nil)), rfl, _, rfl, fun d h => hd d (List.mem_cons_of_mem _ h)⟩) (fun _ _ _ => trivial) (rangeD 0 n) [some (.int n), some (.tup (rs.map tI)), some (.loc S.length), none] (S ++ [O.lst (G.map D.int)]) ⟨rfl, none, rfl, fun d h => by
      unfold rangeD at h
      obtain ⟨j, hj, rfl⟩ := List.mem_map.mp h
      rw [List.mem_range] at hj
      exact ⟨_, rfl, by omega, by omega⟩⟩
  have hok : okRange (n : Int) = true := by
    unfold okRange
    rw [Bool.and_eq_true]
    exact ⟨decide_eq_true (by omega), decide_eq_true (by omega)⟩
  exact r_want_whole (fin_nx' (ss_nx hset (ss_nx (xs_for (it_range1' (ev_slot rfl) hok (compact_self _ rfl)) (for_free hf)) ss_nil)) (compact_app _ _ rfl))
theorem x_made_web (k : Nat) (S : Store) {n : Nat} (h1 : 1 ≤ n) (hn : n ≤ 6) {rs : List (List Int)} (hg : Good n rs) (hl : rs.length ≤ 1000) (hw : ∀ y : Int, 0 ≤ y → y < n → Conn rs 0 y) : callN P (k + 4) "made_web" [.int n, .tup (rs.map tI)] S = some (.val (.obj 1 [.int n, .tup (rs.map tI)]) S) := by
  have c1 := x_want_roads k S hg
  have c2 := x_want_whole k S h1 (by omega) hg.inR hl hw
  have hp := tI_pures rs
  have ht : evE (ixOf P (k + 3)) (.not (.chn (.cst (.int 1)) (.more .le (.slot 0) (.last .le (.glob "MOST_POSITIONS"))))) [some (.int n), some (.tup (rs.map tI))] S = some (.val (.bl false) S) := by
    have h1' : (1 : Int) ≤ n := by omega
    have h2' : (n : Int) ≤ 6 := by omega
    walk_at "pl"
  have hpo : (D.obj 1 [.int n, .tup (rs.map tI)]).pure = true := by
    show (true && (D.pures (rs.map tI) && true)) = true
    rw [hp]; rfl
  exact r_made_web (fin_rt' (ss_nx (xs_ite_f ht rfl (compact_self _ rfl) ss_nil) (ss_nx (xs_expr (ev_call (es_cons (ev_slot rfl) (es_cons (ev_slot rfl) es_nil)) c1) (compact_self _ rfl)) (ss_nx (xs_expr (ev_call (es_cons (ev_slot rfl) (es_cons (ev_slot rfl) es_nil)) c2) (compact_self _ rfl)) (ss_rt (xs_ret (ev_mk (es_cons (ev_slot rfl) (es_cons (ev_slot rfl) es_nil)) (room_le (by omega)) rfl) (compact_self _ hpo)))))) (compact_self _ hpo))
/-- a web as a value -/
@[reducible] def webD (w : Nat × List (List Int)) : D := .obj 1 [.int w.1, .tup (w.2.map tI)]
theorem webD_pures : ∀ ws : List (Nat × List (List Int)), D.pures (ws.map webD) = true
  | [] => rfl
  | w :: ws => by
    show D.pures (webD w :: ws.map webD) = true
    rw [D.pures, webD_pures ws]
    show ((true && (D.pures (w.2.map tI) && true)) && true) = true
    rw [tI_pures]; rfl
theorem x_made_land (k : Nat) (S : Store) {n : Nat} (h1 : 1 ≤ n) (hn : n ≤ 10) {rs : List (List Int)} (hg : Good n rs) (hl : rs.length ≤ n) (hw : ∀ y : Int, 0 ≤ y → y < n → Conn rs 0 y) {ws : List (Nat × List (List Int))} (hws : ws.length = n) : callN P (k + 4) "made_land" [.int n, .tup (rs.map tI), .tup (ws.map webD)] S = some (.val (.obj 0 [.int n, .tup (rs.map tI), .tup (ws.map webD)]) S) := by
  have c1 := x_want_roads k S hg
  have c2 := x_want_whole k S h1 (by omega) hg.inR (by omega) hw
  have ht : evE (ixOf P (k + 3)) (.not (.chn (.cst (.int 1)) (.more .le (.slot 0) (.last .le (.glob "MOST_PLACES"))))) [some (.int n), some (.tup (rs.map tI)), some (.tup (ws.map webD)), none, none] S = some (.val (.bl false) S) := by
    have h1' : (1 : Int) ≤ n := by omega
    have h2' : (n : Int) ≤ 10 := by omega
    walk_at "pl"
  have ht2 : evE (ixOf P (k + 3)) (.cmp .gt (.bif .len (.cons (.slot 1) .nil)) (.slot 0)) [some (.int n), some (.tup (rs.map tI)), some (.tup (ws.map webD)), none, none] S = some (.val (.bl false) S) :=
    ev_cmp (ev_bif (es_cons (ev_slot rfl) es_nil) f_len_tup) (ev_slot rfl) (c_gt_f (by rw [List.length_map]; omega))
  have ht3 : evE (ixOf P (k + 3)) (.cmp .ne (.bif .len (.cons (.slot 2) .nil)) (.slot 0)) [some (.int n), some (.tup (rs.map tI)), some (.tup (ws.map webD)), none, none] S = some (.val (.bl false) S) :=
    ev_cmp (ev_bif (es_cons (ev_slot rfl) es_nil) f_len_tup) (ev_slot rfl) (c_ne_f (by rw [List.length_map]; omega))
  obtain ⟨env', S', hf, ⟨rfl, e3', e4', rfl, _⟩⟩ := forI_inv (f := forF (ixOf P (k + 3)) (.tup [.nm 3, .nm 4]) [.ite (.not (.isa (.slot 4) (.cls 1))) [.raise 5 (.tup (.cons (.slot 3) .nil))] []]) (src := .free) (Inv := fun l env S' => S' = S ∧ ∃ e3 e4, env = [some (.int n), some (.tup (rs.map tI)), some (.tup (ws.map webD)), e3, e4] ∧ ∀ d ∈ l, d ∈ enumD 0 (ws.map webD)) (by
    rintro d r env S' ⟨rfl, e3, e4, rfl, hd⟩
    obtain ⟨j, x, hx, rfl⟩ := mem_enumD _ _ _ (hd d List.mem_cons_self)
    rw [List.getElem?_map] at hx
    obtain ⟨w, hw', rfl⟩ := Option.map_eq_some_iff.mp hx
    exact ⟨trivial, _, _, .inl (ff_bind (env' := [some (.int n), some (.tup (rs.map tI)), some (.tup (ws.map webD)), some (.int (0 + (j : Int))), some (webD w)]) rfl (ss_nx (xs_ite_f (ev_not' (ev_isa (ev_slot rfl) isa_obj) rfl rfl) rfl (compact_self _ rfl) ss_nil) ss_nil)), rfl, _, _, rfl, fun d h => hd d (List.mem_cons_of_mem _ h)⟩) (fun _ _ _ => trivial) (enumD 0 (ws.map webD)) [some (.int n), some (.tup (rs.map tI)), some (.tup (ws.map webD)), none, none] S ⟨rfl, none, none, rfl, fun d h => h⟩
  have hpo : (D.obj 0 [.int n, .tup (rs.map tI), .tup (ws.map webD)]).pure = true := by
    show (true && (D.pures (rs.map tI) && (D.pures (ws.map webD) && true))) = true
    rw [tI_pures, webD_pures]; rfl
  exact r_made_land (fin_rt' (ss_nx (xs_ite_f ht rfl (compact_self _ rfl) ss_nil) (ss_nx (xs_expr (ev_call (es_cons (ev_slot rfl) (es_cons (ev_slot rfl) es_nil)) c1) (compact_self _ rfl)) (ss_nx (xs_ite_f ht2 rfl (compact_self _ rfl) ss_nil) (ss_nx (xs_expr (ev_call (es_cons (ev_slot rfl) (es_cons (ev_slot rfl) es_nil)) c2) (compact_self _ rfl)) (ss_nx (xs_ite_f ht3 rfl (compact_self _ rfl) ss_nil) (ss_nx (xs_for (it_enum_tup (ev_slot rfl) (compact_self _ (webD_pures ws))) (for_free hf)) (ss_rt (xs_ret (ev_mk (es_cons (ev_slot rfl) (es_cons (ev_slot rfl) (es_cons (ev_slot rfl) es_nil))) (room_le (by omega)) rfl) (compact_self _ hpo))))))))) (compact_self _ hpo))
end K13
set_option Elab.async false
set_option linter.all false
set_option maxRecDepth 100000
namespace K13
open PySem PySem.Spec PyProof.Rows PL L2
theorem lt3 {p q l p' q' l' : Int} (h : [p, q, l] ≤ [p', q', l']) (hne : [p, q] ≠ [p', q']) : [p, q] < [p', q'] := by
  simp only [List.cons_le_cons_iff, List.cons_lt_cons_iff] at h ⊢
  simp only [ne_eq, List.cons.injEq, and_true, not_and] at hne
  rcases h with h | ⟨rfl, h⟩
  · exact .inl h
  · right
    refine ⟨rfl, ?_⟩
    rcases h with h | ⟨rfl, h⟩
    · exact .inl h
    · exact absurd rfl (hne rfl)
theorem good_srt {n : Int} {raw : List (List Int)} (hr : ∀ r ∈ raw, ∃ p q l, r = [p, q, l] ∧ 0 ≤ p ∧ p < q ∧ q < n ∧ 1 ≤ l ∧ l ≤ 100) (hnd : (raw.map (List.take 2)).Nodup) : Good n (srt raw) := by
  refine ⟨fun r h => hr r ((srt_perm raw).mem_iff.mp h), ?_⟩
  intro i p q l p' q' l' h1 h2
  have hs := srt_sorted raw
  have hn2 : ((srt raw).map (List.take 2)).Nodup := ((srt_perm raw).map _).nodup_iff.mpr hnd
  obtain ⟨hi1, e1⟩ := List.getElem?_eq_some_iff.mp h1
  obtain ⟨hi2, e2⟩ := List.getElem?_eq_some_iff.mp h2
  have hle := List.pairwise_iff_getElem.mp hs i (i + 1) hi1 hi2 (by omega)
  rw [e1, e2] at hle
  refine lt3 hle ?_
  have hne := List.pairwise_iff_getElem.mp hn2 i (i + 1) (by rwa [List.length_map]) (by rwa [List.length_map]) (by omega)
  rw [List.getElem_map, List.getElem_map, e1, e2] at hne
  exact hne
theorem Raw.rows {ms : List Int} {raw : List (List Int)} (h : Raw ms raw) (hms : ∀ m ∈ ms, 1 ≤ m ∧ m ≤ 50) : ∀ r ∈ raw, ∃ p q l, r = [p, q, l] ∧ 0 ≤ p ∧ p < q ∧ q < (raw.length : Int) + 1 ∧ 1 ≤ l ∧ l ≤ 50 := by
  intro r hr
  obtain ⟨i, hi, e⟩ := List.getElem_of_mem hr
  obtain ⟨p, m, e2, h0, h1, h2⟩ := h i hi
  rw [List.getElem?_eq_getElem hi, e] at e2
  exact ⟨p, _, m, Option.some.inj e2, h0, h1, by omega, (hms m h2).1, (hms m h2).2⟩
theorem Raw.nodup {ms : List Int} {raw : List (List Int)} (h : Raw ms raw) : (raw.map (List.take 2)).Nodup := by
  refine List.pairwise_iff_getElem.mpr ?_
  intro i j hi hj hlt
  rw [List.length_map] at hi hj
  obtain ⟨p, m, e1, _⟩ := h i hi
  obtain ⟨p', m', e2, _⟩ := h j hj
  rw [List.getElem?_eq_getElem hi] at e1
  rw [List.getElem?_eq_getElem hj] at e2
  rw [List.getElem_map, List.getElem_map, Option.some.inj e1, Option.some.inj e2]
  intro e
  simp only [List.take, List.cons.injEq, and_true] at e
  omega
theorem Raw.whole {ms : List Int} {raw rs : List (List Int)} (h : Raw ms raw) (hs : ∀ r ∈ raw, r ∈ rs) : ∀ (n : Nat) (y : Int), y.toNat ≤ n → 0 ≤ y → y < (raw.length : Int) + 1 → Conn rs 0 y
  | n, y, hn, h0, h1 => by
    by_cases hy : y = 0
    · subst hy; exact .refl
    · have hi : (y - 1).toNat < raw.length := by omega
      obtain ⟨p, m, e, p0, p1, _⟩ := h _ hi
      have ey : (((y - 1).toNat : Nat) : Int) + 1 = y := by omega
      rw [ey] at e p1
      cases n with
      | zero => omega
      | succ n =>
        exact .step (Raw.whole h hs n p (by omega) p0 (by omega)) ⟨m, .inl (hs _ (List.mem_of_getElem? e))⟩
theorem Raw.good {ms : List Int} {raw : List (List Int)} (h : Raw ms raw) (hms : ∀ m ∈ ms, 1 ≤ m ∧ m ≤ 50) {n : Nat} (hn : n = raw.length + 1) : Good n (srt raw) ∧ ∀ y : Int, 0 ≤ y → y < n → Conn (srt raw) 0 y := by
  subst hn
  refine ⟨good_srt (fun r hr => ?_) h.nodup, fun y h0 h1 => h.whole (fun r hr => (srt_perm raw).mem_iff.mpr hr) _ y (Nat.le_refl _) h0 (by omega)⟩
  obtain ⟨p, q, l, e, h0, h1, h2, h3, h4⟩ := h.rows hms r hr
  exact ⟨p, q, l, e, h0, h1, by omega, h3, by omega⟩
end K13
set_option Elab.async false
set_option linter.all false
set_option maxRecDepth 100000
namespace K13
open PySem PySem.Spec PyProof.Rows PL L2
/-- steps of a run -/
local macro_rules | `(tactic| walk_at "pl") => `(tactic| repeat' (first
  | ((with_reducible apply hyp_get); (with_reducible assumption))
  | ((with_reducible apply call_get); (with_reducible assumption))
  | (with_reducible exact ev_cst) | (with_reducible exact es_nil) | (with_reducible exact et_nil) | (with_reducible exact eo_none) | (with_reducible exact ss_nil) | (with_reducible exact ev_dict0) | (with_reducible exact t_bl) | (with_reducible exact b_add) | (with_reducible exact b_mulb) | (with_reducible exact b_pow18) | (with_reducible exact b_sub) | (with_reducible exact f_int) | (with_reducible exact f_max) | (with_reducible exact f_min) | (with_reducible exact t_scr0) | (with_reducible exact t_scr1) | (with_reducible exact f_intb) | (with_reducible exact f_len_tup) | (with_reducible exact f_len_scr) | (with_reducible exact f_list_tup) | (with_reducible exact unlk_free) | (with_reducible exact not_tt) | (with_reducible exact not_ff) | (with_reducible exact not_k) | (with_reducible exact isa_int) | (with_reducible exact isa_bl) | (with_reducible exact isa_tup) | (with_reducible exact isa_obj) | (with_reducible exact get0) | (with_reducible exact get1) | (with_reducible exact get2) | (with_reducible exact par2) | (with_reducible exact par3) | (with_reducible exact bind_nm) | (with_reducible exact sn_rt) | (with_reducible exact k_tf) | (with_reducible exact k_ft)
  | ((with_reducible apply env_get); exact rfl) | ((with_reducible apply sto_get); exact rfl) | ((with_reducible apply atI_get'); exact rfl) | ((with_reducible apply ixN_get'); exact rfl) | ((with_reducible apply ar_get); exact rfl) | ((with_reducible apply gl_get); exact rfl) | ((with_reducible apply perm_get); exact rfl) | ((with_reducible apply bind_get); exact rfl) | ((with_reducible apply pure_t); (first | (with_reducible assumption) | (simp only [D.pure, D.pures, O.pure, Bool.and_self, Bool.and_true, Bool.true_and, List.set_cons_zero, List.set_cons_succ, Int.toNat_zero, Int.toNat_one]; done))) | ((with_reducible apply pure_o); (first | (with_reducible assumption) | (simp only [D.pure, D.pures, O.pure, Bool.and_self, Bool.and_true, Bool.true_and, List.set_cons_zero, List.set_cons_succ, Int.toNat_zero, Int.toNat_one]; done))) | ((with_reducible apply pures_t); (first | (with_reducible assumption) | (simp only [D.pure, D.pures, O.pure, Bool.and_self, Bool.and_true, Bool.true_and, List.set_cons_zero, List.set_cons_succ, Int.toNat_zero, Int.toNat_one]; done))) | ((with_reducible apply le_line); exact rfl) | ((with_reducible apply compact_self); (first | (with_reducible assumption) | (simp only [D.pure, D.pures, O.pure, Bool.and_self, Bool.and_true, Bool.true_and, List.set_cons_zero, List.set_cons_succ, Int.toNat_zero, Int.toNat_one]; done))) | ((with_reducible apply compact_app); (first | (with_reducible assumption) | (simp only [D.pure, D.pures, O.pure, Bool.and_self, Bool.and_true, Bool.true_and, List.set_cons_zero, List.set_cons_succ, Int.toNat_zero, Int.toNat_one]; done))) | ((with_reducible apply compact_new0); (first | (with_reducible assumption) | (simp only [D.pure, D.pures, O.pure, Bool.and_self, Bool.and_true, Bool.true_and, List.set_cons_zero, List.set_cons_succ, Int.toNat_zero, Int.toNat_one]; done)))
  | ((with_reducible apply lt_line); exact rfl)
  | ((with_reducible apply sto_eq); (simp only [List.set_cons_zero, List.set_cons_succ, List.cons_append, List.nil_append, Int.toNat_zero, Int.toNat_one]; done))
  | ((with_reducible apply sto_eq); (try simp only [List.set_cons_zero, List.set_cons_succ, List.cons_append, List.nil_append, Int.toNat_zero, Int.toNat_one]); exact rfl)
  | ((with_reducible apply env_eq); (try simp only [List.set_cons_zero, List.set_cons_succ]); exact rfl)
  | ((with_reducible apply b_mul); omega) | ((with_reducible apply b_fdiv) <;> omega) | ((with_reducible apply b_mod); omega)
  | ((with_reducible apply c_lt_t); omega) | ((with_reducible apply c_lt_f); omega) | ((with_reducible apply c_le_t); omega) | ((with_reducible apply c_le_f); omega) | ((with_reducible apply c_gt_t); omega) | ((with_reducible apply c_gt_f); omega) | ((with_reducible apply c_ge_t); omega) | ((with_reducible apply c_ge_f); omega) | ((with_reducible apply c_eq_t); omega) | ((with_reducible apply c_eq_f); omega) | ((with_reducible apply c_ne_t); omega) | ((with_reducible apply c_ne_f); omega) | ((with_reducible apply room_le); omega)
  | (with_reducible exact c_lt) | (with_reducible exact c_le) | (with_reducible exact c_gt) | (with_reducible exact c_ge) | (with_reducible exact c_eq) | (with_reducible exact c_ne)
  | (with_reducible apply f_len_lst) | (with_reducible apply f_tup_lst) | (with_reducible apply f_list_lst) | (with_reducible apply i_lst) | (with_reducible apply i_tup) | (with_reducible apply i_scr) | (with_reducible apply p_lst2)
  | ((with_reducible apply compact_head0) <;> (first | (with_reducible assumption) | (simp only [D.pure, D.pures, O.pure, Bool.and_self, Bool.and_true, Bool.true_and, List.set_cons_zero, List.set_cons_succ, Int.toNat_zero, Int.toNat_one]; done))) | ((with_reducible apply compact_head) <;> (first | (with_reducible assumption) | (simp only [D.pure, D.pures, O.pure, Bool.and_self, Bool.and_true, Bool.true_and, List.set_cons_zero, List.set_cons_succ, Int.toNat_zero, Int.toNat_one]; done)))
  | (with_reducible refine k_tt ?_) | (with_reducible refine k_ff ?_)
  | (with_reducible apply ev_slot) | (with_reducible apply ev_glob) | (with_reducible apply ev_bin) | (with_reducible apply ev_neg) | (with_reducible apply ev_not') | (with_reducible apply ev_cmp) | (with_reducible apply ev_chn) | (with_reducible apply ch_last) | (with_reducible apply ch_more') | (with_reducible apply ev_and') | (with_reducible apply ev_or') | (with_reducible apply ev_ite') | (with_reducible apply es_cons) | (with_reducible apply ev_tup) | (with_reducible apply ev_lst) | (with_reducible apply ev_idx) | (with_reducible apply eo_some) | (with_reducible apply ev_slc) | (with_reducible apply ev_fld) | (with_reducible apply ev_isa) | (with_reducible apply ev_call) | (with_reducible apply ev_callK) | (with_reducible apply ev_bif) | (with_reducible apply ev_meth) | (with_reducible apply ev_mk) | (with_reducible apply ev_comp) | (with_reducible apply et_one) | (with_reducible apply xs_set2) | (with_reducible apply xs_par) | (with_reducible apply xs_put) | (with_reducible apply xs_expr) | (with_reducible apply xs_ret) | (with_reducible apply xs_ite') | (with_reducible apply xs_unp) | (with_reducible apply ss_cons') | (with_reducible apply sn_nx) | (with_reducible apply fin') | (with_reducible apply fn_rt) | (with_reducible apply fn_nx) | (with_reducible apply m_append2)))
theorem cut_to {l : List D} {j : Nat} (h : j ≤ l.length) : PL.cutD l none (some (j : Int)) = l.take j := by
  unfold PL.cutD
  rw [HT.sIx_none, HT.sIx_nat, Nat.min_eq_left h]; rfl
theorem cut_from {l : List D} {j : Nat} (h : j ≤ l.length) : PL.cutD l (some (j : Int)) none = l.drop j := by
  unfold PL.cutD
  rw [HT.sIx_none, HT.sIx_nat, Nat.min_eq_left h]
  rw [← List.length_drop, List.take_length]
theorem not_in_map (G pl : List Int) : (pl.map D.int).filterMap (fun d => match d with | .int i => if i ∈ G then none else some (D.int i) | _ => none) = (pl.filter fun i => !decide (i ∈ G)).map D.int := by
  induction pl with
  | nil => rfl
  | cons a pl ih =>
    rw [List.map_cons, List.filterMap_cons, ih]
    by_cases h : a ∈ G
    · simp [h]
    · simp [h]
/-- how often a road is crossed, told by the places on the one side -/
def cr (G : List Int) (b0 : Int) (pl : List Int) : Int := if b0 ∈ G then (if (pl.filter fun i => !decide (i ∈ G)).isEmpty then 0 else 2) else 1
theorem x_crossing_of (k : Nat) (S : Store) {n m : Nat} (hn : n ≤ 50) {rs : List (List Int)} {ra rb : D} {lamps : D} {j : Nat} {a0 b0 : Int} {pl : List Int} (hr : InR n rs) (hl : rs.length ≤ 100) (hj : j < rs.length) (h0 : 0 ≤ a0) (h1 : a0 < n) (hpl : pl.length ≤ 1000) :
    ∃ G : List Int, G.Nodup ∧ G.Pairwise (· ≤ ·) ∧ (∀ u, u ∈ G ↔ Conn (rs.take j ++ rs.drop (j + 1)) a0 u) ∧ callN P (k + 3) "crossing_of" [.obj 0 [.int m, .tup (rs.map tI), lamps], .int j, .tup [.int a0, ra], .tup [.int b0, rb], .tup (pl.map D.int)] S = some (.val (.int (cr G b0 pl)) S) := by
  have hr2 : InR n (rs.take j ++ rs.drop (j + 1)) := fun r h => hr r (by
    rcases List.mem_append.mp h with h | h
    · exact List.mem_of_mem_take h
    · exact List.mem_of_mem_drop h)
  have hlen : (rs.take j ++ rs.drop (j + 1)).length ≤ 1000 := by
    rw [List.length_append, List.length_take, List.length_drop]; omega
  obtain ⟨G, g1, g2, g3, g4, hc⟩ := x_reached k S hn hr2 hlen h0 h1
  refine ⟨G, g1, g2, g4, ?_⟩
  let E : Option D → Option D → PL.Env := fun s p => [some (.obj 0 [.int m, .tup (rs.map tI), lamps]), some (.int j), some (.tup [.int a0, ra]), some (.tup [.int b0, rb]), some (.tup (pl.map D.int)), s, p]
  have hset : exS (ixOf P (k + 2)) (.set 5 (.call "reached" (.cons (.bin .add (.slc (.fld (.slot 0) 0 1) none (some (.slot 1))) (.slc (.fld (.slot 0) 0 1) (some (.bin .add (.slot 1) (.cst (.int 1)))) none)) (.cons (.idx (.slot 2) (.cst (.int 0))) .nil)) [] [])) (E none none) S = some (.nx (E (some (.loc S.length)) none) (S ++ [O.lst (G.map D.int)])) := by
    refine xs_set (ev_call (es_cons (x := .tup ((rs.take j ++ rs.drop (j + 1)).map tI)) (S1 := S) ?_ (es_cons (x := .int a0) (S1 := S) (ev_idx (ev_slot rfl) ev_cst (i_tup rfl)) es_nil)) hc) (compact_new0 _ (pures_ints _))
    have s1 : slcD (.tup (rs.map tI)) none (some (j : Int)) S = some (.tup ((rs.take j).map tI), S) := by
      show some (D.tup (PL.cutD _ _ _), S) = _
      rw [cut_to (by rw [List.length_map]; omega), List.map_take]
    have s2 : slcD (.tup (rs.map tI)) (some ((j : Int) + 1)) none S = some (.tup ((rs.drop (j + 1)).map tI), S) := by
      show some (D.tup (PL.cutD _ (some ((j + 1 : Nat) : Int)) _), S) = _
      rw [cut_from (by rw [List.length_map]; omega), List.map_drop]
    have hb := b_tup (S := S) (l := (rs.take j).map tI) (m := (rs.drop (j + 1)).map tI) (by
      rw [List.length_map, List.length_map, List.length_take, List.length_drop]; show _ ≤ 16777216; omega)
    rw [← List.map_append] at hb
    exact ev_bin (ev_slc (ev_fld (ev_slot rfl) rfl) eo_none (eo_some (ev_slot rfl)) s1) (ev_slc (ev_fld (ev_slot rfl) rfl) (eo_some (ev_bin (ev_slot rfl) ev_cst b_add)) eo_none s2) hb
  have htest : evE (ixOf P (k + 2)) (.cmp .notin (.idx (.slot 3) (.cst (.int 0))) (.slot 5)) (E (some (.loc S.length)) none) (S ++ [O.lst (G.map D.int)]) = some (.val (.bl (!decide (b0 ∈ G))) (S ++ [O.lst (G.map D.int)])) :=
    ev_cmp (ev_idx (ev_slot rfl) ev_cst (i_tup rfl)) (ev_slot rfl) (c_notin_ints List.getElem?_concat_length)
  by_cases hb : b0 ∈ G
  · rw [decide_eq_true hb] at htest
    have hcomp := compI_fm (f := compF (ixOf P (k + 2)) (.slot 6) (.nm 6) (.cons (.cmp .notin (.slot 6) (.slot 5)) .nil) [6] (E (some (.loc S.length)) none)) (src := .free) (S := S ++ [O.lst (G.map D.int)]) (fun d => match d with | .int i => if i ∈ G then none else some (D.int i) | _ => none) trivial (pl.map D.int) [] (by
      intro d hd
      obtain ⟨i, _, rfl⟩ := List.mem_map.mp hd
      have ht : evTs (ixOf P (k + 2)) (.cons (.cmp .notin (.slot 6) (.slot 5)) .nil) (E (some (.loc S.length)) (some (.int i))) (S ++ [O.lst (G.map D.int)]) = some (.val (!decide (i ∈ G)) (S ++ [O.lst (G.map D.int)])) := et_one (ev_cmp (ev_slot rfl) (ev_slot rfl) (c_notin_ints List.getElem?_concat_length)) rfl (compact_self _ rfl)
      by_cases hi : i ∈ G
      · rw [decide_eq_true hi] at ht
        dsimp only
        rw [if_pos hi]
        exact cf_f (env' := E (some (.loc S.length)) (some (.int i))) rfl ht
      · rw [decide_eq_false hi] at ht
        dsimp only
        rw [if_neg hi]
        exact cf_t (env' := E (some (.loc S.length)) (some (.int i))) rfl ht (ev_slot rfl) (compact_self _ rfl)) (by rw [List.length_map]; show _ ≤ 16777216; simp only [List.length_nil]; omega)
    rw [not_in_map, List.nil_append] at hcomp
    have hne : evE (ixOf P (k + 2)) (.cmp .ne (.comp (.slot 6) (.nm 6) (.val (.slot 4)) (.cons (.cmp .notin (.slot 6) (.slot 5)) .nil) [6]) (.lst (.nil))) (E (some (.loc S.length)) none) (S ++ [O.lst (G.map D.int)]) = some (.val (.bl (!(pl.filter fun i => !decide (i ∈ G)).isEmpty)) (S ++ [O.lst (G.map D.int)] ++ [O.lst ((pl.filter fun i => !decide (i ∈ G)).map D.int)] ++ [O.lst []])) := by
      refine ev_cmp (ev_comp (it_tup' (ev_slot rfl) (compact_self _ (pures_ints pl))) hcomp (unlk_free ..)) (ev_lst es_nil (le_line rfl)) (c_ne_nil ?_ List.getElem?_concat_length)
      rw [List.getElem?_append_left (by simp), List.getElem?_concat_length]
    have hret : exS (ixOf P (k + 2)) (.ret (.ite (.cmp .ne (.comp (.slot 6) (.nm 6) (.val (.slot 4)) (.cons (.cmp .notin (.slot 6) (.slot 5)) .nil) [6]) (.lst (.nil))) (.cst (.int 2)) (.cst (.int 0)))) (E (some (.loc S.length)) none) (S ++ [O.lst (G.map D.int)]) = some (.rt (.int (cr G b0 pl)) (S ++ [O.lst (G.map D.int)])) := by
      unfold cr
      rw [if_pos hb]
      refine xs_ret (S1 := S ++ [O.lst (G.map D.int)] ++ [O.lst ((pl.filter fun i => !decide (i ∈ G)).map D.int)] ++ [O.lst []]) (ev_ite' hne rfl ?_ ?_) (by rw [List.append_assoc]; exact compact_app _ _ rfl)
      · intro h
        rw [Bool.not_eq_true'] at h
        rw [h]; exact ev_cst
      · intro h
        rw [Bool.not_eq_false'] at h
        rw [h]; exact ev_cst
    exact r_crossing_of (fin_rt' (ss_nx hset (ss_nx (xs_ite_f htest rfl (compact_self _ rfl) ss_nil) (ss_rt hret))) (compact_app _ _ rfl))
  · rw [decide_eq_false hb] at htest
    have e : cr G b0 pl = 1 := by unfold cr; rw [if_neg hb]
    rw [e]
    exact r_crossing_of (fin_rt' (ss_nx hset (ss_rt (xs_ite_t htest rfl (compact_self _ rfl) (ss_rt (xs_ret ev_cst (compact_self _ rfl)))))) (compact_app _ _ rfl))
end K13
set_option Elab.async false
set_option linter.all false
set_option maxRecDepth 100000
namespace K13
open PySem PySem.Spec PyProof.Rows PL L2
/-- steps of a run -/
local macro_rules | `(tactic| walk_at "pl") => `(tactic| repeat' (first
  | ((with_reducible apply hyp_get); (with_reducible assumption))
  | ((with_reducible apply call_get); (with_reducible assumption))
  | (with_reducible exact ev_cst) | (with_reducible exact es_nil) | (with_reducible exact et_nil) | (with_reducible exact eo_none) | (with_reducible exact ss_nil) | (with_reducible exact ev_dict0) | (with_reducible exact t_bl) | (with_reducible exact b_add) | (with_reducible exact b_mulb) | (with_reducible exact b_pow18) | (with_reducible exact b_sub) | (with_reducible exact f_int) | (with_reducible exact f_max) | (with_reducible exact f_min) | (with_reducible exact t_scr0) | (with_reducible exact t_scr1) | (with_reducible exact f_intb) | (with_reducible exact f_len_tup) | (with_reducible exact f_len_scr) | (with_reducible exact f_list_tup) | (with_reducible exact unlk_free) | (with_reducible exact not_tt) | (with_reducible exact not_ff) | (with_reducible exact not_k) | (with_reducible exact isa_int) | (with_reducible exact isa_bl) | (with_reducible exact isa_tup) | (with_reducible exact isa_obj) | (with_reducible exact get0) | (with_reducible exact get1) | (with_reducible exact get2) | (with_reducible exact par2) | (with_reducible exact par3) | (with_reducible exact bind_nm) | (with_reducible exact sn_rt) | (with_reducible exact k_tf) | (with_reducible exact k_ft)
  | ((with_reducible apply env_get); exact rfl) | ((with_reducible apply sto_get); exact rfl) | ((with_reducible apply atI_get'); exact rfl) | ((with_reducible apply ixN_get'); exact rfl) | ((with_reducible apply ar_get); exact rfl) | ((with_reducible apply gl_get); exact rfl) | ((with_reducible apply perm_get); exact rfl) | ((with_reducible apply bind_get); exact rfl) | ((with_reducible apply pure_t); (first | (with_reducible assumption) | (simp only [D.pure, D.pures, O.pure, Bool.and_self, Bool.and_true, Bool.true_and, List.set_cons_zero, List.set_cons_succ, Int.toNat_zero, Int.toNat_one]; done))) | ((with_reducible apply pure_o); (first | (with_reducible assumption) | (simp only [D.pure, D.pures, O.pure, Bool.and_self, Bool.and_true, Bool.true_and, List.set_cons_zero, List.set_cons_succ, Int.toNat_zero, Int.toNat_one]; done))) | ((with_reducible apply pures_t); (first | (with_reducible assumption) | (simp only [D.pure, D.pures, O.pure, Bool.and_self, Bool.and_true, Bool.true_and, List.set_cons_zero, List.set_cons_succ, Int.toNat_zero, Int.toNat_one]; done))) | ((with_reducible apply le_line); exact rfl) | ((with_reducible apply compact_self); (first | (with_reducible assumption) | (simp only [D.pure, D.pures, O.pure, Bool.and_self, Bool.and_true, Bool.true_and, List.set_cons_zero, List.set_cons_succ, Int.toNat_zero, Int.toNat_one]; done))) | ((with_reducible apply compact_app); (first | (with_reducible assumption) | (simp only [D.pure, D.pures, O.pure, Bool.and_self, Bool.and_true, Bool.true_and, List.set_cons_zero, List.set_cons_succ, Int.toNat_zero, Int.toNat_one]; done))) | ((with_reducible apply compact_new0); (first | (with_reducible assumption) | (simp only [D.pure, D.pures, O.pure, Bool.and_self, Bool.and_true, Bool.true_and, List.set_cons_zero, List.set_cons_succ, Int.toNat_zero, Int.toNat_one]; done)))
  | ((with_reducible apply lt_line); exact rfl)
  | ((with_reducible apply sto_eq); (simp only [List.set_cons_zero, List.set_cons_succ, List.cons_append, List.nil_append, Int.toNat_zero, Int.toNat_one]; done))
  | ((with_reducible apply sto_eq); (try simp only [List.set_cons_zero, List.set_cons_succ, List.cons_append, List.nil_append, Int.toNat_zero, Int.toNat_one]); exact rfl)
  | ((with_reducible apply env_eq); (try simp only [List.set_cons_zero, List.set_cons_succ]); exact rfl)
  | ((with_reducible apply b_mul); omega) | ((with_reducible apply b_fdiv) <;> omega) | ((with_reducible apply b_mod); omega)
  | ((with_reducible apply c_lt_t); omega) | ((with_reducible apply c_lt_f); omega) | ((with_reducible apply c_le_t); omega) | ((with_reducible apply c_le_f); omega) | ((with_reducible apply c_gt_t); omega) | ((with_reducible apply c_gt_f); omega) | ((with_reducible apply c_ge_t); omega) | ((with_reducible apply c_ge_f); omega) | ((with_reducible apply c_eq_t); omega) | ((with_reducible apply c_eq_f); omega) | ((with_reducible apply c_ne_t); omega) | ((with_reducible apply c_ne_f); omega) | ((with_reducible apply room_le); omega)
  | (with_reducible exact c_lt) | (with_reducible exact c_le) | (with_reducible exact c_gt) | (with_reducible exact c_ge) | (with_reducible exact c_eq) | (with_reducible exact c_ne)
  | (with_reducible apply f_len_lst) | (with_reducible apply f_tup_lst) | (with_reducible apply f_list_lst) | (with_reducible apply i_lst) | (with_reducible apply i_tup) | (with_reducible apply i_scr) | (with_reducible apply p_lst2)
  | ((with_reducible apply compact_head0) <;> (first | (with_reducible assumption) | (simp only [D.pure, D.pures, O.pure, Bool.and_self, Bool.and_true, Bool.true_and, List.set_cons_zero, List.set_cons_succ, Int.toNat_zero, Int.toNat_one]; done))) | ((with_reducible apply compact_head) <;> (first | (with_reducible assumption) | (simp only [D.pure, D.pures, O.pure, Bool.and_self, Bool.and_true, Bool.true_and, List.set_cons_zero, List.set_cons_succ, Int.toNat_zero, Int.toNat_one]; done)))
  | (with_reducible refine k_tt ?_) | (with_reducible refine k_ff ?_)
  | (with_reducible apply ev_slot) | (with_reducible apply ev_glob) | (with_reducible apply ev_bin) | (with_reducible apply ev_neg) | (with_reducible apply ev_not') | (with_reducible apply ev_cmp) | (with_reducible apply ev_chn) | (with_reducible apply ch_last) | (with_reducible apply ch_more') | (with_reducible apply ev_and') | (with_reducible apply ev_or') | (with_reducible apply ev_ite') | (with_reducible apply es_cons) | (with_reducible apply ev_tup) | (with_reducible apply ev_lst) | (with_reducible apply ev_idx) | (with_reducible apply eo_some) | (with_reducible apply ev_slc) | (with_reducible apply ev_fld) | (with_reducible apply ev_isa) | (with_reducible apply ev_call) | (with_reducible apply ev_callK) | (with_reducible apply ev_bif) | (with_reducible apply ev_meth) | (with_reducible apply ev_mk) | (with_reducible apply ev_comp) | (with_reducible apply et_one) | (with_reducible apply xs_set2) | (with_reducible apply xs_par) | (with_reducible apply xs_put) | (with_reducible apply xs_expr) | (with_reducible apply xs_ret) | (with_reducible apply xs_ite') | (with_reducible apply xs_unp) | (with_reducible apply ss_cons') | (with_reducible apply sn_nx) | (with_reducible apply fin') | (with_reducible apply fn_rt) | (with_reducible apply fn_nx) | (with_reducible apply m_append2)))
theorem tie_iff {rs : List (List Int)} (h3 : Rows3 rs) (a b : Int) : Tie rs a b ↔ [a, b] ∈ rs.map (List.take 2) ∨ [b, a] ∈ rs.map (List.take 2) := by
  have key : ∀ a b : Int, (∃ l, [a, b, l] ∈ rs) ↔ [a, b] ∈ rs.map (List.take 2) := by
    intro a b
    rw [List.mem_map]
    constructor
    · rintro ⟨l, h⟩
      exact ⟨_, h, rfl⟩
    · rintro ⟨r, h, e⟩
      obtain ⟨p, q, l, rfl⟩ := h3 r h
      cases e
      exact ⟨l, h⟩
  rw [← key, ← key]
  unfold Tie
  constructor
  · rintro ⟨l, h | h⟩
    · exact .inl ⟨l, h⟩
    · exact .inr ⟨l, h⟩
  · rintro (⟨l, h⟩ | ⟨l, h⟩)
    · exact ⟨l, .inl h⟩
    · exact ⟨l, .inr h⟩
theorem ints_of_fm {h : D → Option D} (hh : ∀ d x, h d = some x → ∃ i, x = .int i) : ∀ l : List D, ∃ pl : List Int, l.filterMap h = pl.map D.int ∧ pl.length ≤ l.length
  | [] => ⟨[], rfl, Nat.le_refl _⟩
  | d :: l => by
    obtain ⟨pl, e, hl⟩ := ints_of_fm hh l
    rw [List.filterMap_cons, e]
    cases e2 : h d with
    | none => exact ⟨pl, rfl, by simp only [List.length_cons]; omega⟩
    | some x =>
      obtain ⟨i, rfl⟩ := hh d x e2
      exact ⟨i :: pl, rfl, by simp only [List.length_cons]; omega⟩
theorem enumD_len : ∀ (i : Int) (l : List D), (enumD i l).length = l.length
  | _, [] => rfl
  | i, x :: r => by rw [enumD, List.length_cons, List.length_cons, enumD_len]
def chD (rb : List Int) : D → Option D
  | .tup [.int i, .int v] => if rb.getD i.toNat 0 = v then none else some (.int i)
  | _ => none
/-- the places whose numbers differ -/
def chg : Nat → List Int → List Int → List Int
  | i, x :: ra, y :: rb => if y = x then chg (i + 1) ra rb else (i : Int) :: chg (i + 1) ra rb
  | _, _, _ => []
theorem chg_symm : ∀ (i : Nat) (ra rb : List Int), chg i ra rb = chg i rb ra
  | _, [], [] => rfl
  | _, [], _ :: _ => rfl
  | _, _ :: _, [] => rfl
  | i, x :: ra, y :: rb => by
    unfold chg
    rw [chg_symm (i + 1) ra rb]
    by_cases h : y = x
    · rw [if_pos h, if_pos h.symm]
    · rw [if_neg h, if_neg fun e => h e.symm]
theorem chg_len : ∀ (i : Nat) (ra rb : List Int), (chg i ra rb).length ≤ ra.length
  | _, [], _ => by unfold chg; exact Nat.le_refl _
  | _, _ :: _, [] => by unfold chg; exact Nat.zero_le _
  | i, x :: ra, y :: rb => by
    have := chg_len (i + 1) ra rb
    unfold chg
    split
    · simp only [List.length_cons]; omega
    · simp only [List.length_cons]; omega
theorem chg_enum : ∀ (ra rb pre : List Int), rb.length = ra.length → (enumD (pre.length : Int) (ra.map D.int)).filterMap (chD (pre ++ rb)) = (chg pre.length ra rb).map D.int
  | [], [], _, _ => rfl
  | [], _ :: _, _, h => by simp at h
  | _ :: _, [], _, h => by simp at h
  | x :: ra, y :: rb, pre, h => by
    have ih := chg_enum ra rb (pre ++ [y]) (by simpa using h)
    rw [List.append_assoc, List.length_append] at ih
    have e1 : enumD (pre.length : Int) ((x :: ra).map D.int) = packI (pre.length : Int) (.int x) :: enumD ((pre.length : Int) + 1) (ra.map D.int) := rfl
    have e2 : chD (pre ++ y :: rb) (packI (pre.length : Int) (.int x)) = if (pre ++ y :: rb).getD ((pre.length : Int)).toNat 0 = x then none else some (.int (pre.length : Int)) := rfl
    have e3 : (pre ++ y :: rb).getD ((pre.length : Int)).toNat 0 = y := by
      rw [Int.toNat_natCast, List.getD_eq_getElem?_getD, List.getElem?_append_right (Nat.le_refl _), Nat.sub_self]; rfl
    rw [e3] at e2
    rw [e1, List.filterMap_cons, e2]
    unfold chg
    have e4 : ((pre.length : Int) + 1) = ((pre.length + [y].length : Nat) : Int) := by simp
    by_cases hy : y = x
    · rw [if_pos hy, if_pos hy, e4]; exact ih
    · rw [if_neg hy, if_neg hy, e4, List.map_cons]
      exact congrArg _ ih
theorem x_changed_of {a0 b0 : D} {ra rb : List Int} (hl : rb.length = ra.length) (h1 : ra.length ≤ 100) : (chg 0 ra rb).length ≤ ra.length ∧ ∀ (k : Nat) (S : Store), callN P (k + 1) "changed_of" [.tup [a0, tI ra], .tup [b0, tI rb]] S = some (.val (tI (chg 0 ra rb)) S) := by
  have e := chg_enum ra rb [] hl
  refine ⟨chg_len 0 ra rb, fun k S => ?_⟩
  have hcomp := compI_fm (f := compF (ixOf P k) (.slot 2) (.tup [.nm 2, .nm 3]) (.cons (.cmp .ne (.idx (.idx (.slot 1) (.cst (.int 1))) (.slot 2)) (.slot 3)) .nil) [2, 3] [some (.tup [a0, tI ra]), some (.tup [b0, tI rb]), none, none]) (src := .free) (S := S) (chD rb) trivial (enumD 0 (ra.map D.int)) [] (by
    intro d hd
    obtain ⟨j, x, hx, rfl⟩ := mem_enumD _ _ _ hd
    rw [List.getElem?_map] at hx
    obtain ⟨v, hv, rfl⟩ := Option.map_eq_some_iff.mp hx
    have hj : j < rb.length := by rw [hl]; exact (List.getElem?_eq_some_iff.mp hv).1
    have hat : L2.atI (rb.map D.int) (0 + (j : Int)) = some (.int rb[j]) := by
      rw [Int.zero_add]
      exact L2.atI_nat (by rw [List.getElem?_map, List.getElem?_eq_getElem hj]; rfl)
    have ht : evTs (ixOf P k) (.cons (.cmp .ne (.idx (.idx (.slot 1) (.cst (.int 1))) (.slot 2)) (.slot 3)) .nil) [some (.tup [a0, tI ra]), some (.tup [b0, tI rb]), some (.int (0 + (j : Int))), some (.int v)] S = some (.val (decide (rb[j] ≠ v)) S) := et_one (ev_cmp (ev_idx (ev_idx (ev_slot rfl) ev_cst (i_tup rfl)) (ev_slot rfl) (i_tup hat)) (ev_slot rfl) c_ne) rfl (compact_self _ rfl)
    have eg : rb.getD (0 + (j : Int)).toNat 0 = rb[j] := by
      rw [Int.zero_add, Int.toNat_natCast, List.getD_eq_getElem?_getD, List.getElem?_eq_getElem hj]; rfl
    have ec : chD rb (packI (0 + (j : Int)) (.int v)) = if rb.getD (0 + (j : Int)).toNat 0 = v then none else some (.int (0 + (j : Int))) := rfl
    rw [ec, eg]
    by_cases hv : rb[j] = v
    · rw [if_pos hv]
      rw [decide_eq_false (fun h => h hv)] at ht
      exact cf_f (env' := [some (.tup [a0, tI ra]), some (.tup [b0, tI rb]), some (.int (0 + (j : Int))), some (.int v)]) rfl ht
    · rw [if_neg hv]
      rw [decide_eq_true hv] at ht
      exact cf_t (env' := [some (.tup [a0, tI ra]), some (.tup [b0, tI rb]), some (.int (0 + (j : Int))), some (.int v)]) rfl ht (ev_slot rfl) (compact_self _ rfl)) (by rw [enumD_len, List.length_map]; show _ ≤ 16777216; simp only [List.length_nil]; omega)
  rw [show (enumD 0 (ra.map D.int)).filterMap (chD rb) = (chg 0 ra rb).map D.int from e, List.nil_append] at hcomp
  refine r_changed_of ?_
  dsimp only [i_changed_of]
  have hr : exS (ixOf P k) (.ret (.bif .tuple (.cons (.comp (.slot 2) (.tup [.nm 2, .nm 3]) (.enum (.idx (.slot 0) (.cst (.int 1)))) (.cons (.cmp .ne (.idx (.idx (.slot 1) (.cst (.int 1))) (.slot 2)) (.slot 3)) .nil) [2, 3]) .nil))) [some (.tup [a0, tI ra]), some (.tup [b0, tI rb]), none, none] S = some (.rt (tI (chg 0 ra rb)) S) :=
    xs_ret (ev_bif (es_cons (ev_comp (it_enum_tup (ev_idx (ev_slot rfl) ev_cst (i_tup rfl)) (compact_self _ (pures_ints ra))) hcomp (unlk_free ..)) es_nil) (f_tup_lst List.getElem?_concat_length)) (compact_app _ _ (pures_ints (chg 0 ra rb)))
  exact fin_rt' (ss_rt hr) (compact_self _ (pures_ints (chg 0 ra rb)))
/-- roads but for one -/
abbrev cutR (rs : List (List Int)) (j : Nat) : List (List Int) := rs.take j ++ rs.drop (j + 1)
open Classical in
/-- how often a road is crossed, told by what stays tied without it -/
noncomputable def crv (qs : List (List Int)) (a0 b0 : Int) (pl : List Int) : Int := if Conn qs a0 b0 then (if ∀ x ∈ pl, Conn qs a0 x then 0 else 2) else 1
theorem cr_crv {qs : List (List Int)} {a0 b0 : Int} {G pl : List Int} (h : ∀ u, u ∈ G ↔ Conn qs a0 u) : cr G b0 pl = crv qs a0 b0 pl := by
  unfold cr crv
  by_cases hb : b0 ∈ G
  · rw [if_pos hb, if_pos ((h b0).mp hb)]
    by_cases hp : ∀ x ∈ pl, Conn qs a0 x
    · rw [if_pos hp]
      have : pl.filter (fun i => !decide (i ∈ G)) = [] := by
        rw [List.filter_eq_nil_iff]
        intro x hx
        simp [(h x).mpr (hp x hx)]
      rw [this]; rfl
    · rw [if_neg hp]
      have : (pl.filter fun i => !decide (i ∈ G)).isEmpty = false := by
        cases e : pl.filter fun i => !decide (i ∈ G) with
        | nil =>
          exfalso
          apply hp
          intro x hx
          by_cases hg : x ∈ G
          · exact (h x).mp hg
          · have : x ∈ pl.filter fun i => !decide (i ∈ G) := List.mem_filter.mpr ⟨hx, by simp [hg]⟩
            rw [e] at this
            cases this
        | cons _ _ => rfl
      rw [this]; rfl
  · rw [if_neg hb, if_neg fun c => hb ((h b0).mpr c)]
theorem crv_ext {qs qs' : List (List Int)} {a0 b0 : Int} {pl : List Int} (h : ∀ u, Conn qs a0 u ↔ Conn qs' a0 u) : crv qs a0 b0 pl = crv qs' a0 b0 pl := by
  unfold crv
  by_cases a : Conn qs a0 b0
  · rw [if_pos a, if_pos ((h b0).mp a)]
    by_cases b : ∀ x ∈ pl, Conn qs a0 x
    · rw [if_pos b, if_pos fun x hx => (h x).mp (b x hx)]
    · rw [if_neg b, if_neg fun c => b fun x hx => (h x).mpr (c x hx)]
  · rw [if_neg a, if_neg fun c => a ((h b0).mpr c)]
/-- how often each road is crossed -/
noncomputable def csOf (rs : List (List Int)) (a0 b0 : Int) (pl : List Int) : List Int := (List.range rs.length).map fun j => crv (cutR rs j) a0 b0 pl
theorem x_cross (k : Nat) (S : Store) {n m : Nat} (hn : n ≤ 50) {rs : List (List Int)} {lamps : D} {a0 b0 : Int} {ra rb : List Int} (hr : InR n rs) (hl : rs.length ≤ 100) (h0 : 0 ≤ a0) (h1 : a0 < n) (hab : rb.length = ra.length) (h2 : ra.length ≤ 100) :
    callN P (k + 4) "crossings_of" [.obj 0 [.int m, .tup (rs.map tI), lamps], .tup [.int a0, tI ra], .tup [.int b0, tI rb]] S = some (.val (tI (csOf rs a0 b0 (chg 0 ra rb))) S) := by
  obtain ⟨hpl, hch⟩ := x_changed_of (a0 := .int a0) (b0 := .int b0) hab h2
  generalize chg 0 ra rb = pl at hpl hch
  have hc : ∀ j : Nat, j < rs.length → callN P (k + 3) "crossing_of" [.obj 0 [.int m, .tup (rs.map tI), lamps], .int j, .tup [.int a0, tI ra], .tup [.int b0, tI rb], .tup (pl.map D.int)] S = some (.val (.int (crv (cutR rs j) a0 b0 pl)) S) := by
    intro j hj
    obtain ⟨G, g1, g2, g3, g4⟩ := x_crossing_of k S (m := m) (ra := tI ra) (rb := tI rb) (lamps := lamps) (b0 := b0) (pl := pl) hn hr hl hj h0 h1 (by omega)
    rw [cr_crv g3] at g4
    exact g4
  generalize hf : (fun j => crv (cutR rs j) a0 b0 pl) = f
  have hfj : ∀ j, crv (cutR rs j) a0 b0 pl = f j := fun j => by rw [← hf]
  have hcs : csOf rs a0 b0 pl = (List.range rs.length).map f := by unfold csOf; rw [hf]
  rw [hcs]
  have hc2 : ∀ j : Nat, j < rs.length → callN P (k + 3) "crossing_of" [.obj 0 [.int m, .tup (rs.map tI), lamps], .int j, .tup [.int a0, tI ra], .tup [.int b0, tI rb], .tup (pl.map D.int)] S = some (.val (.int (f j)) S) := fun j hj => by
    rw [← hfj]; exact hc j hj
  let E : Option D → Option D → PL.Env := fun s p => [some (.obj 0 [.int m, .tup (rs.map tI), lamps]), some (.tup [.int a0, tI ra]), some (.tup [.int b0, tI rb]), s, p]
  have hset : exS (ixOf P (k + 3)) (.set 3 (.call "changed_of" (.cons (.slot 1) (.cons (.slot 2) .nil)) [] [])) (E none none) S = some (.nx (E (some (.tup (pl.map D.int))) none) S) :=
    xs_set (ev_call (es_cons (ev_slot rfl) (es_cons (ev_slot rfl) es_nil)) (hch (k + 2) S)) (compact_self _ (pures_ints pl))
  have hcomp := compI_map (f := compF (ixOf P (k + 3)) (.call "crossing_of" (.cons (.slot 0) (.cons (.slot 4) (.cons (.slot 1) (.cons (.slot 2) (.cons (.slot 3) .nil))))) [] []) (.nm 4) .nil [4] (E (some (.tup (pl.map D.int))) none)) (src := .free) (S := S) (fun d => match d with | .int i => .int (f i.toNat) | d => d) trivial (rangeD 0 rs.length) (by
    intro d hd
    unfold rangeD at hd
    obtain ⟨j, hj, rfl⟩ := List.mem_map.mp hd
    rw [List.mem_range] at hj
    have e : (0 + (j : Int)) = (j : Int) := by omega
    rw [e]
    exact cf_t (env' := E (some (.tup (pl.map D.int))) (some (.int (j : Int)))) rfl et_nil (ev_call (es_cons (ev_slot rfl) (es_cons (ev_slot rfl) (es_cons (ev_slot rfl) (es_cons (ev_slot rfl) (es_cons (ev_slot rfl) es_nil))))) (hc2 j (by omega))) (compact_self _ rfl)) (by unfold rangeD; rw [List.length_map, List.length_range]; show _ ≤ 16777216; omega)
  have em : (rangeD 0 rs.length).map (fun d => match d with | .int i => .int (f i.toNat) | d => d) = ((List.range rs.length).map f).map D.int := by
    unfold rangeD
    rw [List.map_map, List.map_map]
    have e : ((rs.length : Int) - 0).toNat = rs.length := by omega
    rw [e]
    refine List.map_congr_left fun j _ => ?_
    show D.int (f (0 + (j : Int)).toNat) = D.int (f j)
    congr 2; omega
  rw [em] at hcomp
  have hok : okRange (rs.length : Int) = true := by
    unfold okRange
    rw [Bool.and_eq_true]
    exact ⟨decide_eq_true (by omega), decide_eq_true (by omega)⟩
  have hlen : evE (ixOf P (k + 3)) (.bif .len (.cons (.fld (.slot 0) 0 1) .nil)) (E (some (.tup (pl.map D.int))) none) S = some (.val (.int rs.length) S) := by
    have := ev_bif (ix := ixOf P (k + 3)) (f := .len) (env := E (some (.tup (pl.map D.int))) none) (S := S) (es := .cons (.fld (.slot 0) 0 1) .nil) (es_cons (ev_fld (ev_slot rfl) rfl) es_nil) (f_len_tup (l := rs.map tI))
    rwa [List.length_map] at this
  have hr : exS (ixOf P (k + 3)) (.ret (.bif .tuple (.cons (.comp (.call "crossing_of" (.cons (.slot 0) (.cons (.slot 4) (.cons (.slot 1) (.cons (.slot 2) (.cons (.slot 3) .nil))))) [] []) (.nm 4) (.range1 (.bif .len (.cons (.fld (.slot 0) 0 1) .nil))) (.nil) [4]) .nil))) (E (some (.tup (pl.map D.int))) none) S = some (.rt (tI ((List.range rs.length).map f)) S) :=
    xs_ret (ev_bif (es_cons (ev_comp (it_range1' hlen hok (compact_self _ rfl)) hcomp (unlk_free ..)) es_nil) (f_tup_lst List.getElem?_concat_length)) (compact_app _ _ (tI_pure _))
  exact r_crossings_of (fin_rt' (ss_nx hset (ss_rt hr)) (compact_self _ (tI_pure _)))
theorem x_crossings_of {n m : Nat} (hn : n ≤ 50) {rs rs' : List (List Int)} {lamps : D} {a0 b0 : Int} {ra rb : List Int} (hr : InR n rs) (hr' : InR n rs') (hpr : rs.map (List.take 2) = rs'.map (List.take 2)) (hl : rs.length ≤ 100) (h0 : 0 ≤ a0) (h1 : a0 < n) (hab : rb.length = ra.length) (h2 : ra.length ≤ 100) :
    ∃ cs : List Int, cs.length = rs.length ∧ ∀ (k : Nat) (S : Store), callN P (k + 4) "crossings_of" [.obj 0 [.int m, .tup (rs.map tI), lamps], .tup [.int a0, tI ra], .tup [.int b0, tI rb]] S = some (.val (tI cs) S) ∧ callN P (k + 4) "crossings_of" [.obj 0 [.int m, .tup (rs'.map tI), lamps], .tup [.int a0, tI ra], .tup [.int b0, tI rb]] S = some (.val (tI cs) S) := by
  have hl' : rs'.length = rs.length := by
    have := congrArg List.length hpr
    rw [List.length_map, List.length_map] at this; exact this.symm
  have sub : ∀ {rs : List (List Int)} (j : Nat), Rows3 rs → Rows3 (cutR rs j) := fun j h r hr => h r (by
    rcases List.mem_append.mp hr with h | h
    · exact List.mem_of_mem_take h
    · exact List.mem_of_mem_drop h)
  have hcs : csOf rs' a0 b0 (chg 0 ra rb) = csOf rs a0 b0 (chg 0 ra rb) := by
    unfold csOf
    rw [hl']
    refine List.map_congr_left fun j _ => ?_
    have e : (cutR rs j).map (List.take 2) = (cutR rs' j).map (List.take 2) := by
      rw [List.map_append, List.map_append, List.map_take, List.map_take, List.map_drop, List.map_drop, hpr]
    exact crv_ext fun u => conn_ext (fun a b => by rw [tie_iff (sub j hr.rows), tie_iff (sub j hr'.rows), e]) u
  refine ⟨csOf rs a0 b0 (chg 0 ra rb), by unfold csOf; simp, fun k S => ⟨x_cross k S hn hr hl h0 h1 hab h2, ?_⟩⟩
  have := x_cross k S (m := m) (lamps := lamps) (b0 := b0) (rb := rb) hn hr' (by omega) h0 h1 hab h2
  rwa [hcs] at this
end K13
set_option Elab.async false
set_option linter.all false
set_option maxRecDepth 100000
namespace K13
open PySem PySem.Spec PyProof.Rows PL L2
/-- steps of a run -/
local macro_rules | `(tactic| walk_at "pl") => `(tactic| repeat' (first
  | ((with_reducible apply hyp_get); (with_reducible assumption))
  | ((with_reducible apply call_get); (with_reducible assumption))
  | (with_reducible exact ev_cst) | (with_reducible exact es_nil) | (with_reducible exact et_nil) | (with_reducible exact eo_none) | (with_reducible exact ss_nil) | (with_reducible exact ev_dict0) | (with_reducible exact t_bl) | (with_reducible exact b_add) | (with_reducible exact b_mulb) | (with_reducible exact b_pow18) | (with_reducible exact b_sub) | (with_reducible exact f_int) | (with_reducible exact f_max) | (with_reducible exact f_min) | (with_reducible exact t_scr0) | (with_reducible exact t_scr1) | (with_reducible exact f_intb) | (with_reducible exact f_len_tup) | (with_reducible exact f_len_scr) | (with_reducible exact f_list_tup) | (with_reducible exact unlk_free) | (with_reducible exact not_tt) | (with_reducible exact not_ff) | (with_reducible exact not_k) | (with_reducible exact isa_int) | (with_reducible exact isa_bl) | (with_reducible exact isa_tup) | (with_reducible exact isa_obj) | (with_reducible exact get0) | (with_reducible exact get1) | (with_reducible exact get2) | (with_reducible exact par2) | (with_reducible exact par3) | (with_reducible exact bind_nm) | (with_reducible exact sn_rt) | (with_reducible exact k_tf) | (with_reducible exact k_ft)
  | ((with_reducible apply env_get); exact rfl) | ((with_reducible apply sto_get); exact rfl) | ((with_reducible apply atI_get'); exact rfl) | ((with_reducible apply ixN_get'); exact rfl) | ((with_reducible apply ar_get); exact rfl) | ((with_reducible apply gl_get); exact rfl) | ((with_reducible apply perm_get); exact rfl) | ((with_reducible apply bind_get); exact rfl) | ((with_reducible apply pure_t); (first | (with_reducible assumption) | (simp only [D.pure, D.pures, O.pure, Bool.and_self, Bool.and_true, Bool.true_and, List.set_cons_zero, List.set_cons_succ, Int.toNat_zero, Int.toNat_one]; done))) | ((with_reducible apply pure_o); (first | (with_reducible assumption) | (simp only [D.pure, D.pures, O.pure, Bool.and_self, Bool.and_true, Bool.true_and, List.set_cons_zero, List.set_cons_succ, Int.toNat_zero, Int.toNat_one]; done))) | ((with_reducible apply pures_t); (first | (with_reducible assumption) | (simp only [D.pure, D.pures, O.pure, Bool.and_self, Bool.and_true, Bool.true_and, List.set_cons_zero, List.set_cons_succ, Int.toNat_zero, Int.toNat_one]; done))) | ((with_reducible apply le_line); exact rfl) | ((with_reducible apply compact_self); (first | (with_reducible assumption) | (simp only [D.pure, D.pures, O.pure, Bool.and_self, Bool.and_true, Bool.true_and, List.set_cons_zero, List.set_cons_succ, Int.toNat_zero, Int.toNat_one]; done))) | ((with_reducible apply compact_app); (first | (with_reducible assumption) | (simp only [D.pure, D.pures, O.pure, Bool.and_self, Bool.and_true, Bool.true_and, List.set_cons_zero, List.set_cons_succ, Int.toNat_zero, Int.toNat_one]; done))) | ((with_reducible apply compact_new0); (first | (with_reducible assumption) | (simp only [D.pure, D.pures, O.pure, Bool.and_self, Bool.and_true, Bool.true_and, List.set_cons_zero, List.set_cons_succ, Int.toNat_zero, Int.toNat_one]; done)))
  | ((with_reducible apply lt_line); exact rfl)
  | ((with_reducible apply sto_eq); (simp only [List.set_cons_zero, List.set_cons_succ, List.cons_append, List.nil_append, Int.toNat_zero, Int.toNat_one]; done))
  | ((with_reducible apply sto_eq); (try simp only [List.set_cons_zero, List.set_cons_succ, List.cons_append, List.nil_append, Int.toNat_zero, Int.toNat_one]); exact rfl)
  | ((with_reducible apply env_eq); (try simp only [List.set_cons_zero, List.set_cons_succ]); exact rfl)
  | ((with_reducible apply b_mul); omega) | ((with_reducible apply b_fdiv) <;> omega) | ((with_reducible apply b_mod); omega)
  | ((with_reducible apply c_lt_t); omega) | ((with_reducible apply c_lt_f); omega) | ((with_reducible apply c_le_t); omega) | ((with_reducible apply c_le_f); omega) | ((with_reducible apply c_gt_t); omega) | ((with_reducible apply c_gt_f); omega) | ((with_reducible apply c_ge_t); omega) | ((with_reducible apply c_ge_f); omega) | ((with_reducible apply c_eq_t); omega) | ((with_reducible apply c_eq_f); omega) | ((with_reducible apply c_ne_t); omega) | ((with_reducible apply c_ne_f); omega) | ((with_reducible apply room_le); omega)
  | (with_reducible exact c_lt) | (with_reducible exact c_le) | (with_reducible exact c_gt) | (with_reducible exact c_ge) | (with_reducible exact c_eq) | (with_reducible exact c_ne)
  | (with_reducible apply f_len_lst) | (with_reducible apply f_tup_lst) | (with_reducible apply f_list_lst) | (with_reducible apply i_lst) | (with_reducible apply i_tup) | (with_reducible apply i_scr) | (with_reducible apply p_lst2)
  | ((with_reducible apply compact_head0) <;> (first | (with_reducible assumption) | (simp only [D.pure, D.pures, O.pure, Bool.and_self, Bool.and_true, Bool.true_and, List.set_cons_zero, List.set_cons_succ, Int.toNat_zero, Int.toNat_one]; done))) | ((with_reducible apply compact_head) <;> (first | (with_reducible assumption) | (simp only [D.pure, D.pures, O.pure, Bool.and_self, Bool.and_true, Bool.true_and, List.set_cons_zero, List.set_cons_succ, Int.toNat_zero, Int.toNat_one]; done)))
  | (with_reducible refine k_tt ?_) | (with_reducible refine k_ff ?_)
  | (with_reducible apply ev_slot) | (with_reducible apply ev_glob) | (with_reducible apply ev_bin) | (with_reducible apply ev_neg) | (with_reducible apply ev_not') | (with_reducible apply ev_cmp) | (with_reducible apply ev_chn) | (with_reducible apply ch_last) | (with_reducible apply ch_more') | (with_reducible apply ev_and') | (with_reducible apply ev_or') | (with_reducible apply ev_ite') | (with_reducible apply es_cons) | (with_reducible apply ev_tup) | (with_reducible apply ev_lst) | (with_reducible apply ev_idx) | (with_reducible apply eo_some) | (with_reducible apply ev_slc) | (with_reducible apply ev_fld) | (with_reducible apply ev_isa) | (with_reducible apply ev_call) | (with_reducible apply ev_callK) | (with_reducible apply ev_bif) | (with_reducible apply ev_meth) | (with_reducible apply ev_mk) | (with_reducible apply ev_comp) | (with_reducible apply et_one) | (with_reducible apply xs_set2) | (with_reducible apply xs_par) | (with_reducible apply xs_put) | (with_reducible apply xs_expr) | (with_reducible apply xs_ret) | (with_reducible apply xs_ite') | (with_reducible apply xs_unp) | (with_reducible apply ss_cons') | (with_reducible apply sn_nx) | (with_reducible apply fin') | (with_reducible apply fn_rt) | (with_reducible apply fn_nx) | (with_reducible apply m_append2)))
/-- a land as a value -/
@[reducible] def landD (n : Nat) (rs : List (List Int)) (ws : List (Nat × List (List Int))) : D := .obj 0 [.int n, .tup (rs.map tI), .tup (ws.map webD)]
/-- a row that fits -/
def Row (ws : List (Nat × List (List Int))) (ra : List Int) : Prop := ra.length = ws.length ∧ ∀ (j : Nat) (v : Int), ra[j]? = some v → ∃ w, ws[j]? = some w ∧ 0 ≤ v ∧ v < w.1
theorem x_is_tree (k : Nat) (S : Store) {n : Nat} {rs : List (List Int)} {ws : List (Nat × List (List Int))} (h : rs.length < n) : callN P (k + 1) "is_tree" [landD n rs ws] S = some (.val (.bl true) S) := by
  have h1 : evE (ixOf P k) (.cmp .lt (.bif .len (.cons (.fld (.slot 0) 0 1) .nil)) (.fld (.slot 0) 0 0)) [some (landD n rs ws)] S = some (.val (.bl true) S) :=
    ev_cmp (ev_bif (es_cons (ev_fld (ev_slot rfl) rfl) es_nil) f_len_tup) (ev_fld (ev_slot rfl) rfl) (c_lt_t (by rw [List.length_map]; omega))
  exact r_is_tree (fin_rt' (ss_rt (xs_ret h1 (compact_self _ rfl))) (compact_self _ rfl))
theorem x_want_tree (k : Nat) (S : Store) {n : Nat} {rs : List (List Int)} {ws : List (Nat × List (List Int))} (h : rs.length < n) : callN P (k + 2) "want_tree" [landD n rs ws] S = some (.val .non S) := by
  have h1 : evE (ixOf P (k + 1)) (.not (.call "is_tree" (.cons (.slot 0) .nil) [] [])) [some (landD n rs ws)] S = some (.val (.bl false) S) :=
    ev_not' (ev_call (es_cons (ev_slot rfl) es_nil) (x_is_tree k S (ws := ws) h)) rfl rfl
  exact r_want_tree (fin_nx' (ss_nx (xs_ite_f h1 rfl (compact_self _ rfl) ss_nil) ss_nil) (compact_self _ rfl))
theorem between0 {ix : Ix} {env : PL.Env} {S : Store} {x n : Int} {a b : IE} (h1 : evE ix a env S = some (.val (.int x) S)) (h2 : evE ix b env S = some (.val (.int n) S)) (h0 : 0 ≤ x) (hx : x < n) : evE ix (.not (.chn (.cst (.int 0)) (.more .le a (.last .lt b)))) env S = some (.val (.bl false) S) :=
  ev_not' (ev_chn ev_cst (ch_more' h1 (c_le_t h0) (fun _ => ch_last h2 (c_lt_t hx)) (fun h => by cases h))) rfl rfl
theorem x_want_place (k : Nat) (S : Store) {n : Nat} {rs : List (List Int)} {ws : List (Nat × List (List Int))} {x : Int} (h0 : 0 ≤ x) (h1 : x < n) : callN P (k + 1) "want_place" [landD n rs ws, .int x] S = some (.val .non S) := by
  have h := between0 (ix := ixOf P k) (env := [some (landD n rs ws), some (.int x)]) (S := S) (a := .slot 1) (b := .fld (.slot 0) 0 0) (ev_slot rfl) (ev_fld (ev_slot rfl) rfl) h0 h1
  exact r_want_place (fin_nx' (ss_nx (xs_ite_f h rfl (compact_self _ rfl) ss_nil) ss_nil) (compact_self _ rfl))
theorem x_want_row (k : Nat) (S : Store) {n : Nat} {rs : List (List Int)} {ws : List (Nat × List (List Int))} {ra : List Int} (hws : ws.length = n) (h : Row ws ra) : callN P (k + 1) "want_row" [landD n rs ws, tI ra] S = some (.val .non S) := by
  have ht : evE (ixOf P k) (.cmp .ne (.bif .len (.cons (.slot 1) .nil)) (.fld (.slot 0) 0 0)) [some (landD n rs ws), some (tI ra), none, none] S = some (.val (.bl false) S) :=
    ev_cmp (ev_bif (es_cons (ev_slot rfl) es_nil) f_len_tup) (ev_fld (ev_slot rfl) rfl) (c_ne_f (by rw [List.length_map, h.1, hws]))
  obtain ⟨env', S', hf, ⟨rfl, e3', e4', rfl, _⟩⟩ := forI_inv (f := forF (ixOf P k) (.tup [.nm 2, .nm 3]) [.ite (.not (.chn (.cst (.int 0)) (.more .le (.slot 3) (.last .lt (.fld (.idx (.fld (.slot 0) 0 2) (.slot 2)) 1 0))))) [.raise 7 (.tup (.cons (.slot 2) .nil))] []]) (src := .free) (Inv := fun l env S' => S' = S ∧ ∃ e3 e4, env = [some (landD n rs ws), some (tI ra), e3, e4] ∧ ∀ d ∈ l, d ∈ enumD 0 (ra.map D.int)) (by
    rintro d r env S' ⟨rfl, e3, e4, rfl, hd⟩
    obtain ⟨j, x, hx, rfl⟩ := mem_enumD _ _ _ (hd d List.mem_cons_self)
    rw [List.getElem?_map] at hx
    obtain ⟨v, hv, rfl⟩ := Option.map_eq_some_iff.mp hx
    obtain ⟨w, hw, v0, v1⟩ := h.2 j v hv
    have hat : L2.atI (ws.map webD) (0 + (j : Int)) = some (webD w) := by
      rw [Int.zero_add]
      exact L2.atI_nat (by rw [List.getElem?_map, hw]; rfl)
    have hb := between0 (ix := ixOf P k) (env := [some (landD n rs ws), some (tI ra), some (.int (0 + (j : Int))), some (.int v)]) (S := S') (a := .slot 3) (b := .fld (.idx (.fld (.slot 0) 0 2) (.slot 2)) 1 0) (ev_slot rfl) (ev_fld (ev_idx (ev_fld (ev_slot rfl) rfl) (ev_slot rfl) (i_tup hat)) rfl) v0 v1
    exact ⟨trivial, _, _, .inl (ff_bind (env' := [some (landD n rs ws), some (tI ra), some (.int (0 + (j : Int))), some (.int v)]) rfl (ss_nx (xs_ite_f hb rfl (compact_self _ rfl) ss_nil) ss_nil)), rfl, _, _, rfl, fun d h => hd d (List.mem_cons_of_mem _ h)⟩) (fun _ _ _ => trivial) (enumD 0 (ra.map D.int)) [some (landD n rs ws), some (tI ra), none, none] S ⟨rfl, none, none, rfl, fun d h => h⟩
  exact r_want_row (fin_nx' (ss_nx (xs_ite_f ht rfl (compact_self _ rfl) ss_nil) (ss_nx (xs_for (it_enum_tup (ev_slot rfl) (compact_self _ (pures_ints ra))) (for_free hf)) ss_nil)) (compact_self _ rfl))
theorem x_want_state (k : Nat) (S : Store) {n : Nat} {rs : List (List Int)} {ws : List (Nat × List (List Int))} {a0 : Int} {ra : List Int} (hws : ws.length = n) (h0 : 0 ≤ a0) (h1 : a0 < n) (h : Row ws ra) : callN P (k + 2) "want_state" [landD n rs ws, .tup [.int a0, tI ra]] S = some (.val .non S) := by
  have c1 := x_want_place k S (rs := rs) (ws := ws) h0 h1
  have c2 := x_want_row k S (rs := rs) hws h
  exact r_want_state (fin_nx' (ss_nx (xs_expr (ev_call (es_cons (ev_slot rfl) (es_cons (ev_idx (ev_slot rfl) ev_cst (i_tup rfl)) es_nil)) c1) (compact_self _ rfl)) (ss_nx (xs_expr (ev_call (es_cons (ev_slot rfl) (es_cons (ev_idx (ev_slot rfl) ev_cst (i_tup rfl)) es_nil)) c2) (compact_self _ rfl)) ss_nil)) (compact_self _ rfl))
theorem x_crossings (k : Nat) (S : Store) {n : Nat} (hn : n ≤ 50) {rs : List (List Int)} {ws : List (Nat × List (List Int))} {a0 b0 : Int} {ra rb : List Int} {cs : List Int} (hl : rs.length < n) (hws : ws.length = n) (h0 : 0 ≤ a0) (h1 : a0 < n) (ha : Row ws ra) (g0 : 0 ≤ b0) (g1 : b0 < n) (hb : Row ws rb)
    (hc : callN P (k + 4) "crossings_of" [landD n rs ws, .tup [.int a0, tI ra], .tup [.int b0, tI rb]] S = some (.val (tI cs) S)) : callN P (k + 5) "crossings" [landD n rs ws, .tup [.int a0, tI ra], .tup [.int b0, tI rb]] S = some (.val (tI cs) S) := by
  have c1 := x_want_tree (k + 2) S (ws := ws) hl
  have c2 := x_want_state (k + 2) S (rs := rs) hws h0 h1 ha
  have c3 := x_want_state (k + 2) S (rs := rs) hws g0 g1 hb
  exact r_crossings (fin_rt' (ss_nx (xs_expr (ev_call (es_cons (ev_slot rfl) es_nil) c1) (compact_self _ rfl)) (ss_nx (xs_expr (ev_call (es_cons (ev_slot rfl) (es_cons (ev_slot rfl) es_nil)) c2) (compact_self _ rfl)) (ss_nx (xs_expr (ev_call (es_cons (ev_slot rfl) (es_cons (ev_slot rfl) es_nil)) c3) (compact_self _ rfl)) (ss_rt (xs_ret (ev_call (es_cons (ev_slot rfl) (es_cons (ev_slot rfl) (es_cons (ev_slot rfl) es_nil))) hc) (compact_self _ (tI_pure _))))))) (compact_self _ (tI_pure _)))
end K13
set_option Elab.async false
set_option linter.all false
set_option maxRecDepth 100000
namespace K13
open PySem PySem.Spec PyProof.Rows PL L2
/-- steps of a run -/
local macro_rules | `(tactic| walk_at "pl") => `(tactic| repeat' (first
  | ((with_reducible apply hyp_get); (with_reducible assumption))
  | ((with_reducible apply call_get); (with_reducible assumption))
  | (with_reducible exact ev_cst) | (with_reducible exact es_nil) | (with_reducible exact et_nil) | (with_reducible exact eo_none) | (with_reducible exact ss_nil) | (with_reducible exact ev_dict0) | (with_reducible exact t_bl) | (with_reducible exact b_add) | (with_reducible exact b_mulb) | (with_reducible exact b_pow18) | (with_reducible exact b_sub) | (with_reducible exact f_int) | (with_reducible exact f_max) | (with_reducible exact f_min) | (with_reducible exact t_scr0) | (with_reducible exact t_scr1) | (with_reducible exact f_intb) | (with_reducible exact f_len_tup) | (with_reducible exact f_len_scr) | (with_reducible exact f_list_tup) | (with_reducible exact unlk_free) | (with_reducible exact not_tt) | (with_reducible exact not_ff) | (with_reducible exact not_k) | (with_reducible exact isa_int) | (with_reducible exact isa_bl) | (with_reducible exact isa_tup) | (with_reducible exact isa_obj) | (with_reducible exact get0) | (with_reducible exact get1) | (with_reducible exact get2) | (with_reducible exact par2) | (with_reducible exact par3) | (with_reducible exact bind_nm) | (with_reducible exact sn_rt) | (with_reducible exact k_tf) | (with_reducible exact k_ft)
  | ((with_reducible apply env_get); exact rfl) | ((with_reducible apply sto_get); exact rfl) | ((with_reducible apply atI_get'); exact rfl) | ((with_reducible apply ixN_get'); exact rfl) | ((with_reducible apply ar_get); exact rfl) | ((with_reducible apply gl_get); exact rfl) | ((with_reducible apply perm_get); exact rfl) | ((with_reducible apply bind_get); exact rfl) | ((with_reducible apply pure_t); (first | (with_reducible assumption) | (simp only [D.pure, D.pures, O.pure, Bool.and_self, Bool.and_true, Bool.true_and, List.set_cons_zero, List.set_cons_succ, Int.toNat_zero, Int.toNat_one]; done))) | ((with_reducible apply pure_o); (first | (with_reducible assumption) | (simp only [D.pure, D.pures, O.pure, Bool.and_self, Bool.and_true, Bool.true_and, List.set_cons_zero, List.set_cons_succ, Int.toNat_zero, Int.toNat_one]; done))) | ((with_reducible apply pures_t); (first | (with_reducible assumption) | (simp only [D.pure, D.pures, O.pure, Bool.and_self, Bool.and_true, Bool.true_and, List.set_cons_zero, List.set_cons_succ, Int.toNat_zero, Int.toNat_one]; done))) | ((with_reducible apply le_line); exact rfl) | ((with_reducible apply compact_self); (first | (with_reducible assumption) | (simp only [D.pure, D.pures, O.pure, Bool.and_self, Bool.and_true, Bool.true_and, List.set_cons_zero, List.set_cons_succ, Int.toNat_zero, Int.toNat_one]; done))) | ((with_reducible apply compact_app); (first | (with_reducible assumption) | (simp only [D.pure, D.pures, O.pure, Bool.and_self, Bool.and_true, Bool.true_and, List.set_cons_zero, List.set_cons_succ, Int.toNat_zero, Int.toNat_one]; done))) | ((with_reducible apply compact_new0); (first | (with_reducible assumption) | (simp only [D.pure, D.pures, O.pure, Bool.and_self, Bool.and_true, Bool.true_and, List.set_cons_zero, List.set_cons_succ, Int.toNat_zero, Int.toNat_one]; done)))
  | ((with_reducible apply lt_line); exact rfl)
  | ((with_reducible apply sto_eq); (simp only [List.set_cons_zero, List.set_cons_succ, List.cons_append, List.nil_append, Int.toNat_zero, Int.toNat_one]; done))
  | ((with_reducible apply sto_eq); (try simp only [List.set_cons_zero, List.set_cons_succ, List.cons_append, List.nil_append, Int.toNat_zero, Int.toNat_one]); exact rfl)
  | ((with_reducible apply env_eq); (try simp only [List.set_cons_zero, List.set_cons_succ]); exact rfl)
  | ((with_reducible apply b_mul); omega) | ((with_reducible apply b_fdiv) <;> omega) | ((with_reducible apply b_mod); omega)
  | ((with_reducible apply c_lt_t); omega) | ((with_reducible apply c_lt_f); omega) | ((with_reducible apply c_le_t); omega) | ((with_reducible apply c_le_f); omega) | ((with_reducible apply c_gt_t); omega) | ((with_reducible apply c_gt_f); omega) | ((with_reducible apply c_ge_t); omega) | ((with_reducible apply c_ge_f); omega) | ((with_reducible apply c_eq_t); omega) | ((with_reducible apply c_eq_f); omega) | ((with_reducible apply c_ne_t); omega) | ((with_reducible apply c_ne_f); omega) | ((with_reducible apply room_le); omega)
  | (with_reducible exact c_lt) | (with_reducible exact c_le) | (with_reducible exact c_gt) | (with_reducible exact c_ge) | (with_reducible exact c_eq) | (with_reducible exact c_ne)
  | (with_reducible apply f_len_lst) | (with_reducible apply f_tup_lst) | (with_reducible apply f_list_lst) | (with_reducible apply i_lst) | (with_reducible apply i_tup) | (with_reducible apply i_scr) | (with_reducible apply p_lst2)
  | ((with_reducible apply compact_head0) <;> (first | (with_reducible assumption) | (simp only [D.pure, D.pures, O.pure, Bool.and_self, Bool.and_true, Bool.true_and, List.set_cons_zero, List.set_cons_succ, Int.toNat_zero, Int.toNat_one]; done))) | ((with_reducible apply compact_head) <;> (first | (with_reducible assumption) | (simp only [D.pure, D.pures, O.pure, Bool.and_self, Bool.and_true, Bool.true_and, List.set_cons_zero, List.set_cons_succ, Int.toNat_zero, Int.toNat_one]; done)))
  | (with_reducible refine k_tt ?_) | (with_reducible refine k_ff ?_)
  | (with_reducible apply ev_slot) | (with_reducible apply ev_glob) | (with_reducible apply ev_bin) | (with_reducible apply ev_neg) | (with_reducible apply ev_not') | (with_reducible apply ev_cmp) | (with_reducible apply ev_chn) | (with_reducible apply ch_last) | (with_reducible apply ch_more') | (with_reducible apply ev_and') | (with_reducible apply ev_or') | (with_reducible apply ev_ite') | (with_reducible apply es_cons) | (with_reducible apply ev_tup) | (with_reducible apply ev_lst) | (with_reducible apply ev_idx) | (with_reducible apply eo_some) | (with_reducible apply ev_slc) | (with_reducible apply ev_fld) | (with_reducible apply ev_isa) | (with_reducible apply ev_call) | (with_reducible apply ev_callK) | (with_reducible apply ev_bif) | (with_reducible apply ev_meth) | (with_reducible apply ev_mk) | (with_reducible apply ev_comp) | (with_reducible apply et_one) | (with_reducible apply xs_set2) | (with_reducible apply xs_par) | (with_reducible apply xs_put) | (with_reducible apply xs_expr) | (with_reducible apply xs_ret) | (with_reducible apply xs_ite') | (with_reducible apply xs_unp) | (with_reducible apply ss_cons') | (with_reducible apply sn_nx) | (with_reducible apply fin') | (with_reducible apply fn_rt) | (with_reducible apply fn_nx) | (with_reducible apply m_append2)))
/-- a drawn web, ahead of its making -/
@[reducible] def drawD (w : Nat × List (List Int)) : D := .tup [.int w.1, .tup (w.2.map tI)]
theorem drawD_pures : ∀ ws : List (Nat × List (List Int)), D.pures (ws.map drawD) = true
  | [] => rfl
  | w :: ws => by
    show D.pures (drawD w :: ws.map drawD) = true
    rw [D.pures, drawD_pures ws]
    show ((true && (D.pures (w.2.map tI) && true)) && true) = true
    rw [tI_pures]; rfl
theorem x_law_row (k : Nat) (R : Store) {a b : Int} {ws : List (Nat × List (List Int))} (h : Pok a b) (hw : ∀ w ∈ ws, 1 ≤ w.1 ∧ w.1 < 1000) (hl : ws.length ≤ 100) : ∃ ra a' b', Pok a' b' ∧ Row ws ra ∧ callN P (k + 2) "_law_row" [.loc 0, .tup (ws.map drawD)] (pool a b :: R) = some (.val (tI ra) (pool a' b' :: R)) := by
  have hcomp : ∀ (vs : List (Nat × List (List Int))) (acc : List Int) (a b : Int), (∀ w ∈ vs, 1 ≤ w.1 ∧ w.1 < 1000) → Pok a b → acc.length + vs.length ≤ 1000 → ∃ ra a' b', Pok a' b' ∧ Row vs ra ∧ compI (compF (ixOf P (k + 1)) (.call "_law_take" (.cons (.slot 0) (.cons (.slot 2) .nil)) [] []) (.tup [.nm 2, .nm 3]) .nil [2, 3] [some (.loc 0), some (.tup (ws.map drawD)), none, none]) .free (vs.map drawD) (acc.map D.int) (pool a b :: R) = some ((acc ++ ra).map D.int, pool a' b' :: R) := by
    intro vs
    induction vs with
    | nil =>
      intro acc a b _ h _
      refine ⟨[], a, b, h, ⟨rfl, fun j v hj => by simp at hj⟩, ?_⟩
      unfold compI
      rw [List.map_nil, List.append_nil]
      exact if_pos trivial
    | cons w vs ih =>
      intro acc a b hw h hl
      have hw0 := hw w List.mem_cons_self
      obtain ⟨r, a1, b1, hp, r0, r1, hc⟩ := x_law_take k R h (top := w.1) (by omega) (by omega)
      simp only [List.length_cons] at hl
      obtain ⟨ra, a2, b2, hp2, hrow, hcc⟩ := ih (acc ++ [r]) a1 b1 (fun w h => hw w (List.mem_cons_of_mem _ h)) hp (by simp only [List.length_append, List.length_cons, List.length_nil]; omega)
      refine ⟨r :: ra, a2, b2, hp2, ⟨by simp only [List.length_cons]; rw [hrow.1], ?_⟩, ?_⟩
      · intro j v hj
        cases j with
        | zero =>
          simp only [List.getElem?_cons_zero, Option.some.injEq] at hj
          subst hj
          exact ⟨w, rfl, r0, r1⟩
        | succ j =>
          rw [List.getElem?_cons_succ] at hj
          exact hrow.2 j v hj
      · have hf : compF (ixOf P (k + 1)) (.call "_law_take" (.cons (.slot 0) (.cons (.slot 2) .nil)) [] []) (.tup [.nm 2, .nm 3]) .nil [2, 3] [some (.loc 0), some (.tup (ws.map drawD)), none, none] (drawD w) (pool a b :: R) = some (some (.int r), pool a1 b1 :: R) :=
          cf_t (env' := [some (.loc 0), some (.tup (ws.map drawD)), some (.int w.1), some (.tup (w.2.map tI))]) rfl et_nil (ev_call (es_cons (ev_slot rfl) (es_cons (ev_slot rfl) es_nil)) hc) (compact_head0 R rfl rfl)
        rw [List.map_cons]
        unfold compI
        rw [if_pos (show Src.ok _ .free from trivial), hf]
        dsimp only
        rw [if_pos (by rw [List.length_map]; show _ < 16777216; omega)]
        rw [List.map_append] at hcc
        rw [show acc.map D.int ++ [D.int r] = acc.map D.int ++ [r].map D.int from rfl, hcc]
        simp
  obtain ⟨ra, a', b', hp, hrow, hcc⟩ := hcomp ws [] a b hw h (by simp only [List.length_nil]; omega)
  refine ⟨ra, a', b', hp, hrow, ?_⟩
  rw [List.map_nil, List.nil_append] at hcc
  have hr : exS (ixOf P (k + 1)) (.ret (.bif .tuple (.cons (.comp (.call "_law_take" (.cons (.slot 0) (.cons (.slot 2) .nil)) [] []) (.tup [.nm 2, .nm 3]) (.val (.slot 1)) (.nil) [2, 3]) .nil))) [some (.loc 0), some (.tup (ws.map drawD)), none, none] (pool a b :: R) = some (.rt (tI ra) (pool a' b' :: R)) :=
    xs_ret (ev_bif (es_cons (ev_comp (it_tup' (ev_slot rfl) (compact_self _ (drawD_pures ws))) hcc (unlk_free ..)) es_nil) (f_tup_lst List.getElem?_concat_length)) (compact_head R _ rfl (tI_pure _))
  exact r__law_row (fin_rt' (ss_rt hr) (compact_head0 R rfl (tI_pure _)))
theorem x_law_state (k : Nat) (R : Store) {a b : Int} {ws : List (Nat × List (List Int))} (h : Pok a b) (hw : ∀ w ∈ ws, 1 ≤ w.1 ∧ w.1 < 1000) (h1 : 1 ≤ ws.length) (hl : ws.length ≤ 100) : ∃ a0 ra a' b', Pok a' b' ∧ 0 ≤ a0 ∧ a0 < (ws.length : Int) ∧ Row ws ra ∧ callN P (k + 3) "_law_state" [.loc 0, .tup (ws.map drawD)] (pool a b :: R) = some (.val (.tup [.int a0, tI ra]) (pool a' b' :: R)) := by
  obtain ⟨r, a1, b1, hp, r0, r1, hc⟩ := x_law_take (k + 1) R h (top := ws.length) (by omega) (by omega)
  obtain ⟨ra, a2, b2, hp2, hrow, hc2⟩ := x_law_row k R hp hw hl
  refine ⟨r, ra, a2, b2, hp2, r0, r1, hrow, ?_⟩
  have hlen : evE (ixOf P (k + 2)) (.bif .len (.cons (.slot 1) .nil)) [some (.loc 0), some (.tup (ws.map drawD))] (pool a b :: R) = some (.val (.int ws.length) (pool a b :: R)) := by
    have := ev_bif (ix := ixOf P (k + 2)) (f := .len) (env := [some (.loc 0), some (.tup (ws.map drawD))]) (S := pool a b :: R) (es := .cons (.slot 1) .nil) (es_cons (ev_slot rfl) es_nil) (f_len_tup (l := ws.map drawD))
    rwa [List.length_map] at this
  have hpu : (D.tup [.int r, tI ra]).pure = true := by
    show (true && (D.pures (ra.map D.int) && true)) = true
    rw [pures_ints]; rfl
  exact r__law_state (fin_rt' (ss_rt (xs_ret (ev_tup (es_cons (ev_call (es_cons (ev_slot rfl) (es_cons hlen es_nil)) hc) (es_cons (ev_call (es_cons (ev_slot rfl) (es_cons (ev_slot rfl) es_nil)) hc2) es_nil)) (le_line rfl)) (compact_head0 R rfl hpu))) (compact_head0 R rfl hpu))
end K13
set_option Elab.async false
set_option linter.all false
set_option maxRecDepth 100000
namespace K13
open PySem PySem.Spec PyProof.Rows PL L2
/-- steps of a run -/
local macro_rules | `(tactic| walk_at "pl") => `(tactic| repeat' (first
  | ((with_reducible apply hyp_get); (with_reducible assumption))
  | ((with_reducible apply call_get); (with_reducible assumption))
  | (with_reducible exact ev_cst) | (with_reducible exact es_nil) | (with_reducible exact et_nil) | (with_reducible exact eo_none) | (with_reducible exact ss_nil) | (with_reducible exact ev_dict0) | (with_reducible exact t_bl) | (with_reducible exact b_add) | (with_reducible exact b_mulb) | (with_reducible exact b_pow18) | (with_reducible exact b_sub) | (with_reducible exact f_int) | (with_reducible exact f_max) | (with_reducible exact f_min) | (with_reducible exact t_scr0) | (with_reducible exact t_scr1) | (with_reducible exact f_intb) | (with_reducible exact f_len_tup) | (with_reducible exact f_len_scr) | (with_reducible exact f_list_tup) | (with_reducible exact unlk_free) | (with_reducible exact not_tt) | (with_reducible exact not_ff) | (with_reducible exact not_k) | (with_reducible exact isa_int) | (with_reducible exact isa_bl) | (with_reducible exact isa_tup) | (with_reducible exact isa_obj) | (with_reducible exact get0) | (with_reducible exact get1) | (with_reducible exact get2) | (with_reducible exact par2) | (with_reducible exact par3) | (with_reducible exact bind_nm) | (with_reducible exact sn_rt) | (with_reducible exact k_tf) | (with_reducible exact k_ft)
  | ((with_reducible apply env_get); exact rfl) | ((with_reducible apply sto_get); exact rfl) | ((with_reducible apply atI_get'); exact rfl) | ((with_reducible apply ixN_get'); exact rfl) | ((with_reducible apply ar_get); exact rfl) | ((with_reducible apply gl_get); exact rfl) | ((with_reducible apply perm_get); exact rfl) | ((with_reducible apply bind_get); exact rfl) | ((with_reducible apply pure_t); (first | (with_reducible assumption) | (simp only [D.pure, D.pures, O.pure, Bool.and_self, Bool.and_true, Bool.true_and, List.set_cons_zero, List.set_cons_succ, Int.toNat_zero, Int.toNat_one]; done))) | ((with_reducible apply pure_o); (first | (with_reducible assumption) | (simp only [D.pure, D.pures, O.pure, Bool.and_self, Bool.and_true, Bool.true_and, List.set_cons_zero, List.set_cons_succ, Int.toNat_zero, Int.toNat_one]; done))) | ((with_reducible apply pures_t); (first | (with_reducible assumption) | (simp only [D.pure, D.pures, O.pure, Bool.and_self, Bool.and_true, Bool.true_and, List.set_cons_zero, List.set_cons_succ, Int.toNat_zero, Int.toNat_one]; done))) | ((with_reducible apply le_line); exact rfl) | ((with_reducible apply compact_self); (first | (with_reducible assumption) | (simp only [D.pure, D.pures, O.pure, Bool.and_self, Bool.and_true, Bool.true_and, List.set_cons_zero, List.set_cons_succ, Int.toNat_zero, Int.toNat_one]; done))) | ((with_reducible apply compact_app); (first | (with_reducible assumption) | (simp only [D.pure, D.pures, O.pure, Bool.and_self, Bool.and_true, Bool.true_and, List.set_cons_zero, List.set_cons_succ, Int.toNat_zero, Int.toNat_one]; done))) | ((with_reducible apply compact_new0); (first | (with_reducible assumption) | (simp only [D.pure, D.pures, O.pure, Bool.and_self, Bool.and_true, Bool.true_and, List.set_cons_zero, List.set_cons_succ, Int.toNat_zero, Int.toNat_one]; done)))
  | ((with_reducible apply lt_line); exact rfl)
  | ((with_reducible apply sto_eq); (simp only [List.set_cons_zero, List.set_cons_succ, List.cons_append, List.nil_append, Int.toNat_zero, Int.toNat_one]; done))
  | ((with_reducible apply sto_eq); (try simp only [List.set_cons_zero, List.set_cons_succ, List.cons_append, List.nil_append, Int.toNat_zero, Int.toNat_one]); exact rfl)
  | ((with_reducible apply env_eq); (try simp only [List.set_cons_zero, List.set_cons_succ]); exact rfl)
  | ((with_reducible apply b_mul); omega) | ((with_reducible apply b_fdiv) <;> omega) | ((with_reducible apply b_mod); omega)
  | ((with_reducible apply c_lt_t); omega) | ((with_reducible apply c_lt_f); omega) | ((with_reducible apply c_le_t); omega) | ((with_reducible apply c_le_f); omega) | ((with_reducible apply c_gt_t); omega) | ((with_reducible apply c_gt_f); omega) | ((with_reducible apply c_ge_t); omega) | ((with_reducible apply c_ge_f); omega) | ((with_reducible apply c_eq_t); omega) | ((with_reducible apply c_eq_f); omega) | ((with_reducible apply c_ne_t); omega) | ((with_reducible apply c_ne_f); omega) | ((with_reducible apply room_le); omega)
  | (with_reducible exact c_lt) | (with_reducible exact c_le) | (with_reducible exact c_gt) | (with_reducible exact c_ge) | (with_reducible exact c_eq) | (with_reducible exact c_ne)
  | (with_reducible apply f_len_lst) | (with_reducible apply f_tup_lst) | (with_reducible apply f_list_lst) | (with_reducible apply i_lst) | (with_reducible apply i_tup) | (with_reducible apply i_scr) | (with_reducible apply p_lst2)
  | ((with_reducible apply compact_head0) <;> (first | (with_reducible assumption) | (simp only [D.pure, D.pures, O.pure, Bool.and_self, Bool.and_true, Bool.true_and, List.set_cons_zero, List.set_cons_succ, Int.toNat_zero, Int.toNat_one]; done))) | ((with_reducible apply compact_head) <;> (first | (with_reducible assumption) | (simp only [D.pure, D.pures, O.pure, Bool.and_self, Bool.and_true, Bool.true_and, List.set_cons_zero, List.set_cons_succ, Int.toNat_zero, Int.toNat_one]; done)))
  | (with_reducible refine k_tt ?_) | (with_reducible refine k_ff ?_)
  | (with_reducible apply ev_slot) | (with_reducible apply ev_glob) | (with_reducible apply ev_bin) | (with_reducible apply ev_neg) | (with_reducible apply ev_not') | (with_reducible apply ev_cmp) | (with_reducible apply ev_chn) | (with_reducible apply ch_last) | (with_reducible apply ch_more') | (with_reducible apply ev_and') | (with_reducible apply ev_or') | (with_reducible apply ev_ite') | (with_reducible apply es_cons) | (with_reducible apply ev_tup) | (with_reducible apply ev_lst) | (with_reducible apply ev_idx) | (with_reducible apply eo_some) | (with_reducible apply ev_slc) | (with_reducible apply ev_fld) | (with_reducible apply ev_isa) | (with_reducible apply ev_call) | (with_reducible apply ev_callK) | (with_reducible apply ev_bif) | (with_reducible apply ev_meth) | (with_reducible apply ev_mk) | (with_reducible apply ev_comp) | (with_reducible apply et_one) | (with_reducible apply xs_set2) | (with_reducible apply xs_par) | (with_reducible apply xs_put) | (with_reducible apply xs_expr) | (with_reducible apply xs_ret) | (with_reducible apply xs_ite') | (with_reducible apply xs_unp) | (with_reducible apply ss_cons') | (with_reducible apply sn_nx) | (with_reducible apply fin') | (with_reducible apply fn_rt) | (with_reducible apply fn_nx) | (with_reducible apply m_append2)))
/-- a drawn web that passes -/
structure WebOk (w : Nat × List (List Int)) : Prop where
  lo : 1 ≤ w.1
  hi : w.1 ≤ 6
  good : Good w.1 w.2
  few : w.2.length ≤ 100
  whole : ∀ y : Int, 0 ≤ y → y < w.1 → Conn w.2 0 y
end K13
set_option Elab.async false
set_option linter.all false
set_option maxRecDepth 100000
namespace K13
open PySem PySem.Spec PyProof.Rows PL L2
/-- steps of a run -/
local macro_rules | `(tactic| walk_at "pl") => `(tactic| repeat' (first
  | ((with_reducible apply hyp_get); (with_reducible assumption))
  | ((with_reducible apply call_get); (with_reducible assumption))
  | (with_reducible exact ev_cst) | (with_reducible exact es_nil) | (with_reducible exact et_nil) | (with_reducible exact eo_none) | (with_reducible exact ss_nil) | (with_reducible exact ev_dict0) | (with_reducible exact t_bl) | (with_reducible exact b_add) | (with_reducible exact b_mulb) | (with_reducible exact b_pow18) | (with_reducible exact b_sub) | (with_reducible exact f_int) | (with_reducible exact f_max) | (with_reducible exact f_min) | (with_reducible exact t_scr0) | (with_reducible exact t_scr1) | (with_reducible exact f_intb) | (with_reducible exact f_len_tup) | (with_reducible exact f_len_scr) | (with_reducible exact f_list_tup) | (with_reducible exact unlk_free) | (with_reducible exact not_tt) | (with_reducible exact not_ff) | (with_reducible exact not_k) | (with_reducible exact isa_int) | (with_reducible exact isa_bl) | (with_reducible exact isa_tup) | (with_reducible exact isa_obj) | (with_reducible exact get0) | (with_reducible exact get1) | (with_reducible exact get2) | (with_reducible exact par2) | (with_reducible exact par3) | (with_reducible exact bind_nm) | (with_reducible exact sn_rt) | (with_reducible exact k_tf) | (with_reducible exact k_ft)
  | ((with_reducible apply env_get); exact rfl) | ((with_reducible apply sto_get); exact rfl) | ((with_reducible apply atI_get'); exact rfl) | ((with_reducible apply ixN_get'); exact rfl) | ((with_reducible apply ar_get); exact rfl) | ((with_reducible apply gl_get); exact rfl) | ((with_reducible apply perm_get); exact rfl) | ((with_reducible apply bind_get); exact rfl) | ((with_reducible apply pure_t); (first | (with_reducible assumption) | (simp only [D.pure, D.pures, O.pure, Bool.and_self, Bool.and_true, Bool.true_and, List.set_cons_zero, List.set_cons_succ, Int.toNat_zero, Int.toNat_one]; done))) | ((with_reducible apply pure_o); (first | (with_reducible assumption) | (simp only [D.pure, D.pures, O.pure, Bool.and_self, Bool.and_true, Bool.true_and, List.set_cons_zero, List.set_cons_succ, Int.toNat_zero, Int.toNat_one]; done))) | ((with_reducible apply pures_t); (first | (with_reducible assumption) | (simp only [D.pure, D.pures, O.pure, Bool.and_self, Bool.and_true, Bool.true_and, List.set_cons_zero, List.set_cons_succ, Int.toNat_zero, Int.toNat_one]; done))) | ((with_reducible apply le_line); exact rfl) | ((with_reducible apply compact_self); (first | (with_reducible assumption) | (simp only [D.pure, D.pures, O.pure, Bool.and_self, Bool.and_true, Bool.true_and, List.set_cons_zero, List.set_cons_succ, Int.toNat_zero, Int.toNat_one]; done))) | ((with_reducible apply compact_app); (first | (with_reducible assumption) | (simp only [D.pure, D.pures, O.pure, Bool.and_self, Bool.and_true, Bool.true_and, List.set_cons_zero, List.set_cons_succ, Int.toNat_zero, Int.toNat_one]; done))) | ((with_reducible apply compact_new0); (first | (with_reducible assumption) | (simp only [D.pure, D.pures, O.pure, Bool.and_self, Bool.and_true, Bool.true_and, List.set_cons_zero, List.set_cons_succ, Int.toNat_zero, Int.toNat_one]; done)))
  | ((with_reducible apply lt_line); exact rfl)
  | ((with_reducible apply sto_eq); (simp only [List.set_cons_zero, List.set_cons_succ, List.cons_append, List.nil_append, Int.toNat_zero, Int.toNat_one]; done))
  | ((with_reducible apply sto_eq); (try simp only [List.set_cons_zero, List.set_cons_succ, List.cons_append, List.nil_append, Int.toNat_zero, Int.toNat_one]); exact rfl)
  | ((with_reducible apply env_eq); (try simp only [List.set_cons_zero, List.set_cons_succ]); exact rfl)
  | ((with_reducible apply b_mul); omega) | ((with_reducible apply b_fdiv) <;> omega) | ((with_reducible apply b_mod); omega)
  | ((with_reducible apply c_lt_t); omega) | ((with_reducible apply c_lt_f); omega) | ((with_reducible apply c_le_t); omega) | ((with_reducible apply c_le_f); omega) | ((with_reducible apply c_gt_t); omega) | ((with_reducible apply c_gt_f); omega) | ((with_reducible apply c_ge_t); omega) | ((with_reducible apply c_ge_f); omega) | ((with_reducible apply c_eq_t); omega) | ((with_reducible apply c_eq_f); omega) | ((with_reducible apply c_ne_t); omega) | ((with_reducible apply c_ne_f); omega) | ((with_reducible apply room_le); omega)
  | (with_reducible exact c_lt) | (with_reducible exact c_le) | (with_reducible exact c_gt) | (with_reducible exact c_ge) | (with_reducible exact c_eq) | (with_reducible exact c_ne)
  | (with_reducible apply f_len_lst) | (with_reducible apply f_tup_lst) | (with_reducible apply f_list_lst) | (with_reducible apply i_lst) | (with_reducible apply i_tup) | (with_reducible apply i_scr) | (with_reducible apply p_lst2)
  | ((with_reducible apply compact_head0) <;> (first | (with_reducible assumption) | (simp only [D.pure, D.pures, O.pure, Bool.and_self, Bool.and_true, Bool.true_and, List.set_cons_zero, List.set_cons_succ, Int.toNat_zero, Int.toNat_one]; done))) | ((with_reducible apply compact_head) <;> (first | (with_reducible assumption) | (simp only [D.pure, D.pures, O.pure, Bool.and_self, Bool.and_true, Bool.true_and, List.set_cons_zero, List.set_cons_succ, Int.toNat_zero, Int.toNat_one]; done)))
  | (with_reducible refine k_tt ?_) | (with_reducible refine k_ff ?_)
  | (with_reducible apply ev_slot) | (with_reducible apply ev_glob) | (with_reducible apply ev_bin) | (with_reducible apply ev_neg) | (with_reducible apply ev_not') | (with_reducible apply ev_cmp) | (with_reducible apply ev_chn) | (with_reducible apply ch_last) | (with_reducible apply ch_more') | (with_reducible apply ev_and') | (with_reducible apply ev_or') | (with_reducible apply ev_ite') | (with_reducible apply es_cons) | (with_reducible apply ev_tup) | (with_reducible apply ev_lst) | (with_reducible apply ev_idx) | (with_reducible apply eo_some) | (with_reducible apply ev_slc) | (with_reducible apply ev_fld) | (with_reducible apply ev_isa) | (with_reducible apply ev_call) | (with_reducible apply ev_callK) | (with_reducible apply ev_bif) | (with_reducible apply ev_meth) | (with_reducible apply ev_mk) | (with_reducible apply ev_comp) | (with_reducible apply et_one) | (with_reducible apply xs_set2) | (with_reducible apply xs_par) | (with_reducible apply xs_put) | (with_reducible apply xs_expr) | (with_reducible apply xs_ret) | (with_reducible apply xs_ite') | (with_reducible apply xs_unp) | (with_reducible apply ss_cons') | (with_reducible apply sn_nx) | (with_reducible apply fin') | (with_reducible apply fn_rt) | (with_reducible apply fn_nx) | (with_reducible apply m_append2)))
theorem eqvAll_ints : ∀ a b : List Int, PyData.eqvAll (a.map .int) (b.map .int) = decide (a = b)
  | [], [] => by simp [PyData.eqvAll]
  | [], y :: b => by simp [PyData.eqvAll]
  | x :: a, [] => by simp [PyData.eqvAll]
  | x :: a, y :: b => by
    have ih := eqvAll_ints a b
    show PyData.eqvAll (PyData.int x :: a.map .int) (PyData.int y :: b.map .int) = _
    rw [PyData.eqvAll, ih, PyData.eqv]
    by_cases h : x = y <;> by_cases h2 : a = b <;> simp [h, h2]
theorem any_rows (U : List (List Int)) (r : List Int) : ((D.pys (U.map tI)).any fun z => PyData.eqv z (tI r).py) = decide (r ∈ U) := by
  induction U with
  | nil => rfl
  | cons u U ih =>
    have e : ((D.pys ((u :: U).map tI)).any fun z => PyData.eqv z (tI r).py) = (PyData.eqv (tI u).py (tI r).py || (D.pys (U.map tI)).any fun z => PyData.eqv z (tI r).py) := rfl
    rw [e, ih, tI_py, tI_py, PyData.eqv, eqvAll_ints]
    by_cases h : u = r
    · simp [h]
    · have h' : ¬ r = u := fun e => h e.symm
      simp [h, h']
theorem c_notin_rows {S : Store} {n : Nat} {U : List (List Int)} {r : List Int} (h : S[n]? = some (.lst (U.map tI))) : cmpD .notin (tI r) (.loc n) S = some (!decide (r ∈ U)) := by
  unfold cmpD
  dsimp only
  have e : inD S (tI r) (.loc n) = some (decide (r ∈ U)) := by
    unfold inD
    dsimp only
    rw [h]
    dsimp only
    have q : ((D.tup (r.map D.int)).plain && D.plains (U.map tI) && decide ((D.tup (r.map D.int)).py.depth ≤ bigEnough) && decide (PyData.depthAll (D.pys (U.map tI)) ≤ bigEnough)) = true := by
      rw [show (D.tup (r.map D.int)).plain = true from plains_ints r, tI_plains, tI_pys, show (D.tup (r.map D.int)).py = .tuple (r.map .int) from tI_py r, PyData.depth, PySem.W.depth_ints]
      have := tI_depths U
      rw [decide_eq_true (Nat.le_trans this (by decide))]; rfl
    rw [if_pos q]
    exact congrArg some (any_rows U r)
  rw [e]; rfl
/-- the head and the tail written -/
theorem kept_ht {o o' : O} (R : Store) {T T' U : Store} (ho : o'.pure = true) (hl : T.length = T'.length) (hp : ∀ o ∈ T', o.pure = true) : Kept (o :: (R ++ T)) (o' :: (R ++ T' ++ U)) := by
  have hk := kept_tail R (U := U) hl hp
  refine ⟨by simp [hl], fun n q h e => ?_⟩
  cases n with
  | zero => simp at e; subst e; exact .inr ho
  | succ n =>
    simp only [List.length_cons, Nat.add_lt_add_iff_right] at h
    simp only [List.getElem?_cons_succ] at e ⊢
    exact hk.2 n q h e
theorem compact_ht {o o' : O} {d : D} (R : Store) {T T' : Store} (ho : o'.pure = true) (hl : T.length = T'.length) (hp : ∀ o ∈ T', o.pure = true) (hd : d.pure = true) : compact (o :: (R ++ T)) (d, o' :: (R ++ T')) = (d, o' :: (R ++ T')) := by
  have hk := kept_ht (o := o) R (U := []) ho hl hp
  rw [List.append_nil] at hk
  rw [compact_pure hk hd]
  have e : (o :: (R ++ T)).length = (o' :: (R ++ T')).length := by simp [hl]
  rw [e, List.take_length]
theorem compact_imp {l : List D} {S S' : Store} (h : (D.tup l).pure = false) : compact S (.tup l, S') = (.tup l, S') := by
  unfold compact
  split
  · rw [if_neg (by rw [h]; decide)]
  · rfl
theorem Tie.symm {rs : List (List Int)} {x y : Int} (h : Tie rs x y) : Tie rs y x := by
  obtain ⟨l, h⟩ := h
  exact ⟨l, h.symm⟩
theorem Conn.trans {rs : List (List Int)} {x y z : Int} (h : Conn rs x y) (h2 : Conn rs y z) : Conn rs x z := by
  induction h2 with
  | refl => exact h
  | step _ ht ih => exact .step ih ht
theorem Conn.symm {rs : List (List Int)} {x y : Int} (h : Conn rs x y) : Conn rs y x := by
  induction h with
  | refl => exact .refl
  | step _ ht ih => exact Conn.trans (.step .refl ht.symm) ih
/-- the pairs that are free -/
def frees (U : List (List Int)) (q : Int) : List (List Int) := (List.range q.toNat).filterMap fun (i : Nat) => if [(i : Int), q] ∈ U then none else some [(i : Int), q]
def frD (U : List (List Int)) (q : Int) : D → Option D
  | .int p => if [p, q] ∈ U then none else some (tI [p, q])
  | _ => none
theorem frees_map (U : List (List Int)) {q : Int} (hq : 0 ≤ q) : (rangeD 0 q).filterMap (frD U q) = (frees U q).map tI := by
  unfold rangeD frees
  rw [List.filterMap_map, List.map_filterMap]
  have e : (q - 0).toNat = q.toNat := by omega
  rw [e]
  congr 1
  funext i
  show frD U q (.int (0 + (i : Int))) = _
  rw [Int.zero_add]
  unfold frD
  dsimp only
  split <;> rfl
theorem mem_frees {U : List (List Int)} {q : Int} {t : List Int} : t ∈ frees U q ↔ ∃ p : Int, t = [p, q] ∧ 0 ≤ p ∧ p < q ∧ [p, q] ∉ U := by
  unfold frees
  rw [List.mem_filterMap]
  constructor
  · rintro ⟨i, hi, e⟩
    rw [List.mem_range] at hi
    split at e
    · cases e
    · rename_i h
      cases e
      exact ⟨(i : Int), rfl, by omega, by omega, h⟩
  · rintro ⟨p, rfl, h0, h1, h2⟩
    refine ⟨p.toNat, List.mem_range.mpr (by omega), ?_⟩
    have e : ((p.toNat : Nat) : Int) = p := by omega
    rw [e, if_neg h2]
theorem frees_len (U : List (List Int)) (q : Int) : (frees U q).length ≤ q.toNat := by
  unfold frees
  exact Nat.le_trans (List.length_filterMap_le _ _) (by rw [List.length_range]; exact Nat.le_refl _)
end K13
set_option Elab.async false
set_option linter.all false
set_option maxRecDepth 100000
namespace K13
open PySem PySem.Spec PyProof.Rows PL L2
/-- steps of a run -/
local macro_rules | `(tactic| walk_at "pl") => `(tactic| repeat' (first
  | ((with_reducible apply hyp_get); (with_reducible assumption))
  | ((with_reducible apply call_get); (with_reducible assumption))
  | (with_reducible exact ev_cst) | (with_reducible exact es_nil) | (with_reducible exact et_nil) | (with_reducible exact eo_none) | (with_reducible exact ss_nil) | (with_reducible exact ev_dict0) | (with_reducible exact t_bl) | (with_reducible exact b_add) | (with_reducible exact b_mulb) | (with_reducible exact b_pow18) | (with_reducible exact b_sub) | (with_reducible exact f_int) | (with_reducible exact f_max) | (with_reducible exact f_min) | (with_reducible exact t_scr0) | (with_reducible exact t_scr1) | (with_reducible exact f_intb) | (with_reducible exact f_len_tup) | (with_reducible exact f_len_scr) | (with_reducible exact f_list_tup) | (with_reducible exact unlk_free) | (with_reducible exact not_tt) | (with_reducible exact not_ff) | (with_reducible exact not_k) | (with_reducible exact isa_int) | (with_reducible exact isa_bl) | (with_reducible exact isa_tup) | (with_reducible exact isa_obj) | (with_reducible exact get0) | (with_reducible exact get1) | (with_reducible exact get2) | (with_reducible exact par2) | (with_reducible exact par3) | (with_reducible exact bind_nm) | (with_reducible exact sn_rt) | (with_reducible exact k_tf) | (with_reducible exact k_ft)
  | ((with_reducible apply env_get); exact rfl) | ((with_reducible apply sto_get); exact rfl) | ((with_reducible apply atI_get'); exact rfl) | ((with_reducible apply ixN_get'); exact rfl) | ((with_reducible apply ar_get); exact rfl) | ((with_reducible apply gl_get); exact rfl) | ((with_reducible apply perm_get); exact rfl) | ((with_reducible apply bind_get); exact rfl) | ((with_reducible apply pure_t); (first | (with_reducible assumption) | (simp only [D.pure, D.pures, O.pure, Bool.and_self, Bool.and_true, Bool.true_and, List.set_cons_zero, List.set_cons_succ, Int.toNat_zero, Int.toNat_one]; done))) | ((with_reducible apply pure_o); (first | (with_reducible assumption) | (simp only [D.pure, D.pures, O.pure, Bool.and_self, Bool.and_true, Bool.true_and, List.set_cons_zero, List.set_cons_succ, Int.toNat_zero, Int.toNat_one]; done))) | ((with_reducible apply pures_t); (first | (with_reducible assumption) | (simp only [D.pure, D.pures, O.pure, Bool.and_self, Bool.and_true, Bool.true_and, List.set_cons_zero, List.set_cons_succ, Int.toNat_zero, Int.toNat_one]; done))) | ((with_reducible apply le_line); exact rfl) | ((with_reducible apply compact_self); (first | (with_reducible assumption) | (simp only [D.pure, D.pures, O.pure, Bool.and_self, Bool.and_true, Bool.true_and, List.set_cons_zero, List.set_cons_succ, Int.toNat_zero, Int.toNat_one]; done))) | ((with_reducible apply compact_app); (first | (with_reducible assumption) | (simp only [D.pure, D.pures, O.pure, Bool.and_self, Bool.and_true, Bool.true_and, List.set_cons_zero, List.set_cons_succ, Int.toNat_zero, Int.toNat_one]; done))) | ((with_reducible apply compact_new0); (first | (with_reducible assumption) | (simp only [D.pure, D.pures, O.pure, Bool.and_self, Bool.and_true, Bool.true_and, List.set_cons_zero, List.set_cons_succ, Int.toNat_zero, Int.toNat_one]; done)))
  | ((with_reducible apply lt_line); exact rfl)
  | ((with_reducible apply sto_eq); (simp only [List.set_cons_zero, List.set_cons_succ, List.cons_append, List.nil_append, Int.toNat_zero, Int.toNat_one]; done))
  | ((with_reducible apply sto_eq); (try simp only [List.set_cons_zero, List.set_cons_succ, List.cons_append, List.nil_append, Int.toNat_zero, Int.toNat_one]); exact rfl)
  | ((with_reducible apply env_eq); (try simp only [List.set_cons_zero, List.set_cons_succ]); exact rfl)
  | ((with_reducible apply b_mul); omega) | ((with_reducible apply b_fdiv) <;> omega) | ((with_reducible apply b_mod); omega)
  | ((with_reducible apply c_lt_t); omega) | ((with_reducible apply c_lt_f); omega) | ((with_reducible apply c_le_t); omega) | ((with_reducible apply c_le_f); omega) | ((with_reducible apply c_gt_t); omega) | ((with_reducible apply c_gt_f); omega) | ((with_reducible apply c_ge_t); omega) | ((with_reducible apply c_ge_f); omega) | ((with_reducible apply c_eq_t); omega) | ((with_reducible apply c_eq_f); omega) | ((with_reducible apply c_ne_t); omega) | ((with_reducible apply c_ne_f); omega) | ((with_reducible apply room_le); omega)
  | (with_reducible exact c_lt) | (with_reducible exact c_le) | (with_reducible exact c_gt) | (with_reducible exact c_ge) | (with_reducible exact c_eq) | (with_reducible exact c_ne)
  | (with_reducible apply f_len_lst) | (with_reducible apply f_tup_lst) | (with_reducible apply f_list_lst) | (with_reducible apply i_lst) | (with_reducible apply i_tup) | (with_reducible apply i_scr) | (with_reducible apply p_lst2)
  | ((with_reducible apply compact_head0) <;> (first | (with_reducible assumption) | (simp only [D.pure, D.pures, O.pure, Bool.and_self, Bool.and_true, Bool.true_and, List.set_cons_zero, List.set_cons_succ, Int.toNat_zero, Int.toNat_one]; done))) | ((with_reducible apply compact_head) <;> (first | (with_reducible assumption) | (simp only [D.pure, D.pures, O.pure, Bool.and_self, Bool.and_true, Bool.true_and, List.set_cons_zero, List.set_cons_succ, Int.toNat_zero, Int.toNat_one]; done)))
  | (with_reducible refine k_tt ?_) | (with_reducible refine k_ff ?_)
  | (with_reducible apply ev_slot) | (with_reducible apply ev_glob) | (with_reducible apply ev_bin) | (with_reducible apply ev_neg) | (with_reducible apply ev_not') | (with_reducible apply ev_cmp) | (with_reducible apply ev_chn) | (with_reducible apply ch_last) | (with_reducible apply ch_more') | (with_reducible apply ev_and') | (with_reducible apply ev_or') | (with_reducible apply ev_ite') | (with_reducible apply es_cons) | (with_reducible apply ev_tup) | (with_reducible apply ev_lst) | (with_reducible apply ev_idx) | (with_reducible apply eo_some) | (with_reducible apply ev_slc) | (with_reducible apply ev_fld) | (with_reducible apply ev_isa) | (with_reducible apply ev_call) | (with_reducible apply ev_callK) | (with_reducible apply ev_bif) | (with_reducible apply ev_meth) | (with_reducible apply ev_mk) | (with_reducible apply ev_comp) | (with_reducible apply et_one) | (with_reducible apply xs_set2) | (with_reducible apply xs_par) | (with_reducible apply xs_put) | (with_reducible apply xs_expr) | (with_reducible apply xs_ret) | (with_reducible apply xs_ite') | (with_reducible apply xs_unp) | (with_reducible apply ss_cons') | (with_reducible apply sn_nx) | (with_reducible apply fin') | (with_reducible apply fn_rt) | (with_reducible apply fn_nx) | (with_reducible apply m_append2)))
@[reducible] def wst (X : Store) (rows fr U : List (List Int)) : Store := X ++ [O.lst (rows.map tI), O.lst (fr.map tI), O.lst (U.map tI)]
theorem wst_pure (rows fr U : List (List Int)) : ∀ o ∈ [O.lst (rows.map tI), O.lst (fr.map tI), O.lst (U.map tI)], o.pure = true := by
  intro o ho
  simp only [List.mem_cons, List.not_mem_nil, or_false] at ho
  rcases ho with h | h | h <;> subst h <;> exact tI_pures _
@[reducible] def wenv (d1 d2 : D) (X : Store) (many : Int) (e7 : Option D) : PL.Env := [some (.loc 0), some d1, some d2, some (.int many), some (.loc X.length), some (.loc (X.length + 1)), some (.loc (X.length + 2)), e7, none, none]
@[reducible] def wcomp : IE := .comp (.tup (.cons (.slot 9) (.cons (.slot 7) .nil))) (.nm 9) (.range1 (.slot 7)) (.cons (.cmp .notin (.tup (.cons (.slot 9) (.cons (.slot 7) .nil))) (.slot 6)) .nil) [9]
theorem free_in (k : Nat) (X : Store) {d1 d2 : D} {many q : Int} {e7 : Option D} {rows fr U : List (List Int)} (hq : 0 ≤ q) (hq2 : q < 1000) (hf : fr.length ≤ 1000000) :
    forF (ixOf P k) (.nm 7) [.expr (.meth .extend (.slot 5) (.cons wcomp .nil))] (.int q) (wenv d1 d2 X many e7) (wst X rows fr U) = some (.nx (wenv d1 d2 X many (some (.int q))) (wst X rows (fr ++ frees U q) U)) := by
  have g1 : (wst X rows fr U)[X.length + 1]? = some (O.lst (fr.map tI)) := getT X _ 1
  have g2 : (wst X rows fr U)[X.length + 2]? = some (O.lst (U.map tI)) := getT X _ 2
  refine ff_bind (env' := wenv d1 d2 X many (some (.int q))) rfl ?_
  have hok : okRange q = true := by
    unfold okRange
    rw [Bool.and_eq_true]
    exact ⟨decide_eq_true (by omega), decide_eq_true (by omega)⟩
  have hcomp := compI_fm (f := compF (ixOf P k) (.tup (.cons (.slot 9) (.cons (.slot 7) .nil))) (.nm 9) (.cons (.cmp .notin (.tup (.cons (.slot 9) (.cons (.slot 7) .nil))) (.slot 6)) .nil) [9] (wenv d1 d2 X many (some (.int q)))) (src := .free) (S := wst X rows fr U) (frD U q) trivial (rangeD 0 q) [] (by
    intro d hd
    obtain ⟨i, hi, rfl⟩ := List.mem_map.mp hd
    let E : PL.Env := [some (.loc 0), some d1, some d2, some (.int many), some (.loc X.length), some (.loc (X.length + 1)), some (.loc (X.length + 2)), some (.int q), none, some (.int (0 + (i : Int)))]
    have ht : evTs (ixOf P k) (.cons (.cmp .notin (.tup (.cons (.slot 9) (.cons (.slot 7) .nil))) (.slot 6)) .nil) E (wst X rows fr U) = some (.val (!decide ([0 + (i : Int), q] ∈ U)) (wst X rows fr U)) :=
      et_one (ev_cmp (ev_tup (es_cons (ev_slot rfl) (es_cons (ev_slot rfl) es_nil)) (le_line rfl)) (ev_slot rfl) (c_notin_rows (r := [0 + (i : Int), q]) g2)) rfl (compact_self _ rfl)
    by_cases hm : [0 + (i : Int), q] ∈ U
    · have e : frD U q (.int (0 + (i : Int))) = none := by unfold frD; dsimp only; rw [if_pos hm]
      rw [e]
      refine cf_f (env' := E) rfl (ht.trans ?_)
      rw [decide_eq_true hm]; rfl
    · have e : frD U q (.int (0 + (i : Int))) = some (tI [0 + (i : Int), q]) := by unfold frD; dsimp only; rw [if_neg hm]
      rw [e]
      refine cf_t (env' := E) rfl (ht.trans ?_) (ev_tup (es_cons (ev_slot rfl) (es_cons (ev_slot rfl) es_nil)) (le_line rfl)) (compact_self _ rfl)
      rw [decide_eq_false hm]; rfl) (by
    unfold rangeD
    rw [List.length_nil, List.length_map, List.length_range]; show _ ≤ 16777216; omega)
  rw [List.nil_append, frees_map U hq] at hcomp
  have hfl := frees_len U q
  have h1 : (wst X rows fr U ++ [O.lst ((frees U q).map tI)])[X.length + 1]? = some (O.lst (fr.map tI)) := by
    rw [List.getElem?_append_left (List.getElem?_eq_some_iff.mp g1).1]; exact g1
  have hm := m_extend h1 (List.getElem?_concat_length (l := wst X rows fr U) (a := O.lst ((frees U q).map tI))) (by rw [List.length_map, List.length_map]; show _ ≤ 16777216; omega)
  have e1 : (wst X rows fr U ++ [O.lst ((frees U q).map tI)]).set (X.length + 1) (O.lst (fr.map tI ++ (frees U q).map tI)) = wst X rows (fr ++ frees U q) U ++ [O.lst ((frees U q).map tI)] := by
    rw [List.append_assoc, setT, ← List.map_append, List.append_assoc]; rfl
  rw [e1] at hm
  have hext : exS (ixOf P k) (.expr (.meth .extend (.slot 5) (.cons wcomp .nil))) (wenv d1 d2 X many (some (.int q))) (wst X rows fr U) = some (.nx (wenv d1 d2 X many (some (.int q))) (wst X rows (fr ++ frees U q) U)) :=
    xs_expr (ev_meth (ev_slot rfl) (recv_ext g1) (es_cons (ev_comp (it_range1' (ev_slot rfl) hok (compact_self _ rfl)) hcomp unlk_free) es_nil) hm) (compact_tail X _ rfl (wst_pure _ _ _) rfl)
  exact ss_nx hext ss_nil
theorem free_for (k : Nat) (X : Store) {d1 d2 : D} {many : Int} {rows U : List (List Int)} (hm : many ≤ 6) : ∀ (n : Nat) (x : Int) (e7 : Option D) (fr : List (List Int)), (many - x).toNat = n → 0 ≤ x → x ≤ many → fr.length ≤ 10 * x.toNat → (∀ t, t ∈ fr ↔ ∃ p q : Int, t = [p, q] ∧ 0 ≤ p ∧ p < q ∧ q < x ∧ [p, q] ∉ U) →
    ∃ fr' e7', forI (forF (ixOf P k) (.nm 7) [.expr (.meth .extend (.slot 5) (.cons wcomp .nil))]) .free (rangeD x many) (wenv d1 d2 X many e7) (wst X rows fr U) = some (.nx (wenv d1 d2 X many e7') (wst X rows fr' U)) ∧ fr'.length ≤ 10 * many.toNat ∧ ∀ t, t ∈ fr' ↔ ∃ p q : Int, t = [p, q] ∧ 0 ≤ p ∧ p < q ∧ q < many ∧ [p, q] ∉ U
  | 0, x, e7, fr, hn, h0, h1, h2, h3 => by
    have e : x = many := by omega
    subst e
    refine ⟨fr, e7, ?_, h2, h3⟩
    rw [rangeD_nil (Int.le_refl _)]
    unfold forI
    exact if_pos trivial
  | n + 1, x, e7, fr, hn, h0, h1, h2, h3 => by
    have hlt : x < many := by omega
    have hin := free_in k X (d1 := d1) (d2 := d2) (many := many) (q := x) (e7 := e7) (rows := rows) (fr := fr) (U := U) h0 (by omega) (by omega)
    have hfl := frees_len U x
    obtain ⟨fr', e7', g1, g2, g3⟩ := free_for k X (d1 := d1) (d2 := d2) (rows := rows) (U := U) hm n (x + 1) (some (.int x)) (fr ++ frees U x) (by omega) (by omega) (by omega) (by rw [List.length_append]; omega) (by
      intro t
      rw [List.mem_append, h3, mem_frees]
      constructor
      · rintro (⟨p, q, e, a, b, c, d⟩ | ⟨p, e, a, b, c⟩)
        · exact ⟨p, q, e, a, b, by omega, d⟩
        · exact ⟨p, x, e, a, b, by omega, c⟩
      · rintro ⟨p, q, e, a, b, c, d⟩
        by_cases hq : q < x
        · exact .inl ⟨p, q, e, a, b, hq, d⟩
        · have : q = x := by omega
          subst this
          exact .inr ⟨p, e, a, b, d⟩)
    refine ⟨fr', e7', ?_, g2, g3⟩
    rw [rangeD_cons hlt]
    unfold forI
    rw [if_pos (show Src.ok _ .free from trivial), hin]
    exact g1
end K13
set_option Elab.async false
set_option linter.all false
set_option maxRecDepth 100000
namespace K13
open PySem PySem.Spec PyProof.Rows PL L2
/-- steps of a run -/
local macro_rules | `(tactic| walk_at "pl") => `(tactic| repeat' (first
  | ((with_reducible apply hyp_get); (with_reducible assumption))
  | ((with_reducible apply call_get); (with_reducible assumption))
  | (with_reducible exact ev_cst) | (with_reducible exact es_nil) | (with_reducible exact et_nil) | (with_reducible exact eo_none) | (with_reducible exact ss_nil) | (with_reducible exact ev_dict0) | (with_reducible exact t_bl) | (with_reducible exact b_add) | (with_reducible exact b_mulb) | (with_reducible exact b_pow18) | (with_reducible exact b_sub) | (with_reducible exact f_int) | (with_reducible exact f_max) | (with_reducible exact f_min) | (with_reducible exact t_scr0) | (with_reducible exact t_scr1) | (with_reducible exact f_intb) | (with_reducible exact f_len_tup) | (with_reducible exact f_len_scr) | (with_reducible exact f_list_tup) | (with_reducible exact unlk_free) | (with_reducible exact not_tt) | (with_reducible exact not_ff) | (with_reducible exact not_k) | (with_reducible exact isa_int) | (with_reducible exact isa_bl) | (with_reducible exact isa_tup) | (with_reducible exact isa_obj) | (with_reducible exact get0) | (with_reducible exact get1) | (with_reducible exact get2) | (with_reducible exact par2) | (with_reducible exact par3) | (with_reducible exact bind_nm) | (with_reducible exact sn_rt) | (with_reducible exact k_tf) | (with_reducible exact k_ft)
  | ((with_reducible apply env_get); exact rfl) | ((with_reducible apply sto_get); exact rfl) | ((with_reducible apply atI_get'); exact rfl) | ((with_reducible apply ixN_get'); exact rfl) | ((with_reducible apply ar_get); exact rfl) | ((with_reducible apply gl_get); exact rfl) | ((with_reducible apply perm_get); exact rfl) | ((with_reducible apply bind_get); exact rfl) | ((with_reducible apply pure_t); (first | (with_reducible assumption) | (simp only [D.pure, D.pures, O.pure, Bool.and_self, Bool.and_true, Bool.true_and, List.set_cons_zero, List.set_cons_succ, Int.toNat_zero, Int.toNat_one]; done))) | ((with_reducible apply pure_o); (first | (with_reducible assumption) | (simp only [D.pure, D.pures, O.pure, Bool.and_self, Bool.and_true, Bool.true_and, List.set_cons_zero, List.set_cons_succ, Int.toNat_zero, Int.toNat_one]; done))) | ((with_reducible apply pures_t); (first | (with_reducible assumption) | (simp only [D.pure, D.pures, O.pure, Bool.and_self, Bool.and_true, Bool.true_and, List.set_cons_zero, List.set_cons_succ, Int.toNat_zero, Int.toNat_one]; done))) | ((with_reducible apply le_line); exact rfl) | ((with_reducible apply compact_self); (first | (with_reducible assumption) | (simp only [D.pure, D.pures, O.pure, Bool.and_self, Bool.and_true, Bool.true_and, List.set_cons_zero, List.set_cons_succ, Int.toNat_zero, Int.toNat_one]; done))) | ((with_reducible apply compact_app); (first | (with_reducible assumption) | (simp only [D.pure, D.pures, O.pure, Bool.and_self, Bool.and_true, Bool.true_and, List.set_cons_zero, List.set_cons_succ, Int.toNat_zero, Int.toNat_one]; done))) | ((with_reducible apply compact_new0); (first | (with_reducible assumption) | (simp only [D.pure, D.pures, O.pure, Bool.and_self, Bool.and_true, Bool.true_and, List.set_cons_zero, List.set_cons_succ, Int.toNat_zero, Int.toNat_one]; done)))
  | ((with_reducible apply lt_line); exact rfl)
  | ((with_reducible apply sto_eq); (simp only [List.set_cons_zero, List.set_cons_succ, List.cons_append, List.nil_append, Int.toNat_zero, Int.toNat_one]; done))
  | ((with_reducible apply sto_eq); (try simp only [List.set_cons_zero, List.set_cons_succ, List.cons_append, List.nil_append, Int.toNat_zero, Int.toNat_one]); exact rfl)
  | ((with_reducible apply env_eq); (try simp only [List.set_cons_zero, List.set_cons_succ]); exact rfl)
  | ((with_reducible apply b_mul); omega) | ((with_reducible apply b_fdiv) <;> omega) | ((with_reducible apply b_mod); omega)
  | ((with_reducible apply c_lt_t); omega) | ((with_reducible apply c_lt_f); omega) | ((with_reducible apply c_le_t); omega) | ((with_reducible apply c_le_f); omega) | ((with_reducible apply c_gt_t); omega) | ((with_reducible apply c_gt_f); omega) | ((with_reducible apply c_ge_t); omega) | ((with_reducible apply c_ge_f); omega) | ((with_reducible apply c_eq_t); omega) | ((with_reducible apply c_eq_f); omega) | ((with_reducible apply c_ne_t); omega) | ((with_reducible apply c_ne_f); omega) | ((with_reducible apply room_le); omega)
  | (with_reducible exact c_lt) | (with_reducible exact c_le) | (with_reducible exact c_gt) | (with_reducible exact c_ge) | (with_reducible exact c_eq) | (with_reducible exact c_ne)
  | (with_reducible apply f_len_lst) | (with_reducible apply f_tup_lst) | (with_reducible apply f_list_lst) | (with_reducible apply i_lst) | (with_reducible apply i_tup) | (with_reducible apply i_scr) | (with_reducible apply p_lst2)
  | ((with_reducible apply compact_head0) <;> (first | (with_reducible assumption) | (simp only [D.pure, D.pures, O.pure, Bool.and_self, Bool.and_true, Bool.true_and, List.set_cons_zero, List.set_cons_succ, Int.toNat_zero, Int.toNat_one]; done))) | ((with_reducible apply compact_head) <;> (first | (with_reducible assumption) | (simp only [D.pure, D.pures, O.pure, Bool.and_self, Bool.and_true, Bool.true_and, List.set_cons_zero, List.set_cons_succ, Int.toNat_zero, Int.toNat_one]; done)))
  | (with_reducible refine k_tt ?_) | (with_reducible refine k_ff ?_)
  | (with_reducible apply ev_slot) | (with_reducible apply ev_glob) | (with_reducible apply ev_bin) | (with_reducible apply ev_neg) | (with_reducible apply ev_not') | (with_reducible apply ev_cmp) | (with_reducible apply ev_chn) | (with_reducible apply ch_last) | (with_reducible apply ch_more') | (with_reducible apply ev_and') | (with_reducible apply ev_or') | (with_reducible apply ev_ite') | (with_reducible apply es_cons) | (with_reducible apply ev_tup) | (with_reducible apply ev_lst) | (with_reducible apply ev_idx) | (with_reducible apply eo_some) | (with_reducible apply ev_slc) | (with_reducible apply ev_fld) | (with_reducible apply ev_isa) | (with_reducible apply ev_call) | (with_reducible apply ev_callK) | (with_reducible apply ev_bif) | (with_reducible apply ev_meth) | (with_reducible apply ev_mk) | (with_reducible apply ev_comp) | (with_reducible apply et_one) | (with_reducible apply xs_set2) | (with_reducible apply xs_par) | (with_reducible apply xs_put) | (with_reducible apply xs_expr) | (with_reducible apply xs_ret) | (with_reducible apply xs_ite') | (with_reducible apply xs_unp) | (with_reducible apply ss_cons') | (with_reducible apply sn_nx) | (with_reducible apply fin') | (with_reducible apply fn_rt) | (with_reducible apply fn_nx) | (with_reducible apply m_append2)))
def takeD : D → D
  | .tup l => .tup (l.take 2)
  | d => d
@[reducible] def wunp : IS := .unp (.tup [.nm 5, .nm 6]) (.tup (.cons (.lst (.nil)) (.cons (.comp (.slc (.slot 8) none (some (.cst (.int 2)))) (.nm 8) (.val (.slot 4)) (.nil) [8]) .nil)))
@[reducible] def wfor : IS := .for_ (.nm 7) (.range1 (.slot 3)) [.expr (.meth .extend (.slot 5) (.cons wcomp .nil))]
@[reducible] def wapp : IS := .expr (.meth .append (.slot 4) (.cons (.bin .add (.call "_law_one" (.cons (.slot 0) (.cons (.slot 5) .nil)) [] []) (.tup (.cons (.call "_law_one" (.cons (.slot 0) (.cons (.slot 2) .nil)) [] []) .nil))) .nil))
theorem unlk_list {S : Store} {n : Nat} {l : List D} (h : S[n]? = some (.lst l)) : unlk S (.list n l) = some S := by
  unfold unlk
  rw [if_pos (show Src.ok S (.list n l) from h)]
theorem web_unp (k : Nat) (X : Store) {d1 d2 : D} {many : Int} {rows : List (List Int)} (h3 : Rows3 rows) (hl : rows.length ≤ 1000) :
    exS (ixOf P k) wunp [some (.loc 0), some d1, some d2, some (.int many), some (.loc X.length), none, none, none, none, none] (X ++ [O.lst (rows.map tI)]) = some (.nx (wenv d1 d2 X many none) (wst X rows [] (rows.map (List.take 2)))) := by
  have g0 : (X ++ [O.lst (rows.map tI)] ++ [O.lst []])[X.length]? = some (O.lst (rows.map tI)) := by
    rw [List.append_assoc]; exact getT X _ 0
  have hit : evIt (ixOf P k) (.val (.slot 4)) [some (.loc 0), some d1, some d2, some (.int many), some (.loc X.length), none, none, none, none, none] (X ++ [O.lst (rows.map tI)] ++ [O.lst []]) = some (.val (rows.map tI, .list X.length (rows.map tI)) (X ++ [O.lst (rows.map tI)] ++ [O.lst []])) :=
    it_old (ev_slot rfl) (compact_loc _ (by simp)) g0 (by simp)
  have hcomp := compI_map (f := compF (ixOf P k) (.slc (.slot 8) none (some (.cst (.int 2)))) (.nm 8) .nil [8] [some (.loc 0), some d1, some d2, some (.int many), some (.loc X.length), none, none, none, none, none]) (src := .list X.length (rows.map tI)) (S := X ++ [O.lst (rows.map tI)] ++ [O.lst []]) takeD g0 (rows.map tI) (by
    intro d hd
    obtain ⟨r, hr, rfl⟩ := List.mem_map.mp hd
    obtain ⟨p, q, l, rfl⟩ := h3 r hr
    have hs : slcD (tI [p, q, l]) none (some 2) (X ++ [O.lst (rows.map tI)] ++ [O.lst []]) = some (takeD (tI [p, q, l]), X ++ [O.lst (rows.map tI)] ++ [O.lst []]) := by
      show some (D.tup (PL.cutD _ none (some ((2 : Nat) : Int))), _) = _
      rw [cut_to (by simp)]; rfl
    exact cf_t (env' := [some (.loc 0), some d1, some d2, some (.int many), some (.loc X.length), none, none, none, some (tI [p, q, l]), none]) rfl et_nil (ev_slc (ev_slot rfl) eo_none (eo_some ev_cst) hs) (compact_self _ rfl)) (by rw [List.length_map]; show _ ≤ 16777216; omega)
  have em : (rows.map tI).map takeD = (rows.map (List.take 2)).map tI := by
    rw [List.map_map, List.map_map]
    refine List.map_congr_left fun r _ => ?_
    show D.tup ((r.map D.int).take 2) = D.tup ((r.take 2).map D.int)
    rw [List.map_take]
  rw [em] at hcomp
  have hunp : exS (ixOf P k) wunp [some (.loc 0), some d1, some d2, some (.int many), some (.loc X.length), none, none, none, none, none] (X ++ [O.lst (rows.map tI)]) = some (.nx [some (.loc 0), some d1, some d2, some (.int many), some (.loc X.length), some (.loc (X ++ [O.lst (rows.map tI)]).length), some (.loc (X ++ [O.lst (rows.map tI)] ++ [O.lst []]).length), none, none, none] (X ++ [O.lst (rows.map tI)] ++ [O.lst []] ++ [O.lst ((rows.map (List.take 2)).map tI)])) :=
    xs_unp (ev_tup (es_cons (ev_lst es_nil (le_line rfl)) (es_cons (ev_comp hit hcomp (unlk_list g0)) es_nil)) (le_line rfl)) (compact_imp rfl) rfl
  have e1 : (X ++ [O.lst (rows.map tI)]).length = X.length + 1 := by simp
  have e2 : (X ++ [O.lst (rows.map tI)] ++ [O.lst []]).length = X.length + 2 := by simp
  have e3 : X ++ [O.lst (rows.map tI)] ++ [O.lst []] ++ [O.lst ((rows.map (List.take 2)).map tI)] = wst X rows [] (rows.map (List.take 2)) := by simp
  rw [e1, e2, e3] at hunp
  exact hunp
theorem web_more (k : Nat) (R : Store) {a b : Int} {i : Nat} {d1 : D} {ls : List Int} {many : Int} {rows : List (List Int)} (h : Pok a b) (hi : R[i]? = some (.lst (ls.map D.int))) (hl1 : 1 ≤ ls.length) (hl2 : ls.length < 1000) (h3 : Rows3 rows) (hl : rows.length ≤ 1000) (hm : 3 ≤ many) (hm2 : many ≤ 6) (hfree : ∃ p : Int, 0 ≤ p ∧ p < 2 ∧ [p, 2] ∉ rows.map (List.take 2)) :
    ∃ (p q m a' b' : Int) (fr : List (List Int)) (e7 : Option D), Pok a' b' ∧ 0 ≤ p ∧ p < q ∧ q < many ∧ [p, q] ∉ rows.map (List.take 2) ∧ m ∈ ls ∧ exSs (ixOf P (k + 2)) [wunp, wfor, wapp] [some (.loc 0), some d1, some (.loc (i + 1)), some (.int many), some (.loc (R.length + 1)), none, none, none, none, none] (pool a b :: (R ++ [O.lst (rows.map tI)])) = some (.nx (wenv d1 (.loc (i + 1)) (pool a' b' :: R) many e7) (pool a' b' :: (R ++ [O.lst ((rows ++ [[p, q, m]]).map tI), O.lst (fr.map tI), O.lst ((rows.map (List.take 2)).map tI)]))) := by
  have hunp := web_unp (k + 2) (pool a b :: R) (d1 := d1) (d2 := .loc (i + 1)) (many := many) h3 hl
  obtain ⟨fr, e7, hfor, hfl, hmem⟩ := free_for (k + 2) (pool a b :: R) (d1 := d1) (d2 := .loc (i + 1)) (many := many) (rows := rows) (U := rows.map (List.take 2)) (by omega) _ 0 none [] rfl (by omega) (by omega) (by simp) (by
    intro t
    constructor
    · intro h; simp at h
    · rintro ⟨p, q, _, h1, h2, h3, _⟩; omega)
  have hok : okRange many = true := by
    unfold okRange
    rw [Bool.and_eq_true]
    exact ⟨decide_eq_true (by omega), decide_eq_true (by omega)⟩
  have hwf : exS (ixOf P (k + 2)) wfor (wenv d1 (.loc (i + 1)) (pool a b :: R) many none) (wst (pool a b :: R) rows [] (rows.map (List.take 2))) = some (.nx (wenv d1 (.loc (i + 1)) (pool a b :: R) many e7) (wst (pool a b :: R) rows fr (rows.map (List.take 2)))) :=
    xs_for (it_range1' (ev_slot rfl) hok (compact_self _ rfl)) (for_free hfor)
  have hlen : fr.length < 1000 := by omega
  have hpos : 1 ≤ fr.length := by
    obtain ⟨p, p0, p1, p2⟩ := hfree
    have : [p, 2] ∈ fr := (hmem _).mpr ⟨p, 2, rfl, p0, p1, by omega, p2⟩
    exact List.length_pos_of_mem this
  let T : Store := [O.lst (rows.map tI), O.lst (fr.map tI), O.lst ((rows.map (List.take 2)).map tI)]
  have hj : (R ++ T)[R.length + 1]? = some (.lst (fr.map tI)) := getT R T 1
  obtain ⟨d, a1, b1, hp1, hd, hc1⟩ := x_law_one k (R ++ T) h hj (by rw [List.length_map]; exact hpos) (by rw [List.length_map]; exact hlen) (tI_pures fr)
  obtain ⟨t, ht, rfl⟩ := List.mem_map.mp hd
  obtain ⟨p, q, rfl, p0, p1, p2, p3⟩ := (hmem t).mp ht
  have hi2 : (R ++ T)[i]? = some (.lst (ls.map D.int)) := by
    rw [List.getElem?_append_left (List.getElem?_eq_some_iff.mp hi).1]; exact hi
  obtain ⟨m, a2, b2, hp2, hmm, hc2⟩ := x_law_oneI k (R ++ T) hp1 hi2 hl1 hl2
  refine ⟨p, q, m, a2, b2, fr, e7, hp2, p0, p1, p2, p3, hmm, ?_⟩
  have hg : (pool a2 b2 :: (R ++ T))[R.length + 1]? = some (.lst (rows.map tI)) := by
    rw [List.getElem?_cons_succ]; exact getT R T 0
  have hg0 : (pool a b :: (R ++ T))[R.length + 1]? = some (.lst (rows.map tI)) := by
    rw [List.getElem?_cons_succ]; exact getT R T 0
  have hset : (pool a2 b2 :: (R ++ T)).set (R.length + 1) (.lst (rows.map tI ++ [tI [p, q, m]])) = pool a2 b2 :: (R ++ [O.lst ((rows ++ [[p, q, m]]).map tI), O.lst (fr.map tI), O.lst ((rows.map (List.take 2)).map tI)]) := by
    rw [List.set_cons_succ]
    have := setT R T 0 (.lst (rows.map tI ++ [tI [p, q, m]]))
    rw [Nat.add_zero] at this
    rw [this, List.map_append]; rfl
  have hb : ∀ S, binD .add (tI [p, q]) (.tup [.int m]) S = some (tI [p, q, m], S) := fun S => b_tup (l := [.int p, .int q]) (m := [.int m]) (le_line rfl)
  have happ : exS (ixOf P (k + 2)) wapp (wenv d1 (.loc (i + 1)) (pool a b :: R) many e7) (pool a b :: (R ++ T)) = some (.nx (wenv d1 (.loc (i + 1)) (pool a b :: R) many e7) (pool a2 b2 :: (R ++ [O.lst ((rows ++ [[p, q, m]]).map tI), O.lst (fr.map tI), O.lst ((rows.map (List.take 2)).map tI)]))) :=
    xs_expr (ev_meth (ev_slot rfl) (recv_lst hg0) (es_cons (ev_bin (ev_call (es_cons (ev_slot rfl) (es_cons (ev_slot rfl) es_nil)) hc1) (ev_tup (es_cons (ev_call (es_cons (ev_slot rfl) (es_cons (ev_slot rfl) es_nil)) hc2) es_nil) (le_line rfl)) (hb _)) es_nil) (m_append2 hg (by rw [List.length_map]; show _ < 16777216; omega) hset)) (compact_ht R rfl rfl (wst_pure _ _ _) rfl)
  exact ss_nx hunp (ss_nx hwf (ss_nx happ ss_nil))
end K13
set_option Elab.async false
set_option linter.all false
set_option maxRecDepth 100000
namespace K13
open PySem PySem.Spec PyProof.Rows PL L2
/-- steps of a run -/
local macro_rules | `(tactic| walk_at "pl") => `(tactic| repeat' (first
  | ((with_reducible apply hyp_get); (with_reducible assumption))
  | ((with_reducible apply call_get); (with_reducible assumption))
  | (with_reducible exact ev_cst) | (with_reducible exact es_nil) | (with_reducible exact et_nil) | (with_reducible exact eo_none) | (with_reducible exact ss_nil) | (with_reducible exact ev_dict0) | (with_reducible exact t_bl) | (with_reducible exact b_add) | (with_reducible exact b_mulb) | (with_reducible exact b_pow18) | (with_reducible exact b_sub) | (with_reducible exact f_int) | (with_reducible exact f_max) | (with_reducible exact f_min) | (with_reducible exact t_scr0) | (with_reducible exact t_scr1) | (with_reducible exact f_intb) | (with_reducible exact f_len_tup) | (with_reducible exact f_len_scr) | (with_reducible exact f_list_tup) | (with_reducible exact unlk_free) | (with_reducible exact not_tt) | (with_reducible exact not_ff) | (with_reducible exact not_k) | (with_reducible exact isa_int) | (with_reducible exact isa_bl) | (with_reducible exact isa_tup) | (with_reducible exact isa_obj) | (with_reducible exact get0) | (with_reducible exact get1) | (with_reducible exact get2) | (with_reducible exact par2) | (with_reducible exact par3) | (with_reducible exact bind_nm) | (with_reducible exact sn_rt) | (with_reducible exact k_tf) | (with_reducible exact k_ft)
  | ((with_reducible apply env_get); exact rfl) | ((with_reducible apply sto_get); exact rfl) | ((with_reducible apply atI_get'); exact rfl) | ((with_reducible apply ixN_get'); exact rfl) | ((with_reducible apply ar_get); exact rfl) | ((with_reducible apply gl_get); exact rfl) | ((with_reducible apply perm_get); exact rfl) | ((with_reducible apply bind_get); exact rfl) | ((with_reducible apply pure_t); (first | (with_reducible assumption) | (simp only [D.pure, D.pures, O.pure, Bool.and_self, Bool.and_true, Bool.true_and, List.set_cons_zero, List.set_cons_succ, Int.toNat_zero, Int.toNat_one]; done))) | ((with_reducible apply pure_o); (first | (with_reducible assumption) | (simp only [D.pure, D.pures, O.pure, Bool.and_self, Bool.and_true, Bool.true_and, List.set_cons_zero, List.set_cons_succ, Int.toNat_zero, Int.toNat_one]; done))) | ((with_reducible apply pures_t); (first | (with_reducible assumption) | (simp only [D.pure, D.pures, O.pure, Bool.and_self, Bool.and_true, Bool.true_and, List.set_cons_zero, List.set_cons_succ, Int.toNat_zero, Int.toNat_one]; done))) | ((with_reducible apply le_line); exact rfl) | ((with_reducible apply compact_self); (first | (with_reducible assumption) | (simp only [D.pure, D.pures, O.pure, Bool.and_self, Bool.and_true, Bool.true_and, List.set_cons_zero, List.set_cons_succ, Int.toNat_zero, Int.toNat_one]; done))) | ((with_reducible apply compact_app); (first | (with_reducible assumption) | (simp only [D.pure, D.pures, O.pure, Bool.and_self, Bool.and_true, Bool.true_and, List.set_cons_zero, List.set_cons_succ, Int.toNat_zero, Int.toNat_one]; done))) | ((with_reducible apply compact_new0); (first | (with_reducible assumption) | (simp only [D.pure, D.pures, O.pure, Bool.and_self, Bool.and_true, Bool.true_and, List.set_cons_zero, List.set_cons_succ, Int.toNat_zero, Int.toNat_one]; done)))
  | ((with_reducible apply lt_line); exact rfl)
  | ((with_reducible apply sto_eq); (simp only [List.set_cons_zero, List.set_cons_succ, List.cons_append, List.nil_append, Int.toNat_zero, Int.toNat_one]; done))
  | ((with_reducible apply sto_eq); (try simp only [List.set_cons_zero, List.set_cons_succ, List.cons_append, List.nil_append, Int.toNat_zero, Int.toNat_one]); exact rfl)
  | ((with_reducible apply env_eq); (try simp only [List.set_cons_zero, List.set_cons_succ]); exact rfl)
  | ((with_reducible apply b_mul); omega) | ((with_reducible apply b_fdiv) <;> omega) | ((with_reducible apply b_mod); omega)
  | ((with_reducible apply c_lt_t); omega) | ((with_reducible apply c_lt_f); omega) | ((with_reducible apply c_le_t); omega) | ((with_reducible apply c_le_f); omega) | ((with_reducible apply c_gt_t); omega) | ((with_reducible apply c_gt_f); omega) | ((with_reducible apply c_ge_t); omega) | ((with_reducible apply c_ge_f); omega) | ((with_reducible apply c_eq_t); omega) | ((with_reducible apply c_eq_f); omega) | ((with_reducible apply c_ne_t); omega) | ((with_reducible apply c_ne_f); omega) | ((with_reducible apply room_le); omega)
  | (with_reducible exact c_lt) | (with_reducible exact c_le) | (with_reducible exact c_gt) | (with_reducible exact c_ge) | (with_reducible exact c_eq) | (with_reducible exact c_ne)
  | (with_reducible apply f_len_lst) | (with_reducible apply f_tup_lst) | (with_reducible apply f_list_lst) | (with_reducible apply i_lst) | (with_reducible apply i_tup) | (with_reducible apply i_scr) | (with_reducible apply p_lst2)
  | ((with_reducible apply compact_head0) <;> (first | (with_reducible assumption) | (simp only [D.pure, D.pures, O.pure, Bool.and_self, Bool.and_true, Bool.true_and, List.set_cons_zero, List.set_cons_succ, Int.toNat_zero, Int.toNat_one]; done))) | ((with_reducible apply compact_head) <;> (first | (with_reducible assumption) | (simp only [D.pure, D.pures, O.pure, Bool.and_self, Bool.and_true, Bool.true_and, List.set_cons_zero, List.set_cons_succ, Int.toNat_zero, Int.toNat_one]; done)))
  | (with_reducible refine k_tt ?_) | (with_reducible refine k_ff ?_)
  | (with_reducible apply ev_slot) | (with_reducible apply ev_glob) | (with_reducible apply ev_bin) | (with_reducible apply ev_neg) | (with_reducible apply ev_not') | (with_reducible apply ev_cmp) | (with_reducible apply ev_chn) | (with_reducible apply ch_last) | (with_reducible apply ch_more') | (with_reducible apply ev_and') | (with_reducible apply ev_or') | (with_reducible apply ev_ite') | (with_reducible apply es_cons) | (with_reducible apply ev_tup) | (with_reducible apply ev_lst) | (with_reducible apply ev_idx) | (with_reducible apply eo_some) | (with_reducible apply ev_slc) | (with_reducible apply ev_fld) | (with_reducible apply ev_isa) | (with_reducible apply ev_call) | (with_reducible apply ev_callK) | (with_reducible apply ev_bif) | (with_reducible apply ev_meth) | (with_reducible apply ev_mk) | (with_reducible apply ev_comp) | (with_reducible apply et_one) | (with_reducible apply xs_set2) | (with_reducible apply xs_par) | (with_reducible apply xs_put) | (with_reducible apply xs_expr) | (with_reducible apply xs_ret) | (with_reducible apply xs_ite') | (with_reducible apply xs_unp) | (with_reducible apply ss_cons') | (with_reducible apply sn_nx) | (with_reducible apply fin') | (with_reducible apply fn_rt) | (with_reducible apply fn_nx) | (with_reducible apply m_append2)))
@[reducible] def wret : IS := .ret (.tup (.cons (.slot 3) (.cons (.bif .tuple (.cons (.bif .sorted (.cons (.slot 4) .nil)) .nil)) .nil)))
theorem drawD_pure (w : Nat × List (List Int)) : (drawD w).pure = true := by
  show (true && (D.pures (w.2.map tI) && true)) = true
  rw [tI_pures]; rfl
theorem web_ret (k : Nat) (R T : Store) {a b : Int} {d1 d2 : D} {n : Nat} {e5 e6 e7 : Option D} {rows : List (List Int)} (hne : ∀ l ∈ rows, l ≠ []) (hl : rows.length ≤ 1000) : exS (ixOf P k) wret [some (.loc 0), some d1, some d2, some (.int n), some (.loc (R.length + 1)), e5, e6, e7, none, none] (pool a b :: (R ++ O.lst (rows.map tI) :: T)) = some (.rt (drawD (n, srt rows)) (pool a b :: (R ++ O.lst (rows.map tI) :: T))) := by
  have hg : (pool a b :: (R ++ O.lst (rows.map tI) :: T))[R.length + 1]? = some (.lst (rows.map tI)) := by
    rw [List.getElem?_cons_succ]; exact getT R _ 0
  exact xs_ret (ev_tup (es_cons (ev_slot rfl) (es_cons (ev_bif (es_cons (ev_bif (es_cons (ev_slot rfl) es_nil) (f_sorted_tI hg hne (by show _ ≤ 16777216; omega))) es_nil) (f_tup_lst List.getElem?_concat_length)) es_nil)) (le_line rfl)) (compact_app _ _ (drawD_pure (n, srt rows)))
theorem x_law_web (k : Nat) (R : Store) {a b : Int} {j i : Nat} {ms ls : List Int} (h : Pok a b) (hj : R[j]? = some (.lst (ms.map D.int))) (hi : R[i]? = some (.lst (ls.map D.int))) (hm1 : 1 ≤ ms.length) (hm2 : ms.length < 1000) (hl1 : 1 ≤ ls.length) (hl2 : ls.length < 1000) (hms : ∀ m ∈ ms, 1 ≤ m ∧ m ≤ 6) (hls : ∀ l ∈ ls, 1 ≤ l ∧ l ≤ 50) :
    ∃ w a' b', Pok a' b' ∧ WebOk w ∧ callN P (k + 4) "_law_web" [.loc 0, .loc (j + 1), .loc (i + 1)] (pool a b :: R) = some (.val (drawD w) (pool a' b' :: R)) := by
  obtain ⟨many, a1, b1, hp1, hmm, hc1⟩ := x_law_oneI (k + 1) R h hj hm1 hm2
  have hmb := hms many hmm
  obtain ⟨raw, a2, b2, hp2, hraw, hrl, hc2⟩ := x_tree k R hp1 hi hl1 hl2 (many := many) (by omega) (by omega)
  obtain ⟨n, hn⟩ : ∃ n : Nat, n = raw.length + 1 := ⟨_, rfl⟩
  have hmn : many = (n : Int) := by omega
  subst hmn
  have hgood := hraw.good hls hn
  have hsl : (srt raw).length = raw.length := (srt_perm raw).length_eq
  have hrows3 : Rows3 (srt raw) := hgood.1.inR.rows
  have hne : ∀ l ∈ srt raw, l ≠ [] := fun l hl => hraw.ne l ((srt_perm raw).mem_iff.mp hl)
  let D1 : D := .loc (j + 1)
  let D2 : D := .loc (i + 1)
  have hs3 : exS (ixOf P (k + 3)) (.set 3 (.call "_law_one" (.cons (.slot 0) (.cons (.slot 1) .nil)) [] [])) [some (.loc 0), some (.loc (j + 1)), some (.loc (i + 1)), none, none, none, none, none, none, none] (pool a b :: R) = some (.nx [some (.loc 0), some (.loc (j + 1)), some (.loc (i + 1)), some (.int n), none, none, none, none, none, none] (pool a1 b1 :: R)) :=
    xs_set (ev_call (es_cons (ev_slot rfl) (es_cons (ev_slot rfl) es_nil)) hc1) (compact_head0 R rfl rfl)
  have htest : callN P (k + 3) "_law_tree_roads" [.loc 0, .int n, .loc (i + 1)] (pool a1 b1 :: R) = some (.val (.tup ((srt raw).map tI)) (pool a2 b2 :: R)) := hc2
  have hcall : evE (ixOf P (k + 3)) (.call "_law_tree_roads" (.cons (.slot 0) (.cons (.slot 3) (.cons (.slot 2) .nil))) [] []) [some (.loc 0), some (.loc (j + 1)), some (.loc (i + 1)), some (.int n), none, none, none, none, none, none] (pool a1 b1 :: R) = some (.val (.tup ((srt raw).map tI)) (pool a2 b2 :: R)) :=
    ev_call (es_cons (ev_slot rfl) (es_cons (ev_slot rfl) (es_cons (ev_slot rfl) es_nil))) (call_get htest)
  have hs4 : exS (ixOf P (k + 3)) (.set 4 (.bif .list (.cons (.call "_law_tree_roads" (.cons (.slot 0) (.cons (.slot 3) (.cons (.slot 2) .nil))) [] []) .nil))) [some (.loc 0), some (.loc (j + 1)), some (.loc (i + 1)), some (.int n), none, none, none, none, none, none] (pool a1 b1 :: R) = some (.nx [some (.loc 0), some (.loc (j + 1)), some (.loc (i + 1)), some (.int n), some (.loc (R.length + 1)), none, none, none, none, none] (pool a2 b2 :: (R ++ [O.lst ((srt raw).map tI)]))) :=
    xs_set (ev_bif (es_cons hcall es_nil) f_list_tup) (compact_headN R rfl (tI_pures _))
  -- the tree alone
  have alone : ∀ (a' b' : Int), Pok a' b' → exS (ixOf P (k + 3)) (.ite (.and (.cmp .gt (.slot 3) (.cst (.int 2))) (.cmp .eq (.call "_law_take" (.cons (.slot 0) (.cons (.cst (.int 3)) .nil)) [] []) (.cst (.int 0)))) [wunp, wfor, wapp] []) [some (.loc 0), some (.loc (j + 1)), some (.loc (i + 1)), some (.int n), some (.loc (R.length + 1)), none, none, none, none, none] (pool a2 b2 :: (R ++ [O.lst ((srt raw).map tI)])) = some (.nx [some (.loc 0), some (.loc (j + 1)), some (.loc (i + 1)), some (.int n), some (.loc (R.length + 1)), none, none, none, none, none] (pool a' b' :: (R ++ [O.lst ((srt raw).map tI)]))) → ∃ w a' b', Pok a' b' ∧ WebOk w ∧ callN P (k + 4) "_law_web" [.loc 0, .loc (j + 1), .loc (i + 1)] (pool a b :: R) = some (.val (drawD w) (pool a' b' :: R)) := by
    intro a' b' hp hite
    refine ⟨(n, srt (srt raw)), a', b', hp, ⟨?_, ?_, good_srt hgood.1.row (((srt_perm raw).map _).nodup_iff.mpr hraw.nodup), ?_, fun y h0 h1 => ?_⟩, ?_⟩
    · show 1 ≤ n; omega
    · show n ≤ 6; omega
    · show (srt (srt raw)).length ≤ 100; rw [(srt_perm _).length_eq]; omega
    · exact hraw.whole (fun r hr => (srt_perm _).mem_iff.mpr ((srt_perm raw).mem_iff.mpr hr)) _ y (Nat.le_refl _) h0 (by have : y < (n : Int) := h1; omega)
    · exact r__law_web (fin_rt' (ss_nx hs3 (ss_nx hs4 (ss_nx hite (ss_rt (web_ret (k + 3) R [] hne (by omega)))))) (compact_head R _ rfl (drawD_pure _)))
  have hgt : evE (ixOf P (k + 3)) (.cmp .gt (.slot 3) (.cst (.int 2))) [some (.loc 0), some (.loc (j + 1)), some (.loc (i + 1)), some (.int n), some (.loc (R.length + 1)), none, none, none, none, none] (pool a2 b2 :: (R ++ [O.lst ((srt raw).map tI)])) = some (.val (.bl (decide ((2 : Int) < n))) (pool a2 b2 :: (R ++ [O.lst ((srt raw).map tI)]))) := ev_cmp (ev_slot rfl) ev_cst c_gt
  by_cases h2 : (2 : Int) < n
  · rw [decide_eq_true h2] at hgt
    obtain ⟨r, a3, b3, hp3, r0, r1, hc3⟩ := x_law_take (k + 2) (R ++ [O.lst ((srt raw).map tI)]) hp2 (top := 3) (by omega) (by omega)
    have ht : evE (ixOf P (k + 3)) (.and (.cmp .gt (.slot 3) (.cst (.int 2))) (.cmp .eq (.call "_law_take" (.cons (.slot 0) (.cons (.cst (.int 3)) .nil)) [] []) (.cst (.int 0)))) [some (.loc 0), some (.loc (j + 1)), some (.loc (i + 1)), some (.int n), some (.loc (R.length + 1)), none, none, none, none, none] (pool a2 b2 :: (R ++ [O.lst ((srt raw).map tI)])) = some (.val (.bl (decide (r = 0))) (pool a3 b3 :: (R ++ [O.lst ((srt raw).map tI)]))) :=
      ev_and_t hgt rfl (ev_cmp (ev_call (es_cons (ev_slot rfl) (es_cons ev_cst es_nil)) hc3) ev_cst c_eq)
    by_cases hr : r = 0
    · rw [decide_eq_true hr] at ht
      -- one road more
      have hfree : ∃ p : Int, 0 ≤ p ∧ p < 2 ∧ [p, 2] ∉ (srt raw).map (List.take 2) := by
        obtain ⟨p, m, e1, p0, p1, _⟩ := hraw 1 (by omega)
        refine ⟨1 - p, by simp at p1; omega, by omega, fun hm => ?_⟩
        obtain ⟨t, ht, et⟩ := List.mem_map.mp hm
        have ht := (srt_perm raw).mem_iff.mp ht
        obtain ⟨i', hi', ei'⟩ := List.getElem_of_mem ht
        obtain ⟨p', m', e2, _⟩ := hraw i' hi'
        rw [List.getElem?_eq_getElem hi', ei'] at e2
        cases e2
        simp only [List.take, List.cons.injEq, and_true] at et
        obtain ⟨q1, q2⟩ := et
        have hi1 : i' = 1 := by omega
        subst hi1
        rw [List.getElem?_eq_getElem hi', ei'] at e1
        simp only [Option.some.injEq, List.cons.injEq] at e1
        omega
      obtain ⟨p, q, m, a4, b4, fr, e7, hp4, p0, p1, p2, p3, hm, hmore⟩ := web_more (k + 1) R (d1 := .loc (j + 1)) hp3 hi hl1 hl2 hrows3 (by omega) (many := n) (by omega) (by omega) hfree
      have hite : exS (ixOf P (k + 3)) (.ite (.and (.cmp .gt (.slot 3) (.cst (.int 2))) (.cmp .eq (.call "_law_take" (.cons (.slot 0) (.cons (.cst (.int 3)) .nil)) [] []) (.cst (.int 0)))) [wunp, wfor, wapp] []) [some (.loc 0), some (.loc (j + 1)), some (.loc (i + 1)), some (.int n), some (.loc (R.length + 1)), none, none, none, none, none] (pool a2 b2 :: (R ++ [O.lst ((srt raw).map tI)])) = some (.nx (wenv (.loc (j + 1)) (.loc (i + 1)) (pool a4 b4 :: R) n e7) (pool a4 b4 :: (R ++ [O.lst ((srt raw ++ [[p, q, m]]).map tI), O.lst (fr.map tI), O.lst (((srt raw).map (List.take 2)).map tI)]))) :=
        xs_ite_t ht rfl (compact_head0 _ rfl rfl) hmore
      have hmr := hls m hm
      have hrows : ∀ r ∈ srt raw ++ [[p, q, m]], ∃ p q l, r = [p, q, l] ∧ 0 ≤ p ∧ p < q ∧ q < (n : Int) ∧ 1 ≤ l ∧ l ≤ 100 := by
        intro r hr
        rcases List.mem_append.mp hr with h | h
        · exact hgood.1.1 r h
        · rw [List.mem_singleton] at h
          exact ⟨p, q, m, h, p0, p1, p2, hmr.1, by omega⟩
      have hnd : ((srt raw ++ [[p, q, m]]).map (List.take 2)).Nodup := by
        rw [List.map_append, List.nodup_append]
        refine ⟨((srt_perm raw).map _).nodup_iff.mpr hraw.nodup, by simp, ?_⟩
        intro x hx y hy
        simp only [List.map_cons, List.map_nil, List.mem_singleton] at hy
        subst hy
        intro e
        rw [e] at hx
        exact p3 hx
      have hg := good_srt hrows hnd
      have hne2 : ∀ l ∈ srt raw ++ [[p, q, m]], l ≠ [] := fun l hl => by
        obtain ⟨p, q, l', e, _⟩ := hrows l hl
        rw [e]; exact List.cons_ne_nil _ _
      have hlen2 : (srt raw ++ [[p, q, m]]).length = raw.length + 1 := by rw [List.length_append, hsl]; rfl
      refine ⟨(n, srt (srt raw ++ [[p, q, m]])), a4, b4, hp4, ⟨?_, ?_, hg, ?_, ?_⟩, ?_⟩
      · show 1 ≤ n; omega
      · show n ≤ 6; omega
      · show (srt (srt raw ++ [[p, q, m]])).length ≤ 100
        rw [(srt_perm _).length_eq, hlen2]; omega
      · intro y h0 h1
        exact hraw.whole (fun r hr => (srt_perm _).mem_iff.mpr (List.mem_append_left _ ((srt_perm raw).mem_iff.mpr hr))) _ y (Nat.le_refl _) h0 (by have : y < (n : Int) := h1; omega)
      · exact r__law_web (fin_rt' (ss_nx hs3 (ss_nx hs4 (ss_nx hite (ss_rt (web_ret (k + 3) R [O.lst (fr.map tI), O.lst (((srt raw).map (List.take 2)).map tI)] hne2 (by omega)))))) (compact_head R _ rfl (drawD_pure _)))
    · rw [decide_eq_false hr] at ht
      exact alone a3 b3 hp3 (xs_ite_f ht rfl (compact_head0 _ rfl rfl) ss_nil)
  · rw [decide_eq_false h2] at hgt
    exact alone a2 b2 hp2 (xs_ite_f (ev_and_f hgt rfl) rfl (compact_self _ rfl) ss_nil)
end K13
set_option Elab.async false
set_option linter.all false
set_option maxRecDepth 100000
namespace K13
open PySem PySem.Spec PyProof.Rows PL L2
/-- steps of a run -/
local macro_rules | `(tactic| walk_at "pl") => `(tactic| repeat' (first
  | ((with_reducible apply hyp_get); (with_reducible assumption))
  | ((with_reducible apply call_get); (with_reducible assumption))
  | (with_reducible exact ev_cst) | (with_reducible exact es_nil) | (with_reducible exact et_nil) | (with_reducible exact eo_none) | (with_reducible exact ss_nil) | (with_reducible exact ev_dict0) | (with_reducible exact t_bl) | (with_reducible exact b_add) | (with_reducible exact b_mulb) | (with_reducible exact b_pow18) | (with_reducible exact b_sub) | (with_reducible exact f_int) | (with_reducible exact f_max) | (with_reducible exact f_min) | (with_reducible exact t_scr0) | (with_reducible exact t_scr1) | (with_reducible exact f_intb) | (with_reducible exact f_len_tup) | (with_reducible exact f_len_scr) | (with_reducible exact f_list_tup) | (with_reducible exact unlk_free) | (with_reducible exact not_tt) | (with_reducible exact not_ff) | (with_reducible exact not_k) | (with_reducible exact isa_int) | (with_reducible exact isa_bl) | (with_reducible exact isa_tup) | (with_reducible exact isa_obj) | (with_reducible exact get0) | (with_reducible exact get1) | (with_reducible exact get2) | (with_reducible exact par2) | (with_reducible exact par3) | (with_reducible exact bind_nm) | (with_reducible exact sn_rt) | (with_reducible exact k_tf) | (with_reducible exact k_ft)
  | ((with_reducible apply env_get); exact rfl) | ((with_reducible apply sto_get); exact rfl) | ((with_reducible apply atI_get'); exact rfl) | ((with_reducible apply ixN_get'); exact rfl) | ((with_reducible apply ar_get); exact rfl) | ((with_reducible apply gl_get); exact rfl) | ((with_reducible apply perm_get); exact rfl) | ((with_reducible apply bind_get); exact rfl) | ((with_reducible apply pure_t); (first | (with_reducible assumption) | (simp only [D.pure, D.pures, O.pure, Bool.and_self, Bool.and_true, Bool.true_and, List.set_cons_zero, List.set_cons_succ, Int.toNat_zero, Int.toNat_one]; done))) | ((with_reducible apply pure_o); (first | (with_reducible assumption) | (simp only [D.pure, D.pures, O.pure, Bool.and_self, Bool.and_true, Bool.true_and, List.set_cons_zero, List.set_cons_succ, Int.toNat_zero, Int.toNat_one]; done))) | ((with_reducible apply pures_t); (first | (with_reducible assumption) | (simp only [D.pure, D.pures, O.pure, Bool.and_self, Bool.and_true, Bool.true_and, List.set_cons_zero, List.set_cons_succ, Int.toNat_zero, Int.toNat_one]; done))) | ((with_reducible apply le_line); exact rfl) | ((with_reducible apply compact_self); (first | (with_reducible assumption) | (simp only [D.pure, D.pures, O.pure, Bool.and_self, Bool.and_true, Bool.true_and, List.set_cons_zero, List.set_cons_succ, Int.toNat_zero, Int.toNat_one]; done))) | ((with_reducible apply compact_app); (first | (with_reducible assumption) | (simp only [D.pure, D.pures, O.pure, Bool.and_self, Bool.and_true, Bool.true_and, List.set_cons_zero, List.set_cons_succ, Int.toNat_zero, Int.toNat_one]; done))) | ((with_reducible apply compact_new0); (first | (with_reducible assumption) | (simp only [D.pure, D.pures, O.pure, Bool.and_self, Bool.and_true, Bool.true_and, List.set_cons_zero, List.set_cons_succ, Int.toNat_zero, Int.toNat_one]; done)))
  | ((with_reducible apply lt_line); exact rfl)
  | ((with_reducible apply sto_eq); (simp only [List.set_cons_zero, List.set_cons_succ, List.cons_append, List.nil_append, Int.toNat_zero, Int.toNat_one]; done))
  | ((with_reducible apply sto_eq); (try simp only [List.set_cons_zero, List.set_cons_succ, List.cons_append, List.nil_append, Int.toNat_zero, Int.toNat_one]); exact rfl)
  | ((with_reducible apply env_eq); (try simp only [List.set_cons_zero, List.set_cons_succ]); exact rfl)
  | ((with_reducible apply b_mul); omega) | ((with_reducible apply b_fdiv) <;> omega) | ((with_reducible apply b_mod); omega)
  | ((with_reducible apply c_lt_t); omega) | ((with_reducible apply c_lt_f); omega) | ((with_reducible apply c_le_t); omega) | ((with_reducible apply c_le_f); omega) | ((with_reducible apply c_gt_t); omega) | ((with_reducible apply c_gt_f); omega) | ((with_reducible apply c_ge_t); omega) | ((with_reducible apply c_ge_f); omega) | ((with_reducible apply c_eq_t); omega) | ((with_reducible apply c_eq_f); omega) | ((with_reducible apply c_ne_t); omega) | ((with_reducible apply c_ne_f); omega) | ((with_reducible apply room_le); omega)
  | (with_reducible exact c_lt) | (with_reducible exact c_le) | (with_reducible exact c_gt) | (with_reducible exact c_ge) | (with_reducible exact c_eq) | (with_reducible exact c_ne)
  | (with_reducible apply f_len_lst) | (with_reducible apply f_tup_lst) | (with_reducible apply f_list_lst) | (with_reducible apply i_lst) | (with_reducible apply i_tup) | (with_reducible apply i_scr) | (with_reducible apply p_lst2)
  | ((with_reducible apply compact_head0) <;> (first | (with_reducible assumption) | (simp only [D.pure, D.pures, O.pure, Bool.and_self, Bool.and_true, Bool.true_and, List.set_cons_zero, List.set_cons_succ, Int.toNat_zero, Int.toNat_one]; done))) | ((with_reducible apply compact_head) <;> (first | (with_reducible assumption) | (simp only [D.pure, D.pures, O.pure, Bool.and_self, Bool.and_true, Bool.true_and, List.set_cons_zero, List.set_cons_succ, Int.toNat_zero, Int.toNat_one]; done)))
  | (with_reducible refine k_tt ?_) | (with_reducible refine k_ff ?_)
  | (with_reducible apply ev_slot) | (with_reducible apply ev_glob) | (with_reducible apply ev_bin) | (with_reducible apply ev_neg) | (with_reducible apply ev_not') | (with_reducible apply ev_cmp) | (with_reducible apply ev_chn) | (with_reducible apply ch_last) | (with_reducible apply ch_more') | (with_reducible apply ev_and') | (with_reducible apply ev_or') | (with_reducible apply ev_ite') | (with_reducible apply es_cons) | (with_reducible apply ev_tup) | (with_reducible apply ev_lst) | (with_reducible apply ev_idx) | (with_reducible apply eo_some) | (with_reducible apply ev_slc) | (with_reducible apply ev_fld) | (with_reducible apply ev_isa) | (with_reducible apply ev_call) | (with_reducible apply ev_callK) | (with_reducible apply ev_bif) | (with_reducible apply ev_meth) | (with_reducible apply ev_mk) | (with_reducible apply ev_comp) | (with_reducible apply et_one) | (with_reducible apply xs_set2) | (with_reducible apply xs_par) | (with_reducible apply xs_put) | (with_reducible apply xs_expr) | (with_reducible apply xs_ret) | (with_reducible apply xs_ite') | (with_reducible apply xs_unp) | (with_reducible apply ss_cons') | (with_reducible apply sn_nx) | (with_reducible apply fin') | (with_reducible apply fn_rt) | (with_reducible apply fn_nx) | (with_reducible apply m_append2)))
/-- a drawn land's lamps, by turns -/
theorem x_lamps {f : D → Store → Option (Option D × Store)} (R : Store) (hf : ∀ (d : D) (a b : Int), Pok a b → ∃ (w : Nat × List (List Int)) (a' b' : Int), Pok a' b' ∧ WebOk w ∧ f d (pool a b :: R) = some (some (drawD w), pool a' b' :: R)) : ∀ (l : List D) (acc : List (Nat × List (List Int))) (a b : Int), Pok a b → (∀ w ∈ acc, WebOk w) → acc.length + l.length ≤ 1000 → ∃ (ws : List (Nat × List (List Int))) (a' b' : Int), Pok a' b' ∧ (∀ w ∈ ws, WebOk w) ∧ ws.length = acc.length + l.length ∧ compI f .free l (acc.map drawD) (pool a b :: R) = some (ws.map drawD, pool a' b' :: R)
  | [], acc, a, b, h, ha, _ => ⟨acc, a, b, h, ha, rfl, by unfold compI; exact if_pos trivial⟩
  | d :: l, acc, a, b, h, ha, hl => by
    obtain ⟨w, a1, b1, hp, hw, hc⟩ := hf d a b h
    simp only [List.length_cons] at hl
    obtain ⟨ws, a2, b2, hp2, hw2, hlen, hcc⟩ := x_lamps R hf l (acc ++ [w]) a1 b1 hp (fun u hu => by
      rcases List.mem_append.mp hu with h | h
      · exact ha u h
      · rw [List.mem_singleton] at h; subst h; exact hw) (by simp only [List.length_append, List.length_cons, List.length_nil]; omega)
    refine ⟨ws, a2, b2, hp2, hw2, by simp only [List.length_append, List.length_cons, List.length_nil] at hlen ⊢; omega, ?_⟩
    unfold compI
    rw [if_pos (show Src.ok _ .free from trivial), hc]
    dsimp only
    rw [if_pos (by rw [List.length_map]; show _ < 16777216; omega)]
    rw [List.map_append] at hcc
    exact hcc
/-- a drawn land -/
structure LandOk (n : Nat) (rs : List (List Int)) (ws : List (Nat × List (List Int))) : Prop where
  lo : 1 ≤ n
  hi : n ≤ 10
  good : Good n rs
  len : rs.length + 1 = n
  short : ∀ p q l : Int, [p, q, l] ∈ rs → l ≤ 50
  whole : ∀ y : Int, 0 ≤ y → y < n → Conn rs 0 y
  wlen : ws.length = n
  ok : ∀ w ∈ ws, WebOk w
theorem x_law_land (k : Nat) (R : Store) {a b : Int} {j i : Nat} {ms ls : List Int} (h : Pok a b) (hj : R[j]? = some (.lst (ms.map D.int))) (hi : R[i]? = some (.lst (ls.map D.int))) (hm1 : 1 ≤ ms.length) (hm2 : ms.length < 1000) (hl1 : 1 ≤ ls.length) (hl2 : ls.length < 1000) (hms : ∀ m ∈ ms, 1 ≤ m ∧ m ≤ 10) (hls : ∀ l ∈ ls, 1 ≤ l ∧ l ≤ 50) :
    ∃ n rs ws a' b', Pok a' b' ∧ LandOk n rs ws ∧ callN P (k + 5) "_law_land" [.loc 0, .loc (j + 1), .loc (i + 1)] (pool a b :: R) = some (.val (.tup [.tup (rs.map tI), .tup (ws.map drawD)]) (pool a' b' :: R)) := by
  obtain ⟨many, a1, b1, hp1, hmm, hc1⟩ := x_law_oneI (k + 2) R h hj hm1 hm2
  have hmb := hms many hmm
  obtain ⟨raw, a2, b2, hp2, hraw, hrl, hc2⟩ := x_tree (k + 1) R hp1 hi hl1 hl2 (many := many) (by omega) (by omega)
  obtain ⟨n, hn⟩ : ∃ n : Nat, n = raw.length + 1 := ⟨_, rfl⟩
  have hmn : many = (n : Int) := by omega
  subst hmn
  have hgood := hraw.good hls hn
  have hsl : (srt raw).length = raw.length := (srt_perm raw).length_eq
  have hs3 : exS (ixOf P (k + 4)) (.set 3 (.call "_law_one" (.cons (.slot 0) (.cons (.slot 1) .nil)) [] [])) [some (.loc 0), some (.loc (j + 1)), some (.loc (i + 1)), none, none, none] (pool a b :: R) = some (.nx [some (.loc 0), some (.loc (j + 1)), some (.loc (i + 1)), some (.int n), none, none] (pool a1 b1 :: R)) :=
    xs_set (ev_call (es_cons (ev_slot rfl) (es_cons (ev_slot rfl) es_nil)) (call_get hc1)) (compact_head0 R rfl rfl)
  have hpt : (D.tup ((srt raw).map tI)).pure = true := tI_pures _
  have hs4 : exS (ixOf P (k + 4)) (.set 4 (.call "_law_tree_roads" (.cons (.slot 0) (.cons (.slot 3) (.cons (.slot 2) .nil))) [] [])) [some (.loc 0), some (.loc (j + 1)), some (.loc (i + 1)), some (.int n), none, none] (pool a1 b1 :: R) = some (.nx [some (.loc 0), some (.loc (j + 1)), some (.loc (i + 1)), some (.int n), some (.tup ((srt raw).map tI)), none] (pool a2 b2 :: R)) :=
    xs_set (ev_call (es_cons (ev_slot rfl) (es_cons (ev_slot rfl) (es_cons (ev_slot rfl) es_nil))) (call_get hc2)) (compact_head0 R rfl hpt)
  have hturn : ∀ (d : D) (a b : Int), Pok a b → ∃ (w : Nat × List (List Int)) (a' b' : Int), Pok a' b' ∧ WebOk w ∧ compF (ixOf P (k + 4)) (.call "_law_web" (.cons (.slot 0) (.cons (.lst (.cons (.cst (.int 2)) (.cons (.cst (.int 1)) (.cons (.cst (.int 2)) (.cons (.cst (.int 3)) .nil))))) (.cons (.slot 2) .nil))) [] []) (.nm 5) .nil [5] [some (.loc 0), some (.loc (j + 1)), some (.loc (i + 1)), some (.int n), some (.tup ((srt raw).map tI)), none] d (pool a b :: R) = some (some (drawD w), pool a' b' :: R) := by
    intro d a b hp
    have hi2 : (R ++ [O.lst ([2, 1, 2, 3].map D.int)])[i]? = some (.lst (ls.map D.int)) := by
      rw [List.getElem?_append_left (List.getElem?_eq_some_iff.mp hi).1]; exact hi
    obtain ⟨w, a', b', hp', hw, hc⟩ := x_law_web k (R ++ [O.lst ([2, 1, 2, 3].map D.int)]) (ms := [2, 1, 2, 3]) hp List.getElem?_concat_length hi2 (by decide) (by decide) hl1 hl2 (by decide) hls
    refine ⟨w, a', b', hp', hw, ?_⟩
    exact cf_t (env' := [some (.loc 0), some (.loc (j + 1)), some (.loc (i + 1)), some (.int n), some (.tup ((srt raw).map tI)), some d]) rfl et_nil (ev_call (es_cons (ev_slot rfl) (es_cons (ev_lst (es_cons ev_cst (es_cons ev_cst (es_cons ev_cst (es_cons ev_cst es_nil)))) (le_line rfl)) (es_cons (ev_slot rfl) es_nil))) (call_get hc)) (compact_head R _ rfl (drawD_pure w))
  have hrl2 : (rangeD 0 (n : Int)).length = n := by
    unfold rangeD
    rw [List.length_map, List.length_range]; omega
  obtain ⟨ws, a3, b3, hp3, hws, hwl, hcc⟩ := x_lamps R hturn (rangeD 0 (n : Int)) [] a2 b2 hp2 (fun w hw => by simp at hw) (by rw [hrl2]; simp only [List.length_nil]; omega)
  rw [hrl2, List.length_nil, Nat.zero_add] at hwl
  have hok : okRange (n : Int) = true := by
    unfold okRange
    rw [Bool.and_eq_true]
    exact ⟨decide_eq_true (by omega), decide_eq_true (by omega)⟩
  have hpu : (D.tup [.tup ((srt raw).map tI), .tup (ws.map drawD)]).pure = true := by
    show (D.pures ((srt raw).map tI) && (D.pures (ws.map drawD) && true)) = true
    rw [tI_pures, drawD_pures]; rfl
  have hret : exS (ixOf P (k + 4)) (.ret (.tup (.cons (.slot 4) (.cons (.bif .tuple (.cons (.comp (.call "_law_web" (.cons (.slot 0) (.cons (.lst (.cons (.cst (.int 2)) (.cons (.cst (.int 1)) (.cons (.cst (.int 2)) (.cons (.cst (.int 3)) .nil))))) (.cons (.slot 2) .nil))) [] []) (.nm 5) (.range1 (.slot 3)) (.nil) [5]) .nil)) .nil)))) [some (.loc 0), some (.loc (j + 1)), some (.loc (i + 1)), some (.int n), some (.tup ((srt raw).map tI)), none] (pool a2 b2 :: R) = some (.rt (.tup [.tup ((srt raw).map tI), .tup (ws.map drawD)]) (pool a3 b3 :: R)) :=
    xs_ret (ev_tup (es_cons (ev_slot rfl) (es_cons (ev_bif (es_cons (ev_comp (it_range1' (ev_slot rfl) hok (compact_self _ rfl)) hcc unlk_free) es_nil) (f_tup_lst List.getElem?_concat_length)) es_nil)) (le_line rfl)) (compact_head R _ rfl hpu)
  refine ⟨n, srt raw, ws, a3, b3, hp3, ⟨by omega, by omega, hgood.1, by omega, ?_, hgood.2, hwl, hws⟩, ?_⟩
  · intro p q l hm
    obtain ⟨p', q', l', e, h0, h1, h2, h3, h4⟩ := hraw.rows hls _ ((srt_perm raw).mem_iff.mp hm)
    cases e; exact h4
  · exact r__law_land (fin_rt' (ss_nx hs3 (ss_nx hs4 (ss_rt hret))) (compact_head0 R rfl hpu))
end K13
set_option Elab.async false
set_option linter.all false
set_option maxRecDepth 100000
namespace K13
open PySem PySem.Spec PyProof.Rows PL L2
/-- steps of a run -/
local macro_rules | `(tactic| walk_at "pl") => `(tactic| repeat' (first
  | ((with_reducible apply hyp_get); (with_reducible assumption))
  | ((with_reducible apply call_get); (with_reducible assumption))
  | (with_reducible exact ev_cst) | (with_reducible exact es_nil) | (with_reducible exact et_nil) | (with_reducible exact eo_none) | (with_reducible exact ss_nil) | (with_reducible exact ev_dict0) | (with_reducible exact t_bl) | (with_reducible exact b_add) | (with_reducible exact b_mulb) | (with_reducible exact b_pow18) | (with_reducible exact b_sub) | (with_reducible exact f_int) | (with_reducible exact f_max) | (with_reducible exact f_min) | (with_reducible exact t_scr0) | (with_reducible exact t_scr1) | (with_reducible exact f_intb) | (with_reducible exact f_len_tup) | (with_reducible exact f_len_scr) | (with_reducible exact f_list_tup) | (with_reducible exact unlk_free) | (with_reducible exact not_tt) | (with_reducible exact not_ff) | (with_reducible exact not_k) | (with_reducible exact isa_int) | (with_reducible exact isa_bl) | (with_reducible exact isa_tup) | (with_reducible exact isa_obj) | (with_reducible exact get0) | (with_reducible exact get1) | (with_reducible exact get2) | (with_reducible exact par2) | (with_reducible exact par3) | (with_reducible exact bind_nm) | (with_reducible exact sn_rt) | (with_reducible exact k_tf) | (with_reducible exact k_ft)
  | ((with_reducible apply env_get); exact rfl) | ((with_reducible apply sto_get); exact rfl) | ((with_reducible apply atI_get'); exact rfl) | ((with_reducible apply ixN_get'); exact rfl) | ((with_reducible apply ar_get); exact rfl) | ((with_reducible apply gl_get); exact rfl) | ((with_reducible apply perm_get); exact rfl) | ((with_reducible apply bind_get); exact rfl) | ((with_reducible apply pure_t); (first | (with_reducible assumption) | (simp only [D.pure, D.pures, O.pure, Bool.and_self, Bool.and_true, Bool.true_and, List.set_cons_zero, List.set_cons_succ, Int.toNat_zero, Int.toNat_one]; done))) | ((with_reducible apply pure_o); (first | (with_reducible assumption) | (simp only [D.pure, D.pures, O.pure, Bool.and_self, Bool.and_true, Bool.true_and, List.set_cons_zero, List.set_cons_succ, Int.toNat_zero, Int.toNat_one]; done))) | ((with_reducible apply pures_t); (first | (with_reducible assumption) | (simp only [D.pure, D.pures, O.pure, Bool.and_self, Bool.and_true, Bool.true_and, List.set_cons_zero, List.set_cons_succ, Int.toNat_zero, Int.toNat_one]; done))) | ((with_reducible apply le_line); exact rfl) | ((with_reducible apply compact_self); (first | (with_reducible assumption) | (simp only [D.pure, D.pures, O.pure, Bool.and_self, Bool.and_true, Bool.true_and, List.set_cons_zero, List.set_cons_succ, Int.toNat_zero, Int.toNat_one]; done))) | ((with_reducible apply compact_app); (first | (with_reducible assumption) | (simp only [D.pure, D.pures, O.pure, Bool.and_self, Bool.and_true, Bool.true_and, List.set_cons_zero, List.set_cons_succ, Int.toNat_zero, Int.toNat_one]; done))) | ((with_reducible apply compact_new0); (first | (with_reducible assumption) | (simp only [D.pure, D.pures, O.pure, Bool.and_self, Bool.and_true, Bool.true_and, List.set_cons_zero, List.set_cons_succ, Int.toNat_zero, Int.toNat_one]; done)))
  | ((with_reducible apply lt_line); exact rfl)
  | ((with_reducible apply sto_eq); (simp only [List.set_cons_zero, List.set_cons_succ, List.cons_append, List.nil_append, Int.toNat_zero, Int.toNat_one]; done))
  | ((with_reducible apply sto_eq); (try simp only [List.set_cons_zero, List.set_cons_succ, List.cons_append, List.nil_append, Int.toNat_zero, Int.toNat_one]); exact rfl)
  | ((with_reducible apply env_eq); (try simp only [List.set_cons_zero, List.set_cons_succ]); exact rfl)
  | ((with_reducible apply b_mul); omega) | ((with_reducible apply b_fdiv) <;> omega) | ((with_reducible apply b_mod); omega)
  | ((with_reducible apply c_lt_t); omega) | ((with_reducible apply c_lt_f); omega) | ((with_reducible apply c_le_t); omega) | ((with_reducible apply c_le_f); omega) | ((with_reducible apply c_gt_t); omega) | ((with_reducible apply c_gt_f); omega) | ((with_reducible apply c_ge_t); omega) | ((with_reducible apply c_ge_f); omega) | ((with_reducible apply c_eq_t); omega) | ((with_reducible apply c_eq_f); omega) | ((with_reducible apply c_ne_t); omega) | ((with_reducible apply c_ne_f); omega) | ((with_reducible apply room_le); omega)
  | (with_reducible exact c_lt) | (with_reducible exact c_le) | (with_reducible exact c_gt) | (with_reducible exact c_ge) | (with_reducible exact c_eq) | (with_reducible exact c_ne)
  | (with_reducible apply f_len_lst) | (with_reducible apply f_tup_lst) | (with_reducible apply f_list_lst) | (with_reducible apply i_lst) | (with_reducible apply i_tup) | (with_reducible apply i_scr) | (with_reducible apply p_lst2)
  | ((with_reducible apply compact_head0) <;> (first | (with_reducible assumption) | (simp only [D.pure, D.pures, O.pure, Bool.and_self, Bool.and_true, Bool.true_and, List.set_cons_zero, List.set_cons_succ, Int.toNat_zero, Int.toNat_one]; done))) | ((with_reducible apply compact_head) <;> (first | (with_reducible assumption) | (simp only [D.pure, D.pures, O.pure, Bool.and_self, Bool.and_true, Bool.true_and, List.set_cons_zero, List.set_cons_succ, Int.toNat_zero, Int.toNat_one]; done)))
  | (with_reducible refine k_tt ?_) | (with_reducible refine k_ff ?_)
  | (with_reducible apply ev_slot) | (with_reducible apply ev_glob) | (with_reducible apply ev_bin) | (with_reducible apply ev_neg) | (with_reducible apply ev_not') | (with_reducible apply ev_cmp) | (with_reducible apply ev_chn) | (with_reducible apply ch_last) | (with_reducible apply ch_more') | (with_reducible apply ev_and') | (with_reducible apply ev_or') | (with_reducible apply ev_ite') | (with_reducible apply es_cons) | (with_reducible apply ev_tup) | (with_reducible apply ev_lst) | (with_reducible apply ev_idx) | (with_reducible apply eo_some) | (with_reducible apply ev_slc) | (with_reducible apply ev_fld) | (with_reducible apply ev_isa) | (with_reducible apply ev_call) | (with_reducible apply ev_callK) | (with_reducible apply ev_bif) | (with_reducible apply ev_meth) | (with_reducible apply ev_mk) | (with_reducible apply ev_comp) | (with_reducible apply et_one) | (with_reducible apply xs_set2) | (with_reducible apply xs_par) | (with_reducible apply xs_put) | (with_reducible apply xs_expr) | (with_reducible apply xs_ret) | (with_reducible apply xs_ite') | (with_reducible apply xs_unp) | (with_reducible apply ss_cons') | (with_reducible apply sn_nx) | (with_reducible apply fin') | (with_reducible apply fn_rt) | (with_reducible apply fn_nx) | (with_reducible apply m_append2)))
theorem x_law_tied (k : Nat) (S : Store) {rs : List (List Int)} (x : Int) (h3 : Rows3 rs) (hl : rs.length ≤ 1000) : callN P (k + 1) "_law_tied" [.tup (rs.map tI), .int x] S = some (.val (.loc S.length) (S ++ [.lst ((tiedI rs x).map tI)])) := by
  have hc1 : ∀ S, compI (compF (ixOf P k) (.tup (.cons (.slot 3) (.cons (.slot 4) .nil))) (.tup [.nm 2, .nm 3, .nm 4]) (.cons (.cmp .eq (.slot 2) (.slot 1)) .nil) [2, 3, 4] [some (.tup (rs.map tI)), some (.int x), none, none, none]) .free (rs.map tI) [] S = some ((rs.filterMap (ti1 x)).map tI, S) := by
    intro S
    have := compI_fm (f := compF (ixOf P k) (.tup (.cons (.slot 3) (.cons (.slot 4) .nil))) (.tup [.nm 2, .nm 3, .nm 4]) (.cons (.cmp .eq (.slot 2) (.slot 1)) .nil) [2, 3, 4] [some (.tup (rs.map tI)), some (.int x), none, none, none]) (src := .free) (S := S) (tD (ti1 x)) trivial (rs.map tI) [] ?_ (by simp only [List.length_nil, List.length_map]; show _ ≤ 16777216; omega)
    · rw [this, tD_map _ h3]; rfl
    · intro d hd
      obtain ⟨r, hr, rfl⟩ := List.mem_map.mp hd
      obtain ⟨p, q, l, rfl⟩ := h3 r hr
      have ht : ∀ S : Store, evTs (ixOf P k) (.cons (.cmp .eq (.slot 2) (.slot 1)) .nil) [some (.tup (rs.map tI)), some (.int x), some (.int p), some (.int q), some (.int l)] S = some (.val (decide (p = x)) S) := fun S => et_one (ev_cmp (ev_slot rfl) (ev_slot rfl) c_eq) rfl (compact_self _ rfl)
      by_cases e : p = x
      · have e2 : tD (ti1 x) (tI [p, q, l]) = some (tI [q, l]) := by
          show (ti1 x [p, q, l]).map tI = _
          rw [ti1, if_pos e]; rfl
        rw [e2]
        refine cf_t (env' := [some (.tup (rs.map tI)), some (.int x), some (.int p), some (.int q), some (.int l)]) rfl ((ht S).trans ?_) (ev_tup (es_cons (ev_slot rfl) (es_cons (ev_slot rfl) es_nil)) (le_line rfl)) (compact_self _ rfl)
        rw [decide_eq_true e]
      · have e2 : tD (ti1 x) (tI [p, q, l]) = none := by
          show (ti1 x [p, q, l]).map tI = _
          rw [ti1, if_neg e]; rfl
        rw [e2]
        refine cf_f (env' := [some (.tup (rs.map tI)), some (.int x), some (.int p), some (.int q), some (.int l)]) rfl ((ht S).trans ?_)
        rw [decide_eq_false e]
  have hc2 : ∀ S, compI (compF (ixOf P k) (.tup (.cons (.slot 2) (.cons (.slot 4) .nil))) (.tup [.nm 2, .nm 3, .nm 4]) (.cons (.cmp .eq (.slot 3) (.slot 1)) .nil) [2, 3, 4] [some (.tup (rs.map tI)), some (.int x), none, none, none]) .free (rs.map tI) [] S = some ((rs.filterMap (ti2 x)).map tI, S) := by
    intro S
    have := compI_fm (f := compF (ixOf P k) (.tup (.cons (.slot 2) (.cons (.slot 4) .nil))) (.tup [.nm 2, .nm 3, .nm 4]) (.cons (.cmp .eq (.slot 3) (.slot 1)) .nil) [2, 3, 4] [some (.tup (rs.map tI)), some (.int x), none, none, none]) (src := .free) (S := S) (tD (ti2 x)) trivial (rs.map tI) [] ?_ (by simp only [List.length_nil, List.length_map]; show _ ≤ 16777216; omega)
    · rw [this, tD_map _ h3]; rfl
    · intro d hd
      obtain ⟨r, hr, rfl⟩ := List.mem_map.mp hd
      obtain ⟨p, q, l, rfl⟩ := h3 r hr
      have ht : ∀ S : Store, evTs (ixOf P k) (.cons (.cmp .eq (.slot 3) (.slot 1)) .nil) [some (.tup (rs.map tI)), some (.int x), some (.int p), some (.int q), some (.int l)] S = some (.val (decide (q = x)) S) := fun S => et_one (ev_cmp (ev_slot rfl) (ev_slot rfl) c_eq) rfl (compact_self _ rfl)
      by_cases e : q = x
      · have e2 : tD (ti2 x) (tI [p, q, l]) = some (tI [p, l]) := by
          show (ti2 x [p, q, l]).map tI = _
          rw [ti2, if_pos e]; rfl
        rw [e2]
        refine cf_t (env' := [some (.tup (rs.map tI)), some (.int x), some (.int p), some (.int q), some (.int l)]) rfl ((ht S).trans ?_) (ev_tup (es_cons (ev_slot rfl) (es_cons (ev_slot rfl) es_nil)) (le_line rfl)) (compact_self _ rfl)
        rw [decide_eq_true e]
      · have e2 : tD (ti2 x) (tI [p, q, l]) = none := by
          show (ti2 x [p, q, l]).map tI = _
          rw [ti2, if_neg e]; rfl
        rw [e2]
        refine cf_f (env' := [some (.tup (rs.map tI)), some (.int x), some (.int p), some (.int q), some (.int l)]) rfl ((ht S).trans ?_)
        rw [decide_eq_false e]
  generalize hA : rs.filterMap (ti1 x) = A at hc1
  generalize hB : rs.filterMap (ti2 x) = B at hc2
  have hAl : A.length ≤ 1000 := by rw [← hA]; exact Nat.le_trans (List.length_filterMap_le _ _) hl
  have hBl : B.length ≤ 1000 := by rw [← hB]; exact Nat.le_trans (List.length_filterMap_le _ _) hl
  have hne : ∀ l ∈ A ++ B, l ≠ [] := by
    intro l hl
    rcases List.mem_append.mp hl with h | h
    · rw [← hA] at h
      obtain ⟨r, hr, e⟩ := List.mem_filterMap.mp h
      obtain ⟨p, q, m, rfl⟩ := h3 r hr
      rw [ti1] at e
      split at e
      · cases e; exact List.cons_ne_nil _ _
      · cases e
    · rw [← hB] at h
      obtain ⟨r, hr, e⟩ := List.mem_filterMap.mp h
      obtain ⟨p, q, m, rfl⟩ := h3 r hr
      rw [ti2] at e
      split at e
      · cases e; exact List.cons_ne_nil _ _
      · cases e
  have ht : tiedI rs x = srt (A ++ B) := by unfold tiedI; rw [hA, hB]
  rw [ht]
  have hit : ∀ S : Store, evIt (ixOf P k) (.val (.slot 0)) [some (.tup (rs.map tI)), some (.int x), none, none, none] S = some (.val (rs.map tI, .free) S) := fun S => it_tup' (ev_slot rfl) (compact_self _ (tI_pures rs))
  have hadd : evE (ixOf P k) (.bin .add (.comp (.tup (.cons (.slot 3) (.cons (.slot 4) .nil))) (.tup [.nm 2, .nm 3, .nm 4]) (.val (.slot 0)) (.cons (.cmp .eq (.slot 2) (.slot 1)) .nil) [2, 3, 4]) (.comp (.tup (.cons (.slot 2) (.cons (.slot 4) .nil))) (.tup [.nm 2, .nm 3, .nm 4]) (.val (.slot 0)) (.cons (.cmp .eq (.slot 3) (.slot 1)) .nil) [2, 3, 4])) [some (.tup (rs.map tI)), some (.int x), none, none, none] S = some (.val (.loc (S ++ [O.lst (A.map tI)] ++ [O.lst (B.map tI)]).length) (S ++ [O.lst (A.map tI)] ++ [O.lst (B.map tI)] ++ [O.lst ((A ++ B).map tI)])) := by
    have hb := b_lst (S := S ++ [O.lst (A.map tI)] ++ [O.lst (B.map tI)]) (j := S.length) (k := (S ++ [O.lst (A.map tI)]).length) (l := A.map tI) (m := B.map tI) (by rw [List.append_assoc, List.getElem?_append_right (Nat.le_refl _), Nat.sub_self]; rfl) List.getElem?_concat_length (by rw [List.length_map, List.length_map]; show _ ≤ 16777216; omega)
    rw [← List.map_append] at hb
    exact ev_bin (ev_comp (hit S) (hc1 S) (unlk_free ..)) (ev_comp (hit _) (hc2 _) (unlk_free ..)) hb
  have hc := compact_new (S := S) (S' := S ++ [O.lst (A.map tI)] ++ [O.lst (B.map tI)] ++ [O.lst ((A ++ B).map tI)] ++ [O.lst ((srt (A ++ B)).map tI)]) (n := (S ++ [O.lst (A.map tI)] ++ [O.lst (B.map tI)] ++ [O.lst ((A ++ B).map tI)]).length) (o := O.lst ((srt (A ++ B)).map tI)) (by rw [List.append_assoc, List.append_assoc, List.append_assoc]; exact kept_app _ _) (by simp) List.getElem?_concat_length (tI_pures _)
  rw [List.append_assoc, List.append_assoc, List.append_assoc, List.take_left] at hc
  have hret : exS (ixOf P k) (.ret (.bif .sorted (.cons (.bin .add (.comp (.tup (.cons (.slot 3) (.cons (.slot 4) .nil))) (.tup [.nm 2, .nm 3, .nm 4]) (.val (.slot 0)) (.cons (.cmp .eq (.slot 2) (.slot 1)) .nil) [2, 3, 4]) (.comp (.tup (.cons (.slot 2) (.cons (.slot 4) .nil))) (.tup [.nm 2, .nm 3, .nm 4]) (.val (.slot 0)) (.cons (.cmp .eq (.slot 3) (.slot 1)) .nil) [2, 3, 4])) .nil))) [some (.tup (rs.map tI)), some (.int x), none, none, none] S = some (.rt (.loc S.length) (S ++ [O.lst ((srt (A ++ B)).map tI)])) := by
    refine xs_ret (ev_bif (es_cons hadd es_nil) (f_sorted_tI List.getElem?_concat_length hne (by rw [List.length_append]; show _ ≤ 16777216; omega))) ?_
    rw [List.append_assoc, List.append_assoc, List.append_assoc]
    exact hc
  exact r__law_tied (fin_rt' (ss_rt hret) (compact_new0 _ (tI_pures _)))
end K13
set_option Elab.async false
set_option linter.all false
set_option maxRecDepth 100000
namespace K13
open PySem PySem.Spec PyProof.Rows PL L2
/-- steps of a run -/
local macro_rules | `(tactic| walk_at "pl") => `(tactic| repeat' (first
  | ((with_reducible apply hyp_get); (with_reducible assumption))
  | ((with_reducible apply call_get); (with_reducible assumption))
  | (with_reducible exact ev_cst) | (with_reducible exact es_nil) | (with_reducible exact et_nil) | (with_reducible exact eo_none) | (with_reducible exact ss_nil) | (with_reducible exact ev_dict0) | (with_reducible exact t_bl) | (with_reducible exact b_add) | (with_reducible exact b_mulb) | (with_reducible exact b_pow18) | (with_reducible exact b_sub) | (with_reducible exact f_int) | (with_reducible exact f_max) | (with_reducible exact f_min) | (with_reducible exact t_scr0) | (with_reducible exact t_scr1) | (with_reducible exact f_intb) | (with_reducible exact f_len_tup) | (with_reducible exact f_len_scr) | (with_reducible exact f_list_tup) | (with_reducible exact unlk_free) | (with_reducible exact not_tt) | (with_reducible exact not_ff) | (with_reducible exact not_k) | (with_reducible exact isa_int) | (with_reducible exact isa_bl) | (with_reducible exact isa_tup) | (with_reducible exact isa_obj) | (with_reducible exact get0) | (with_reducible exact get1) | (with_reducible exact get2) | (with_reducible exact par2) | (with_reducible exact par3) | (with_reducible exact bind_nm) | (with_reducible exact sn_rt) | (with_reducible exact k_tf) | (with_reducible exact k_ft)
  | ((with_reducible apply env_get); exact rfl) | ((with_reducible apply sto_get); exact rfl) | ((with_reducible apply atI_get'); exact rfl) | ((with_reducible apply ixN_get'); exact rfl) | ((with_reducible apply ar_get); exact rfl) | ((with_reducible apply gl_get); exact rfl) | ((with_reducible apply perm_get); exact rfl) | ((with_reducible apply bind_get); exact rfl) | ((with_reducible apply pure_t); (first | (with_reducible assumption) | (simp only [D.pure, D.pures, O.pure, Bool.and_self, Bool.and_true, Bool.true_and, List.set_cons_zero, List.set_cons_succ, Int.toNat_zero, Int.toNat_one]; done))) | ((with_reducible apply pure_o); (first | (with_reducible assumption) | (simp only [D.pure, D.pures, O.pure, Bool.and_self, Bool.and_true, Bool.true_and, List.set_cons_zero, List.set_cons_succ, Int.toNat_zero, Int.toNat_one]; done))) | ((with_reducible apply pures_t); (first | (with_reducible assumption) | (simp only [D.pure, D.pures, O.pure, Bool.and_self, Bool.and_true, Bool.true_and, List.set_cons_zero, List.set_cons_succ, Int.toNat_zero, Int.toNat_one]; done))) | ((with_reducible apply le_line); exact rfl) | ((with_reducible apply compact_self); (first | (with_reducible assumption) | (simp only [D.pure, D.pures, O.pure, Bool.and_self, Bool.and_true, Bool.true_and, List.set_cons_zero, List.set_cons_succ, Int.toNat_zero, Int.toNat_one]; done))) | ((with_reducible apply compact_app); (first | (with_reducible assumption) | (simp only [D.pure, D.pures, O.pure, Bool.and_self, Bool.and_true, Bool.true_and, List.set_cons_zero, List.set_cons_succ, Int.toNat_zero, Int.toNat_one]; done))) | ((with_reducible apply compact_new0); (first | (with_reducible assumption) | (simp only [D.pure, D.pures, O.pure, Bool.and_self, Bool.and_true, Bool.true_and, List.set_cons_zero, List.set_cons_succ, Int.toNat_zero, Int.toNat_one]; done)))
  | ((with_reducible apply lt_line); exact rfl)
  | ((with_reducible apply sto_eq); (simp only [List.set_cons_zero, List.set_cons_succ, List.cons_append, List.nil_append, Int.toNat_zero, Int.toNat_one]; done))
  | ((with_reducible apply sto_eq); (try simp only [List.set_cons_zero, List.set_cons_succ, List.cons_append, List.nil_append, Int.toNat_zero, Int.toNat_one]); exact rfl)
  | ((with_reducible apply env_eq); (try simp only [List.set_cons_zero, List.set_cons_succ]); exact rfl)
  | ((with_reducible apply b_mul); omega) | ((with_reducible apply b_fdiv) <;> omega) | ((with_reducible apply b_mod); omega)
  | ((with_reducible apply c_lt_t); omega) | ((with_reducible apply c_lt_f); omega) | ((with_reducible apply c_le_t); omega) | ((with_reducible apply c_le_f); omega) | ((with_reducible apply c_gt_t); omega) | ((with_reducible apply c_gt_f); omega) | ((with_reducible apply c_ge_t); omega) | ((with_reducible apply c_ge_f); omega) | ((with_reducible apply c_eq_t); omega) | ((with_reducible apply c_eq_f); omega) | ((with_reducible apply c_ne_t); omega) | ((with_reducible apply c_ne_f); omega) | ((with_reducible apply room_le); omega)
  | (with_reducible exact c_lt) | (with_reducible exact c_le) | (with_reducible exact c_gt) | (with_reducible exact c_ge) | (with_reducible exact c_eq) | (with_reducible exact c_ne)
  | (with_reducible apply f_len_lst) | (with_reducible apply f_tup_lst) | (with_reducible apply f_list_lst) | (with_reducible apply i_lst) | (with_reducible apply i_tup) | (with_reducible apply i_scr) | (with_reducible apply p_lst2)
  | ((with_reducible apply compact_head0) <;> (first | (with_reducible assumption) | (simp only [D.pure, D.pures, O.pure, Bool.and_self, Bool.and_true, Bool.true_and, List.set_cons_zero, List.set_cons_succ, Int.toNat_zero, Int.toNat_one]; done))) | ((with_reducible apply compact_head) <;> (first | (with_reducible assumption) | (simp only [D.pure, D.pures, O.pure, Bool.and_self, Bool.and_true, Bool.true_and, List.set_cons_zero, List.set_cons_succ, Int.toNat_zero, Int.toNat_one]; done)))
  | (with_reducible refine k_tt ?_) | (with_reducible refine k_ff ?_)
  | (with_reducible apply ev_slot) | (with_reducible apply ev_glob) | (with_reducible apply ev_bin) | (with_reducible apply ev_neg) | (with_reducible apply ev_not') | (with_reducible apply ev_cmp) | (with_reducible apply ev_chn) | (with_reducible apply ch_last) | (with_reducible apply ch_more') | (with_reducible apply ev_and') | (with_reducible apply ev_or') | (with_reducible apply ev_ite') | (with_reducible apply es_cons) | (with_reducible apply ev_tup) | (with_reducible apply ev_lst) | (with_reducible apply ev_idx) | (with_reducible apply eo_some) | (with_reducible apply ev_slc) | (with_reducible apply ev_fld) | (with_reducible apply ev_isa) | (with_reducible apply ev_call) | (with_reducible apply ev_callK) | (with_reducible apply ev_bif) | (with_reducible apply ev_meth) | (with_reducible apply ev_mk) | (with_reducible apply ev_comp) | (with_reducible apply et_one) | (with_reducible apply xs_set2) | (with_reducible apply xs_par) | (with_reducible apply xs_put) | (with_reducible apply xs_expr) | (with_reducible apply xs_ret) | (with_reducible apply xs_ite') | (with_reducible apply xs_unp) | (with_reducible apply ss_cons') | (with_reducible apply sn_nx) | (with_reducible apply fin') | (with_reducible apply fn_rt) | (with_reducible apply fn_nx) | (with_reducible apply m_append2)))
/-! the law's own side of a road -/
@[reducible] def sst (S : Store) (F W : List Int) : Store := S ++ [O.lst (F.map D.int), O.lst (W.map D.int)]
@[reducible] def sbody : List IS := [.ite (.cmp .notin (.slot 5) (.slot 3)) [
        .expr (.meth .append (.slot 3) (.cons (.slot 5) .nil)),
        .expr (.meth .append (.slot 4) (.cons (.slot 5) .nil))] []]
theorem sst_pure (F W : List Int) : ∀ o ∈ [O.lst (F.map D.int), O.lst (W.map D.int)], o.pure = true := by
  intro o ho
  rcases List.mem_cons.mp ho with h | h
  · subst h; exact pures_ints F
  · rw [List.mem_singleton] at h
    subst h; exact pures_ints W
@[reducible] def senv (S : Store) (ro rd : D) (x : Int) (e5 e6 : Option D) : PL.Env := [some ro, some rd, some (.int x), some (.loc S.length), some (.loc (S.length + 1)), e5, e6]
theorem side_in (k : Nat) (S : Store) {ro rd : D} {x y l : Int} {e5 e6 : Option D} {F W : List Int} (hF : F.length < 100) (hW : W.length < 1000) :
    forF (ixOf P k) (.tup [.nm 5, .nm 6]) sbody (tI [y, l]) (senv S ro rd x e5 e6) (sst S F W) = some (.nx (senv S ro rd x (some (.int y)) (some (.int l))) (if y ∈ F then sst S F W else sst S (F ++ [y]) (W ++ [y]))) := by
  have g0 : ∀ F W, (sst S F W)[S.length]? = some (O.lst (F.map D.int)) := fun F W => getT S _ 0
  have g1 : ∀ F W, (sst S F W)[S.length + 1]? = some (O.lst (W.map D.int)) := fun F W => getT S _ 1
  refine ff_bind (env' := senv S ro rd x (some (.int y)) (some (.int l))) rfl ?_
  have ht := ev_cmp (ix := ixOf P k) (env := senv S ro rd x (some (.int y)) (some (.int l))) (S := sst S F W) (a := .slot 5) (b := .slot 3) (ev_slot rfl) (ev_slot rfl) (c_notin_ints (y := y) (g0 F W))
  by_cases hy : y ∈ F
  · rw [if_pos hy]
    rw [decide_eq_true hy] at ht
    exact ss_nx (xs_ite_f ht rfl (compact_self _ rfl) ss_nil) ss_nil
  · rw [if_neg hy]
    rw [decide_eq_false hy] at ht
    have hm0 := m_append2 (d := .int y) (g0 F W) (by rw [List.length_map]; show _ < 16777216; omega) (setT S [O.lst (F.map D.int), O.lst (W.map D.int)] 0 _)
    have e0 : S ++ [O.lst (F.map D.int), O.lst (W.map D.int)].set 0 (O.lst (F.map D.int ++ [.int y])) = sst S (F ++ [y]) W := by
      show _ = S ++ [O.lst ((F ++ [y]).map D.int), _]
      rw [List.map_append]; rfl
    rw [e0] at hm0
    have hm := m_append2 (d := .int y) (g1 (F ++ [y]) W) (by rw [List.length_map]; show _ < 16777216; omega) (setT S _ 1 _)
    have e2 : S ++ [O.lst ((F ++ [y]).map D.int), O.lst (W.map D.int)].set 1 (O.lst (W.map D.int ++ [.int y])) = sst S (F ++ [y]) (W ++ [y]) := by
      show _ = S ++ [_, O.lst ((W ++ [y]).map D.int)]
      rw [show (W ++ [y]).map D.int = W.map D.int ++ [D.int y] by rw [List.map_append]; rfl]; rfl
    rw [e2] at hm
    refine ss_nx (xs_ite_t ht rfl (compact_self _ rfl) (ss_nx (xs_expr (ev_meth (ev_slot rfl) (recv_lst (g0 _ _)) (es_cons (ev_slot rfl) es_nil) hm0) (compact_tail0 S rfl (sst_pure _ _) rfl)) (ss_nx (xs_expr (ev_meth (ev_slot rfl) (recv_lst (g1 _ _)) (es_cons (ev_slot rfl) es_nil) hm) (compact_tail0 S rfl (sst_pure _ _) rfl)) ss_nil))) ss_nil
theorem side_for (k : Nat) (S : Store) {ro rd : D} {x : Int} {n : Nat} (hn : n ≤ 50) : ∀ (ts : List (List Int)), (∀ t ∈ ts, ∃ y l, t = [y, l] ∧ 0 ≤ y ∧ y < n) → ∀ (e5 e6 : Option D) (F W : List Int), F.Nodup → (∀ u ∈ F, 0 ≤ u ∧ u < n) → (∀ u ∈ W, u ∈ F) → 2 * (n - F.length) + W.length ≤ 200 →
    ∃ F' W' e5' e6', forI (forF (ixOf P k) (.tup [.nm 5, .nm 6]) sbody) .free (ts.map tI) (senv S ro rd x e5 e6) (sst S F W) = some (.nx (senv S ro rd x e5' e6') (sst S F' W')) ∧ F'.Nodup ∧ (∀ u ∈ F', 0 ≤ u ∧ u < n) ∧ (∀ u ∈ W', u ∈ F') ∧ (∀ u ∈ F, u ∈ F') ∧ (∀ u ∈ W, u ∈ W') ∧ (∀ u ∈ F', u ∈ F ∨ (u ∈ W' ∧ ∃ l, [u, l] ∈ ts)) ∧ (∀ y l, [y, l] ∈ ts → y ∈ F') ∧ 2 * (n - F'.length) + W'.length ≤ 2 * (n - F.length) + W.length
  | [], _, e5, e6, F, W, h1, h2, h3, h4 => ⟨F, W, e5, e6, by unfold forI; rw [List.map_nil]; exact if_pos trivial, h1, h2, h3, fun u h => h, fun u h => h, fun u h => .inl h, fun y l h => by simp at h, Nat.le_refl _⟩
  | t :: ts, ht, e5, e6, F, W, h1, h2, h3, h4 => by
    obtain ⟨y, l, rfl, y0, y1⟩ := ht t List.mem_cons_self
    have hl := few n F h1 h2
    have hb := side_in k S (ro := ro) (rd := rd) (x := x) (y := y) (l := l) (e5 := e5) (e6 := e6) (F := F) (W := W) (by omega) (by omega)
    by_cases hy : y ∈ F
    · rw [if_pos hy] at hb
      obtain ⟨F', W', e5', e6', g, g1, g2, g3, g4, g5, g6, g7, g8⟩ := side_for k S (ro := ro) (rd := rd) (x := x) hn ts (fun t h => ht t (List.mem_cons_of_mem _ h)) (some (.int y)) (some (.int l)) F W h1 h2 h3 h4
      refine ⟨F', W', e5', e6', ?_, g1, g2, g3, g4, g5, fun u hu => (g6 u hu).imp id fun h => ⟨h.1, h.2.elim fun l hl => ⟨l, List.mem_cons_of_mem _ hl⟩⟩, ?_, g8⟩
      · rw [List.map_cons]
        unfold forI
        rw [if_pos (show Src.ok _ .free from trivial), hb]
        exact g
      · intro y' l' h
        rcases List.mem_cons.mp h with h | h
        · cases h; exact g4 _ hy
        · exact g7 _ _ h
    · rw [if_neg hy] at hb
      have hnd : (F ++ [y]).Nodup := by
        rw [List.nodup_append]
        refine ⟨h1, by simp, ?_⟩
        intro a ha b hb
        rw [List.mem_singleton] at hb
        subst hb
        exact fun e => hy (e ▸ ha)
      have hin : ∀ u ∈ F ++ [y], 0 ≤ u ∧ u < n := by
        intro u hu
        rcases List.mem_append.mp hu with h | h
        · exact h2 u h
        · rw [List.mem_singleton] at h; subst h; exact ⟨y0, y1⟩
      have hl2 := few n _ hnd hin
      simp only [List.length_append, List.length_cons, List.length_nil] at hl2
      obtain ⟨F', W', e5', e6', g, g1, g2, g3, g4, g5, g6, g7, g8⟩ := side_for k S (ro := ro) (rd := rd) (x := x) hn ts (fun t h => ht t (List.mem_cons_of_mem _ h)) (some (.int y)) (some (.int l)) (F ++ [y]) (W ++ [y]) hnd hin (fun u hu => by
        rcases List.mem_append.mp hu with h | h
        · exact List.mem_append_left _ (h3 u h)
        · exact List.mem_append_right _ h) (by simp only [List.length_append, List.length_cons, List.length_nil]; omega)
      refine ⟨F', W', e5', e6', ?_, g1, g2, g3, fun u hu => g4 u (List.mem_append_left _ hu), fun u hu => g5 u (List.mem_append_left _ hu), ?_, ?_, ?_⟩
      · rw [List.map_cons]
        unfold forI
        rw [if_pos (show Src.ok _ .free from trivial), hb]
        exact g
      · intro u hu
        rcases g6 u hu with h | h
        · rcases List.mem_append.mp h with h | h
          · exact .inl h
          · rw [List.mem_singleton] at h
            subst h
            exact .inr ⟨g5 _ (by simp), l, List.mem_cons_self⟩
        · exact .inr ⟨h.1, h.2.elim fun l hl => ⟨l, List.mem_cons_of_mem _ hl⟩⟩
      · intro y' l' h
        rcases List.mem_cons.mp h with h | h
        · cases h; exact g4 _ (by simp)
        · exact g7 _ _ h
      · simp only [List.length_append, List.length_cons, List.length_nil] at g8
        omega
theorem InR.cut {n : Nat} {rs : List (List Int)} (h : InR n rs) (j : Nat) : InR n (cutR rs j) := fun r hr => h r (by
  rcases List.mem_append.mp hr with h | h
  · exact List.mem_of_mem_take h
  · exact List.mem_of_mem_drop h)
@[reducible] def stest : IE := .cmp .ne (.slot 4) (.lst (.nil))
@[reducible] def scall : IE := .call "_law_tied" (.cons (.bin .add (.slc (.slot 0) none (some (.slot 1))) (.slc (.slot 0) (some (.bin .add (.slot 1) (.cst (.int 1)))) none)) (.cons (.meth .pop (.slot 4) (.nil)) .nil)) [] []
@[reducible] def swork : List IS := [.for_ (.tup [.nm 5, .nm 6]) (.val scall) sbody]
theorem side_test (k : Nat) (S : Store) {ro rd : D} {x : Int} {e5 e6 : Option D} {F W : List Int} : tstR (sst S F W) (evE (ixOf P k) stest (senv S ro rd x e5 e6) (sst S F W)) = some (.val (!W.isEmpty) (sst S F W)) := by
  have g1 : (sst S F W)[S.length + 1]? = some (O.lst (W.map D.int)) := getT S _ 1
  have g2 : (sst S F W ++ [O.lst []])[S.length + 1]? = some (O.lst (W.map D.int)) := by
    rw [List.getElem?_append_left (List.getElem?_eq_some_iff.mp g1).1]; exact g1
  exact tst_of (ev_cmp (ev_slot rfl) (ev_lst es_nil (le_line rfl)) (c_ne_nil g2 List.getElem?_concat_length)) rfl (compact_app _ _ rfl)
theorem side_work (k : Nat) (S : Store) {x v : Int} {n j : Nat} (hn : n ≤ 50) {rs : List (List Int)} (hr : InR n rs) (hl : rs.length ≤ 100) (hj : j < rs.length) {e5 e6 : Option D} {F W : List Int} (hi : RInv (cutR rs j) x n F (W ++ [v])) (hm : 2 * (n - F.length) + (W ++ [v]).length ≤ 200) :
    ∃ F' W' e5' e6', exSs (ixOf P (k + 1)) swork (senv S (.tup (rs.map tI)) (.int j) x e5 e6) (sst S F (W ++ [v])) = some (.nx (senv S (.tup (rs.map tI)) (.int j) x e5' e6') (sst S F' W')) ∧ RInv (cutR rs j) x n F' W' ∧ 2 * (n - F'.length) + W'.length < 2 * (n - F.length) + (W ++ [v]).length := by
  obtain ⟨i1, i2, i3, i4, i5, i6⟩ := hi
  have hr2 := hr.cut j
  have hlen2 : (cutR rs j).length ≤ 1000 := by
    rw [List.length_append, List.length_take, List.length_drop]; omega
  simp only [List.length_append, List.length_cons, List.length_nil] at hm
  have hv : v ∈ F := i3 v (by simp)
  obtain ⟨F', W', e5', e6', g, g1, g2, g3, g4, g5, g6, g7, g8⟩ := side_for (k + 1) S (ro := .tup (rs.map tI)) (rd := .int j) (x := x) hn (tiedI (cutR rs j) v) (fun t ht => by
    obtain ⟨y, l, e, h⟩ := (mem_tiedI hr2.rows).mp ht
    exact ⟨y, l, e, hr2.tie ⟨l, h⟩⟩) e5 e6 F W i1 i2 (fun u hu => i3 u (List.mem_append_left _ hu)) (by omega)
  refine ⟨F', W', e5', e6', ?_, ⟨g1, g2, g3, g4 _ i4, ?_, ?_⟩, by simp only [List.length_append, List.length_cons, List.length_nil]; omega⟩
  · have q1 : (sst S F (W ++ [v]))[S.length + 1]? = some (O.lst (W.map D.int ++ [.int v])) := by
      have := getT S [O.lst (F.map D.int), O.lst ((W ++ [v]).map D.int)] 1
      rw [this, List.map_append]; rfl
    have q2 : (sst S F (W ++ [v])).set (S.length + 1) (O.lst (W.map D.int)) = sst S F W := setT S _ 1 _
    have hp := m_pop q1
    rw [q2] at hp
    have s1 : ∀ S, slcD (.tup (rs.map tI)) none (some (j : Int)) S = some (.tup ((rs.take j).map tI), S) := fun S => by
      show some (D.tup (PL.cutD _ _ _), S) = _
      rw [cut_to (by rw [List.length_map]; omega), List.map_take]
    have s2 : ∀ S, slcD (.tup (rs.map tI)) (some ((j : Int) + 1)) none S = some (.tup ((rs.drop (j + 1)).map tI), S) := fun S => by
      show some (D.tup (PL.cutD _ (some ((j + 1 : Nat) : Int)) _), S) = _
      rw [cut_from (by rw [List.length_map]; omega), List.map_drop]
    have hb : ∀ S, binD .add (.tup ((rs.take j).map tI)) (.tup ((rs.drop (j + 1)).map tI)) S = some (.tup ((cutR rs j).map tI), S) := fun S => by
      have := b_tup (S := S) (l := (rs.take j).map tI) (m := (rs.drop (j + 1)).map tI) (by
        rw [List.length_map, List.length_map, List.length_take, List.length_drop]; show _ ≤ 16777216; omega)
      rwa [← List.map_append] at this
    have hc : evE (ixOf P (k + 1)) scall (senv S (.tup (rs.map tI)) (.int j) x e5 e6) (sst S F (W ++ [v])) = some (.val (.loc (sst S F W).length) (sst S F W ++ [.lst ((tiedI (cutR rs j) v).map tI)])) :=
      ev_call (es_cons (ev_bin (ev_slc (ev_slot rfl) eo_none (eo_some (ev_slot rfl)) (s1 _)) (ev_slc (ev_slot rfl) (eo_some (ev_bin (ev_slot rfl) ev_cst b_add)) eo_none (s2 _)) (hb _)) (es_cons (ev_meth (ev_slot rfl) (recv_pop q1) es_nil hp) es_nil)) (call_get (x_law_tied k _ v hr2.rows hlen2))
    have hk : Kept (sst S F (W ++ [v])) (sst S F W ++ [.lst ((tiedI (cutR rs j) v).map tI)]) := kept_tail S rfl (sst_pure F W)
    have hlen : (sst S F (W ++ [v])).length = (sst S F W).length := by simp
    have hcm := compact_new hk (n := (sst S F W).length) (by rw [hlen]; exact Nat.le_refl _) List.getElem?_concat_length (show (O.lst ((tiedI (cutR rs j) v).map tI)).pure = true from tI_pures _)
    rw [hlen, List.take_left] at hcm
    have hit := it_new hc hcm List.getElem?_concat_length (by rw [hlen]; exact Nat.le_refl _) (tI_pures _) hk
    rw [hlen, List.take_left] at hit
    exact ss_nx (xs_for hit (for_free g)) ss_nil
  · intro u hu
    rcases g6 u hu with h | ⟨_, l, h⟩
    · exact i5 u h
    · obtain ⟨y, l', e, ht⟩ := (mem_tiedI hr2.rows).mp h
      cases e
      exact .step (i5 v hv) ⟨_, ht⟩
  · intro u hu hw z hz
    rcases g6 u hu with h | ⟨h, _⟩
    · by_cases e : u = v
      · subst e
        obtain ⟨l, ht⟩ := hz
        exact g7 z l ((mem_tiedI hr2.rows).mpr ⟨z, l, rfl, ht⟩)
      · refine g4 _ (i6 u h (fun hw' => ?_) z hz)
        rcases List.mem_append.mp hw' with h' | h'
        · exact hw (g5 u h')
        · rw [List.mem_singleton] at h'; exact e h'
    · exact absurd h hw
theorem side_while (k : Nat) (S : Store) {x : Int} {n j : Nat} (hn : n ≤ 50) {rs : List (List Int)} (hr : InR n rs) (hl : rs.length ≤ 100) (hj : j < rs.length) : ∀ (fuel : Nat) (e5 e6 : Option D) (F W : List Int), RInv (cutR rs j) x n F W → 2 * (n - F.length) + W.length < fuel → 2 * (n - F.length) + W.length ≤ 200 →
    ∃ F' e5' e6', whileI (fun env S => tstR S (evE (ixOf P (k + 1)) stest env S)) (fun env S => exSs (ixOf P (k + 1)) swork env S) fuel (senv S (.tup (rs.map tI)) (.int j) x e5 e6) (sst S F W) = some (.nx (senv S (.tup (rs.map tI)) (.int j) x e5' e6') (sst S F' [])) ∧ RInv (cutR rs j) x n F' []
  | 0, _, _, _, _, _, h, _ => by omega
  | fuel + 1, e5, e6, F, W, hi, h, h2 => by
    have ht := side_test (k + 1) S (ro := .tup (rs.map tI)) (rd := .int j) (x := x) (e5 := e5) (e6 := e6) (F := F) (W := W)
    rcases List.eq_nil_or_concat W with e | ⟨W0, v, e⟩
    · subst e
      refine ⟨F, e5, e6, ?_, hi⟩
      unfold whileI
      rw [ht, sbnd_val, if_neg (by decide)]
    · rw [List.concat_eq_append] at e
      subst e
      obtain ⟨F', W', e5', e6', g1, g2, g3⟩ := side_work k S hn hr hl hj (e5 := e5) (e6 := e6) hi h2
      obtain ⟨F2, e52, e62, g4, g5⟩ := side_while k S hn hr hl hj fuel e5' e6' F' W' g2 (by omega) (by omega)
      refine ⟨F2, e52, e62, ?_, g5⟩
      have hne : (!(W0 ++ [v]).isEmpty) = true := by cases W0 <;> rfl
      unfold whileI
      rw [ht, sbnd_val, if_pos hne, g1]
      exact g4
theorem x_law_side (k : Nat) (S : Store) {x : Int} {n j : Nat} (hn : n ≤ 50) {rs : List (List Int)} (hr : InR n rs) (hl : rs.length ≤ 100) (hj : j < rs.length) (hx0 : 0 ≤ x) (hx1 : x < n) :
    ∃ G : List Int, G.length ≤ n ∧ (∀ u, u ∈ G ↔ Conn (cutR rs j) x u) ∧ callN P (k + 2) "_law_side" [.tup (rs.map tI), .int j, .int x] S = some (.val (.loc S.length) (S ++ [.lst (G.map D.int)])) := by
  obtain ⟨F, e5, e6, hw, i1, i2, i3, i4, i5, i6⟩ := side_while k S hn hr hl hj turns none none [x] [x] ⟨by simp, fun u hu => by rw [List.mem_singleton] at hu; subst hu; exact ⟨hx0, hx1⟩, fun u hu => hu, List.mem_cons_self, fun u hu => by rw [List.mem_singleton] at hu; subst hu; exact .refl, fun u hu hw => absurd hu hw⟩ (by
    show _ < turns
    have : 200 < turns := by decide
    simp only [List.length_cons, List.length_nil]; omega) (by simp only [List.length_cons, List.length_nil]; omega)
  have hF := few n F i1 i2
  refine ⟨F, hF, fun u => ?_, ?_⟩
  · refine ⟨i5 u, fun h => ?_⟩
    induction h with
    | refl => exact i4
    | step _ ht ih => exact i6 _ ih (by simp) _ ht
  · have hpar : exS (ixOf P (k + 1)) (.par [3, 4] (.cons (.lst (.cons (.slot 2) .nil)) (.cons (.lst (.cons (.slot 2) .nil)) .nil))) [some (.tup (rs.map tI)), some (.int j), some (.int x), none, none, none, none] S = some (.nx (senv S (.tup (rs.map tI)) (.int j) x none none) (sst S [x] [x])) := by
      have h1 : evE (ixOf P (k + 1)) (.lst (.cons (.slot 2) .nil)) [some (.tup (rs.map tI)), some (.int j), some (.int x), none, none, none, none] S = some (.val (.loc S.length) (S ++ [O.lst [.int x]])) := ev_lst (es_cons (ev_slot rfl) es_nil) (le_line rfl)
      have h2 : evE (ixOf P (k + 1)) (.lst (.cons (.slot 2) .nil)) [some (.tup (rs.map tI)), some (.int j), some (.int x), none, none, none, none] (S ++ [O.lst [.int x]]) = some (.val (.loc (S.length + 1)) (sst S [x] [x])) := by
        have := ev_lst (ix := ixOf P (k + 1)) (env := [some (.tup (rs.map tI)), some (.int j), some (.int x), none, none, none, none]) (S := S ++ [O.lst [.int x]]) (es := .cons (.slot 2) .nil) (es_cons (ev_slot rfl) es_nil) (le_line rfl)
        rw [List.length_append, List.append_assoc] at this
        exact this
      exact xs_par (es_cons h1 (es_cons h2 es_nil)) par2
    have hret : exS (ixOf P (k + 1)) (.ret (.slot 3)) (senv S (.tup (rs.map tI)) (.int j) x e5 e6) (sst S F []) = some (.rt (.loc S.length) (sst S F [])) :=
      xs_ret (ev_slot rfl) (compact_loc _ (by simp))
    refine r__law_side (fin_rt' (ss_nx hpar (ss_nx (xs_while hw) (ss_rt hret))) ?_)
    have := compact_new (S := S) (S' := sst S F []) (n := S.length) (o := O.lst (F.map D.int)) (kept_app _ _) (Nat.le_refl _) (getT S _ 0) (pures_ints F)
    rw [this, List.take_left]
end K13
set_option Elab.async false
set_option linter.all false
set_option maxRecDepth 100000
namespace K13
open PySem PySem.Spec PyProof.Rows PL L2
/-- steps of a run -/
local macro_rules | `(tactic| walk_at "pl") => `(tactic| repeat' (first
  | ((with_reducible apply hyp_get); (with_reducible assumption))
  | ((with_reducible apply call_get); (with_reducible assumption))
  | (with_reducible exact ev_cst) | (with_reducible exact es_nil) | (with_reducible exact et_nil) | (with_reducible exact eo_none) | (with_reducible exact ss_nil) | (with_reducible exact ev_dict0) | (with_reducible exact t_bl) | (with_reducible exact b_add) | (with_reducible exact b_mulb) | (with_reducible exact b_pow18) | (with_reducible exact b_sub) | (with_reducible exact f_int) | (with_reducible exact f_max) | (with_reducible exact f_min) | (with_reducible exact t_scr0) | (with_reducible exact t_scr1) | (with_reducible exact f_intb) | (with_reducible exact f_len_tup) | (with_reducible exact f_len_scr) | (with_reducible exact f_list_tup) | (with_reducible exact unlk_free) | (with_reducible exact not_tt) | (with_reducible exact not_ff) | (with_reducible exact not_k) | (with_reducible exact isa_int) | (with_reducible exact isa_bl) | (with_reducible exact isa_tup) | (with_reducible exact isa_obj) | (with_reducible exact get0) | (with_reducible exact get1) | (with_reducible exact get2) | (with_reducible exact par2) | (with_reducible exact par3) | (with_reducible exact bind_nm) | (with_reducible exact sn_rt) | (with_reducible exact k_tf) | (with_reducible exact k_ft)
  | ((with_reducible apply env_get); exact rfl) | ((with_reducible apply sto_get); exact rfl) | ((with_reducible apply atI_get'); exact rfl) | ((with_reducible apply ixN_get'); exact rfl) | ((with_reducible apply ar_get); exact rfl) | ((with_reducible apply gl_get); exact rfl) | ((with_reducible apply perm_get); exact rfl) | ((with_reducible apply bind_get); exact rfl) | ((with_reducible apply pure_t); (first | (with_reducible assumption) | (simp only [D.pure, D.pures, O.pure, Bool.and_self, Bool.and_true, Bool.true_and, List.set_cons_zero, List.set_cons_succ, Int.toNat_zero, Int.toNat_one]; done))) | ((with_reducible apply pure_o); (first | (with_reducible assumption) | (simp only [D.pure, D.pures, O.pure, Bool.and_self, Bool.and_true, Bool.true_and, List.set_cons_zero, List.set_cons_succ, Int.toNat_zero, Int.toNat_one]; done))) | ((with_reducible apply pures_t); (first | (with_reducible assumption) | (simp only [D.pure, D.pures, O.pure, Bool.and_self, Bool.and_true, Bool.true_and, List.set_cons_zero, List.set_cons_succ, Int.toNat_zero, Int.toNat_one]; done))) | ((with_reducible apply le_line); exact rfl) | ((with_reducible apply compact_self); (first | (with_reducible assumption) | (simp only [D.pure, D.pures, O.pure, Bool.and_self, Bool.and_true, Bool.true_and, List.set_cons_zero, List.set_cons_succ, Int.toNat_zero, Int.toNat_one]; done))) | ((with_reducible apply compact_app); (first | (with_reducible assumption) | (simp only [D.pure, D.pures, O.pure, Bool.and_self, Bool.and_true, Bool.true_and, List.set_cons_zero, List.set_cons_succ, Int.toNat_zero, Int.toNat_one]; done))) | ((with_reducible apply compact_new0); (first | (with_reducible assumption) | (simp only [D.pure, D.pures, O.pure, Bool.and_self, Bool.and_true, Bool.true_and, List.set_cons_zero, List.set_cons_succ, Int.toNat_zero, Int.toNat_one]; done)))
  | ((with_reducible apply lt_line); exact rfl)
  | ((with_reducible apply sto_eq); (simp only [List.set_cons_zero, List.set_cons_succ, List.cons_append, List.nil_append, Int.toNat_zero, Int.toNat_one]; done))
  | ((with_reducible apply sto_eq); (try simp only [List.set_cons_zero, List.set_cons_succ, List.cons_append, List.nil_append, Int.toNat_zero, Int.toNat_one]); exact rfl)
  | ((with_reducible apply env_eq); (try simp only [List.set_cons_zero, List.set_cons_succ]); exact rfl)
  | ((with_reducible apply b_mul); omega) | ((with_reducible apply b_fdiv) <;> omega) | ((with_reducible apply b_mod); omega)
  | ((with_reducible apply c_lt_t); omega) | ((with_reducible apply c_lt_f); omega) | ((with_reducible apply c_le_t); omega) | ((with_reducible apply c_le_f); omega) | ((with_reducible apply c_gt_t); omega) | ((with_reducible apply c_gt_f); omega) | ((with_reducible apply c_ge_t); omega) | ((with_reducible apply c_ge_f); omega) | ((with_reducible apply c_eq_t); omega) | ((with_reducible apply c_eq_f); omega) | ((with_reducible apply c_ne_t); omega) | ((with_reducible apply c_ne_f); omega) | ((with_reducible apply room_le); omega)
  | (with_reducible exact c_lt) | (with_reducible exact c_le) | (with_reducible exact c_gt) | (with_reducible exact c_ge) | (with_reducible exact c_eq) | (with_reducible exact c_ne)
  | (with_reducible apply f_len_lst) | (with_reducible apply f_tup_lst) | (with_reducible apply f_list_lst) | (with_reducible apply i_lst) | (with_reducible apply i_tup) | (with_reducible apply i_scr) | (with_reducible apply p_lst2)
  | ((with_reducible apply compact_head0) <;> (first | (with_reducible assumption) | (simp only [D.pure, D.pures, O.pure, Bool.and_self, Bool.and_true, Bool.true_and, List.set_cons_zero, List.set_cons_succ, Int.toNat_zero, Int.toNat_one]; done))) | ((with_reducible apply compact_head) <;> (first | (with_reducible assumption) | (simp only [D.pure, D.pures, O.pure, Bool.and_self, Bool.and_true, Bool.true_and, List.set_cons_zero, List.set_cons_succ, Int.toNat_zero, Int.toNat_one]; done)))
  | (with_reducible refine k_tt ?_) | (with_reducible refine k_ff ?_)
  | (with_reducible apply ev_slot) | (with_reducible apply ev_glob) | (with_reducible apply ev_bin) | (with_reducible apply ev_neg) | (with_reducible apply ev_not') | (with_reducible apply ev_cmp) | (with_reducible apply ev_chn) | (with_reducible apply ch_last) | (with_reducible apply ch_more') | (with_reducible apply ev_and') | (with_reducible apply ev_or') | (with_reducible apply ev_ite') | (with_reducible apply es_cons) | (with_reducible apply ev_tup) | (with_reducible apply ev_lst) | (with_reducible apply ev_idx) | (with_reducible apply eo_some) | (with_reducible apply ev_slc) | (with_reducible apply ev_fld) | (with_reducible apply ev_isa) | (with_reducible apply ev_call) | (with_reducible apply ev_callK) | (with_reducible apply ev_bif) | (with_reducible apply ev_meth) | (with_reducible apply ev_mk) | (with_reducible apply ev_comp) | (with_reducible apply et_one) | (with_reducible apply xs_set2) | (with_reducible apply xs_par) | (with_reducible apply xs_put) | (with_reducible apply xs_expr) | (with_reducible apply xs_ret) | (with_reducible apply xs_ite') | (with_reducible apply xs_unp) | (with_reducible apply ss_cons') | (with_reducible apply sn_nx) | (with_reducible apply fin') | (with_reducible apply fn_rt) | (with_reducible apply fn_nx) | (with_reducible apply m_append2)))
/-! the law's own crossings -/
theorem chg_range (ra rb : List Int) : ∀ (i m : Nat), m = ra.length → rb.length = ra.length → (rangeD (i : Int) ((i + m : Nat) : Int)).filterMap (fun d => match d with | .int j => if rb.getD (j.toNat - i) 0 = ra.getD (j.toNat - i) 0 then none else some (D.int j) | _ => none) = (chg i ra rb).map D.int := by
  induction ra generalizing rb with
  | nil =>
    intro i m hm hl
    rw [hm, rangeD_nil (by simp)]
    cases rb with
    | nil => rfl
    | cons _ _ => simp at hl
  | cons x ra ih =>
    intro i m hm hl
    cases rb with
    | nil => simp at hl
    | cons y rb =>
      simp only [List.length_cons] at hm hl
      have e := ih rb (i + 1) ra.length rfl (by omega)
      rw [rangeD_cons (by omega), List.filterMap_cons]
      have e0 : ((i : Int)).toNat - i = 0 := by omega
      have e1 : ((i : Int) + 1) = ((i + 1 : Nat) : Int) := by omega
      have e2 : i + m = i + 1 + ra.length := by omega
      rw [e2, e1]
      have et : (rangeD ((i + 1 : Nat) : Int) ((i + 1 + ra.length : Nat) : Int)).filterMap (fun d => match d with | .int j => if (y :: rb).getD (j.toNat - i) 0 = (x :: ra).getD (j.toNat - i) 0 then none else some (D.int j) | _ => none) = (chg (i + 1) ra rb).map D.int := by
        rw [← e]
        have hc : ∀ d ∈ rangeD ((i + 1 : Nat) : Int) ((i + 1 + ra.length : Nat) : Int), (match d with | .int j => if (y :: rb).getD (j.toNat - i) 0 = (x :: ra).getD (j.toNat - i) 0 then none else some (D.int j) | _ => (none : Option D)) = (match d with | .int j => if rb.getD (j.toNat - (i + 1)) 0 = ra.getD (j.toNat - (i + 1)) 0 then none else some (D.int j) | _ => none) := by
          intro d hd
          unfold rangeD at hd
          obtain ⟨q, hq, rfl⟩ := List.mem_map.mp hd
          have h1 : (((i + 1 : Nat) : Int) + (q : Int)).toNat - i = q + 1 := by omega
          have h2 : (((i + 1 : Nat) : Int) + (q : Int)).toNat - (i + 1) = q := by omega
          dsimp only
          rw [h1, h2]; rfl
        revert hc
        generalize rangeD ((i + 1 : Nat) : Int) ((i + 1 + ra.length : Nat) : Int) = l
        intro hc
        induction l with
        | nil => rfl
        | cons d l ihl =>
          rw [List.filterMap_cons, List.filterMap_cons, hc d List.mem_cons_self, ihl fun d h => hc d (List.mem_cons_of_mem _ h)]
      unfold chg
      dsimp only
      rw [e0, et]
      rw [show (y :: rb).getD 0 0 = y from rfl, show (x :: ra).getD 0 0 = x from rfl]
      by_cases hy : y = x
      · rw [if_pos hy, if_pos hy]
      · rw [if_neg hy, if_neg hy]; rfl
theorem not_in_map2 (G pl : List Int) : (pl.map D.int).filterMap (fun d => match d with | .int i => if i ∈ G then none else some (D.int i) | _ => none) = (pl.filter fun i => !decide (i ∈ G)).map D.int := not_in_map G pl
@[reducible] def cbody : List IS := [
    .set 8 (.call "_law_side" (.cons (.slot 3) (.cons (.slot 7) (.cons (.idx (.slot 1) (.cst (.int 0))) .nil))) [] []),
    .ite (.cmp .notin (.idx (.slot 2) (.cst (.int 0))) (.slot 8)) [
      .expr (.meth .append (.slot 6) (.cons (.cst (.int 1)) .nil))] [
      .expr (.meth .append (.slot 6) (.cons (.ite (.cmp .ne (.comp (.slot 9) (.nm 9) (.val (.slot 5)) (.cons (.cmp .notin (.slot 9) (.slot 8)) .nil) [9]) (.lst (.nil))) (.cst (.int 2)) (.cst (.int 0))) .nil))]]
@[reducible] def cenv (S : Store) (rs : List (List Int)) (lm : D) (a0 b0 : Int) (ra rb : List Int) (e7 e8 : Option D) : PL.Env := [some (.tup [.tup (rs.map tI), lm]), some (.tup [.int a0, tI ra]), some (.tup [.int b0, tI rb]), some (.tup (rs.map tI)), some lm, some (.loc S.length), some (.loc (S.length + 1)), e7, e8, none]
@[reducible] def cst2 (S : Store) (pl F : List Int) (U : Store) : Store := S ++ (O.lst (pl.map D.int) :: O.lst (F.map D.int) :: U)
theorem cst2_pure {pl F : List Int} {U : Store} (hU : ∀ o ∈ U, o.pure = true) : ∀ o ∈ (O.lst (pl.map D.int) :: O.lst (F.map D.int) :: U), o.pure = true := by
  intro o ho
  rcases List.mem_cons.mp ho with h | ho
  · subst h; exact pures_ints pl
  · rcases List.mem_cons.mp ho with h | ho
    · subst h; exact pures_ints F
    · exact hU o ho
theorem cst2_snoc (S : Store) (pl F : List Int) (U : Store) (o : O) : cst2 S pl F U ++ [o] = cst2 S pl F (U ++ [o]) := by simp
theorem cross_turn (k : Nat) (S : Store) {n j : Nat} (hn : n ≤ 50) {rs : List (List Int)} (hr : InR n rs) (hl : rs.length ≤ 100) (hj : j < rs.length) {lm : D} {a0 b0 : Int} {ra rb : List Int} (h0 : 0 ≤ a0) (h1 : a0 < n) {pl F : List Int} (hpl : pl.length ≤ 1000) (hF : F.length ≤ 1000) {e7 e8 : Option D} {U : Store} (hU : ∀ o ∈ U, o.pure = true) :
    ∃ e8' U', (∀ o ∈ U', o.pure = true) ∧ forF (ixOf P (k + 2)) (.nm 7) cbody (.int (j : Int)) (cenv S rs lm a0 b0 ra rb e7 e8) (cst2 S pl F U) = some (.nx (cenv S rs lm a0 b0 ra rb (some (.int (j : Int))) e8') (cst2 S pl (F ++ [crv (cutR rs j) a0 b0 pl]) U')) := by
  obtain ⟨G, hGl, hG, hside⟩ := x_law_side k (cst2 S pl F U) hn hr hl hj h0 h1
  have hcr := cr_crv (b0 := b0) (pl := pl) hG
  let Z : D := .loc (cst2 S pl F U).length
  let E : PL.Env := cenv S rs lm a0 b0 ra rb (some (.int (j : Int))) (some Z)
  have hU2 : ∀ o ∈ U ++ [O.lst (G.map D.int)], o.pure = true := by
    intro o ho
    rcases List.mem_append.mp ho with h | h
    · exact hU o h
    · rw [List.mem_singleton] at h; subst h; exact pures_ints G
  have hset : exS (ixOf P (k + 2)) (.set 8 (.call "_law_side" (.cons (.slot 3) (.cons (.slot 7) (.cons (.idx (.slot 1) (.cst (.int 0))) .nil))) [] [])) (cenv S rs lm a0 b0 ra rb (some (.int (j : Int))) e8) (cst2 S pl F U) = some (.nx E (cst2 S pl F U ++ [O.lst (G.map D.int)])) :=
    xs_set (ev_call (es_cons (ev_slot rfl) (es_cons (ev_slot rfl) (es_cons (ev_idx (ev_slot rfl) ev_cst (i_tup rfl)) es_nil))) (call_get hside)) (compact_new0 _ (pures_ints G))
  have ht : evE (ixOf P (k + 2)) (.cmp .notin (.idx (.slot 2) (.cst (.int 0))) (.slot 8)) E (cst2 S pl F U ++ [O.lst (G.map D.int)]) = some (.val (.bl (!decide (b0 ∈ G))) (cst2 S pl F U ++ [O.lst (G.map D.int)])) :=
    ev_cmp (ev_idx (ev_slot rfl) ev_cst (i_tup rfl)) (ev_slot rfl) (c_notin_ints List.getElem?_concat_length)
  have gF : ∀ (V : Store), (cst2 S pl F V)[S.length + 1]? = some (O.lst (F.map D.int)) := fun V => getT S _ 1
  have gP : ∀ (V : Store), (cst2 S pl F V)[S.length]? = some (O.lst (pl.map D.int)) := fun V => getT S _ 0
  have sF : ∀ (V : Store) (c : Int), (cst2 S pl F V).set (S.length + 1) (O.lst (F.map D.int ++ [.int c])) = cst2 S pl (F ++ [c]) V := fun V c => by
    have := setT S (O.lst (pl.map D.int) :: O.lst (F.map D.int) :: V) 1 (O.lst (F.map D.int ++ [.int c]))
    rw [this]
    show S ++ (O.lst (pl.map D.int) :: O.lst (F.map D.int ++ [.int c]) :: V) = S ++ (O.lst (pl.map D.int) :: O.lst ((F ++ [c]).map D.int) :: V)
    rw [List.map_append]; rfl
  refine ⟨some Z, U ++ [O.lst (G.map D.int)], hU2, ff_bind (env' := cenv S rs lm a0 b0 ra rb (some (.int (j : Int))) e8) rfl (ss_nx hset ?_)⟩
  rw [cst2_snoc] at ht ⊢
  by_cases hb : b0 ∈ G
  · rw [decide_eq_true hb] at ht
    have hcomp := compI_fm (f := compF (ixOf P (k + 2)) (.slot 9) (.nm 9) (.cons (.cmp .notin (.slot 9) (.slot 8)) .nil) [9] E) (src := .list S.length (pl.map D.int)) (S := cst2 S pl F (U ++ [O.lst (G.map D.int)])) (fun d => match d with | .int i => if i ∈ G then none else some (D.int i) | _ => none) (gP _) (pl.map D.int) [] (by
      intro d hd
      obtain ⟨i, _, rfl⟩ := List.mem_map.mp hd
      let E2 : PL.Env := [some (.tup [.tup (rs.map tI), lm]), some (.tup [.int a0, tI ra]), some (.tup [.int b0, tI rb]), some (.tup (rs.map tI)), some lm, some (.loc S.length), some (.loc (S.length + 1)), some (.int (j : Int)), some Z, some (.int i)]
      have gG : (cst2 S pl F (U ++ [O.lst (G.map D.int)]))[(cst2 S pl F U).length]? = some (O.lst (G.map D.int)) := by
        rw [← cst2_snoc]; exact List.getElem?_concat_length
      have ht2 : evTs (ixOf P (k + 2)) (.cons (.cmp .notin (.slot 9) (.slot 8)) .nil) E2 (cst2 S pl F (U ++ [O.lst (G.map D.int)])) = some (.val (!decide (i ∈ G)) (cst2 S pl F (U ++ [O.lst (G.map D.int)]))) := et_one (ev_cmp (ev_slot rfl) (ev_slot rfl) (c_notin_ints gG)) rfl (compact_self _ rfl)
      by_cases hi : i ∈ G
      · rw [decide_eq_true hi] at ht2
        dsimp only
        rw [if_pos hi]
        exact cf_f (env' := E2) rfl ht2
      · rw [decide_eq_false hi] at ht2
        dsimp only
        rw [if_neg hi]
        exact cf_t (env' := E2) rfl ht2 (ev_slot rfl) (compact_self _ rfl)) (by rw [List.length_map]; show _ ≤ 16777216; simp only [List.length_nil]; omega)
    rw [not_in_map2, List.nil_append] at hcomp
    have hit : evIt (ixOf P (k + 2)) (.val (.slot 5)) E (cst2 S pl F (U ++ [O.lst (G.map D.int)])) = some (.val (pl.map D.int, .list S.length (pl.map D.int)) (cst2 S pl F (U ++ [O.lst (G.map D.int)]))) :=
      it_old (ev_slot rfl) (compact_loc _ (by simp)) (gP _) (by simp)
    have hne : evE (ixOf P (k + 2)) (.cmp .ne (.comp (.slot 9) (.nm 9) (.val (.slot 5)) (.cons (.cmp .notin (.slot 9) (.slot 8)) .nil) [9]) (.lst (.nil))) E (cst2 S pl F (U ++ [O.lst (G.map D.int)])) = some (.val (.bl (!(pl.filter fun i => !decide (i ∈ G)).isEmpty)) (cst2 S pl F (U ++ [O.lst (G.map D.int)]) ++ [O.lst ((pl.filter fun i => !decide (i ∈ G)).map D.int)] ++ [O.lst []])) := by
      refine ev_cmp (ev_comp hit hcomp (by unfold unlk; rw [if_pos (show Src.ok _ (.list S.length (pl.map D.int)) from gP _)])) (ev_lst es_nil (le_line rfl)) (c_ne_nil ?_ List.getElem?_concat_length)
      rw [List.getElem?_append_left (by simp), List.getElem?_concat_length]
    have hval : evE (ixOf P (k + 2)) (.ite (.cmp .ne (.comp (.slot 9) (.nm 9) (.val (.slot 5)) (.cons (.cmp .notin (.slot 9) (.slot 8)) .nil) [9]) (.lst (.nil))) (.cst (.int 2)) (.cst (.int 0))) E (cst2 S pl F (U ++ [O.lst (G.map D.int)])) = some (.val (.int (cr G b0 pl)) (cst2 S pl F ((U ++ [O.lst (G.map D.int)]) ++ [O.lst ((pl.filter fun i => !decide (i ∈ G)).map D.int)] ++ [O.lst []]))) := by
      rw [cst2_snoc, cst2_snoc] at hne
      unfold cr
      rw [if_pos hb]
      refine ev_ite' hne rfl ?_ ?_
      · intro h
        rw [Bool.not_eq_true'] at h
        rw [h]; exact ev_cst
      · intro h
        rw [Bool.not_eq_false'] at h
        rw [h]; exact ev_cst
    rw [hcr] at hval
    have hm := m_append2 (d := .int (crv (cutR rs j) a0 b0 pl)) (gF ((U ++ [O.lst (G.map D.int)]) ++ [O.lst ((pl.filter fun i => !decide (i ∈ G)).map D.int)] ++ [O.lst []])) (by rw [List.length_map]; show _ < 16777216; omega) (sF _ _)
    have hx : exS (ixOf P (k + 2)) (.expr (.meth .append (.slot 6) (.cons (.ite (.cmp .ne (.comp (.slot 9) (.nm 9) (.val (.slot 5)) (.cons (.cmp .notin (.slot 9) (.slot 8)) .nil) [9]) (.lst (.nil))) (.cst (.int 2)) (.cst (.int 0))) .nil))) E (cst2 S pl F (U ++ [O.lst (G.map D.int)])) = some (.nx E (cst2 S pl (F ++ [crv (cutR rs j) a0 b0 pl]) (U ++ [O.lst (G.map D.int)]))) := by
      refine xs_expr (ev_meth (ev_slot rfl) (recv_lst (gF _)) (es_cons hval es_nil) hm) ?_
      have := compact_tail S (T := O.lst (pl.map D.int) :: O.lst (F.map D.int) :: (U ++ [O.lst (G.map D.int)])) (T' := O.lst (pl.map D.int) :: O.lst ((F ++ [crv (cutR rs j) a0 b0 pl]).map D.int) :: (U ++ [O.lst (G.map D.int)])) ([O.lst ((pl.filter fun i => !decide (i ∈ G)).map D.int)] ++ [O.lst []]) (d := .non) rfl (cst2_pure hU2) rfl
      have e : cst2 S pl (F ++ [crv (cutR rs j) a0 b0 pl]) (U ++ [O.lst (G.map D.int)] ++ [O.lst ((pl.filter fun i => !decide (i ∈ G)).map D.int)] ++ [O.lst []]) = S ++ (O.lst (pl.map D.int) :: O.lst ((F ++ [crv (cutR rs j) a0 b0 pl]).map D.int) :: (U ++ [O.lst (G.map D.int)])) ++ ([O.lst ((pl.filter fun i => !decide (i ∈ G)).map D.int)] ++ [O.lst []]) := by simp
      rw [e]; exact this
    exact ss_nx (xs_ite_f ht rfl (compact_self _ rfl) (ss_nx hx ss_nil)) ss_nil
  · rw [decide_eq_false hb] at ht
    have e1 : crv (cutR rs j) a0 b0 pl = 1 := by
      rw [← hcr]; unfold cr; rw [if_neg hb]
    rw [e1]
    have hm := m_append2 (d := .int 1) (gF (U ++ [O.lst (G.map D.int)])) (by rw [List.length_map]; show _ < 16777216; omega) (sF _ _)
    exact ss_nx (xs_ite_t ht rfl (compact_self _ rfl) (ss_nx (xs_expr (ev_meth (ev_slot rfl) (recv_lst (gF _)) (es_cons ev_cst es_nil) hm) (compact_tail0 S rfl (cst2_pure hU2) rfl)) ss_nil)) ss_nil
end K13
set_option Elab.async false
set_option linter.all false
set_option maxRecDepth 100000
namespace K13
open PySem PySem.Spec PyProof.Rows PL L2
/-- steps of a run -/
local macro_rules | `(tactic| walk_at "pl") => `(tactic| repeat' (first
  | ((with_reducible apply hyp_get); (with_reducible assumption))
  | ((with_reducible apply call_get); (with_reducible assumption))
  | (with_reducible exact ev_cst) | (with_reducible exact es_nil) | (with_reducible exact et_nil) | (with_reducible exact eo_none) | (with_reducible exact ss_nil) | (with_reducible exact ev_dict0) | (with_reducible exact t_bl) | (with_reducible exact b_add) | (with_reducible exact b_mulb) | (with_reducible exact b_pow18) | (with_reducible exact b_sub) | (with_reducible exact f_int) | (with_reducible exact f_max) | (with_reducible exact f_min) | (with_reducible exact t_scr0) | (with_reducible exact t_scr1) | (with_reducible exact f_intb) | (with_reducible exact f_len_tup) | (with_reducible exact f_len_scr) | (with_reducible exact f_list_tup) | (with_reducible exact unlk_free) | (with_reducible exact not_tt) | (with_reducible exact not_ff) | (with_reducible exact not_k) | (with_reducible exact isa_int) | (with_reducible exact isa_bl) | (with_reducible exact isa_tup) | (with_reducible exact isa_obj) | (with_reducible exact get0) | (with_reducible exact get1) | (with_reducible exact get2) | (with_reducible exact par2) | (with_reducible exact par3) | (with_reducible exact bind_nm) | (with_reducible exact sn_rt) | (with_reducible exact k_tf) | (with_reducible exact k_ft)
  | ((with_reducible apply env_get); exact rfl) | ((with_reducible apply sto_get); exact rfl) | ((with_reducible apply atI_get'); exact rfl) | ((with_reducible apply ixN_get'); exact rfl) | ((with_reducible apply ar_get); exact rfl) | ((with_reducible apply gl_get); exact rfl) | ((with_reducible apply perm_get); exact rfl) | ((with_reducible apply bind_get); exact rfl) | ((with_reducible apply pure_t); (first | (with_reducible assumption) | (simp only [D.pure, D.pures, O.pure, Bool.and_self, Bool.and_true, Bool.true_and, List.set_cons_zero, List.set_cons_succ, Int.toNat_zero, Int.toNat_one]; done))) | ((with_reducible apply pure_o); (first | (with_reducible assumption) | (simp only [D.pure, D.pures, O.pure, Bool.and_self, Bool.and_true, Bool.true_and, List.set_cons_zero, List.set_cons_succ, Int.toNat_zero, Int.toNat_one]; done))) | ((with_reducible apply pures_t); (first | (with_reducible assumption) | (simp only [D.pure, D.pures, O.pure, Bool.and_self, Bool.and_true, Bool.true_and, List.set_cons_zero, List.set_cons_succ, Int.toNat_zero, Int.toNat_one]; done))) | ((with_reducible apply le_line); exact rfl) | ((with_reducible apply compact_self); (first | (with_reducible assumption) | (simp only [D.pure, D.pures, O.pure, Bool.and_self, Bool.and_true, Bool.true_and, List.set_cons_zero, List.set_cons_succ, Int.toNat_zero, Int.toNat_one]; done))) | ((with_reducible apply compact_app); (first | (with_reducible assumption) | (simp only [D.pure, D.pures, O.pure, Bool.and_self, Bool.and_true, Bool.true_and, List.set_cons_zero, List.set_cons_succ, Int.toNat_zero, Int.toNat_one]; done))) | ((with_reducible apply compact_new0); (first | (with_reducible assumption) | (simp only [D.pure, D.pures, O.pure, Bool.and_self, Bool.and_true, Bool.true_and, List.set_cons_zero, List.set_cons_succ, Int.toNat_zero, Int.toNat_one]; done)))
  | ((with_reducible apply lt_line); exact rfl)
  | ((with_reducible apply sto_eq); (simp only [List.set_cons_zero, List.set_cons_succ, List.cons_append, List.nil_append, Int.toNat_zero, Int.toNat_one]; done))
  | ((with_reducible apply sto_eq); (try simp only [List.set_cons_zero, List.set_cons_succ, List.cons_append, List.nil_append, Int.toNat_zero, Int.toNat_one]); exact rfl)
  | ((with_reducible apply env_eq); (try simp only [List.set_cons_zero, List.set_cons_succ]); exact rfl)
  | ((with_reducible apply b_mul); omega) | ((with_reducible apply b_fdiv) <;> omega) | ((with_reducible apply b_mod); omega)
  | ((with_reducible apply c_lt_t); omega) | ((with_reducible apply c_lt_f); omega) | ((with_reducible apply c_le_t); omega) | ((with_reducible apply c_le_f); omega) | ((with_reducible apply c_gt_t); omega) | ((with_reducible apply c_gt_f); omega) | ((with_reducible apply c_ge_t); omega) | ((with_reducible apply c_ge_f); omega) | ((with_reducible apply c_eq_t); omega) | ((with_reducible apply c_eq_f); omega) | ((with_reducible apply c_ne_t); omega) | ((with_reducible apply c_ne_f); omega) | ((with_reducible apply room_le); omega)
  | (with_reducible exact c_lt) | (with_reducible exact c_le) | (with_reducible exact c_gt) | (with_reducible exact c_ge) | (with_reducible exact c_eq) | (with_reducible exact c_ne)
  | (with_reducible apply f_len_lst) | (with_reducible apply f_tup_lst) | (with_reducible apply f_list_lst) | (with_reducible apply i_lst) | (with_reducible apply i_tup) | (with_reducible apply i_scr) | (with_reducible apply p_lst2)
  | ((with_reducible apply compact_head0) <;> (first | (with_reducible assumption) | (simp only [D.pure, D.pures, O.pure, Bool.and_self, Bool.and_true, Bool.true_and, List.set_cons_zero, List.set_cons_succ, Int.toNat_zero, Int.toNat_one]; done))) | ((with_reducible apply compact_head) <;> (first | (with_reducible assumption) | (simp only [D.pure, D.pures, O.pure, Bool.and_self, Bool.and_true, Bool.true_and, List.set_cons_zero, List.set_cons_succ, Int.toNat_zero, Int.toNat_one]; done)))
  | (with_reducible refine k_tt ?_) | (with_reducible refine k_ff ?_)
  | (with_reducible apply ev_slot) | (with_reducible apply ev_glob) | (with_reducible apply ev_bin) | (with_reducible apply ev_neg) | (with_reducible apply ev_not') | (with_reducible apply ev_cmp) | (with_reducible apply ev_chn) | (with_reducible apply ch_last) | (with_reducible apply ch_more') | (with_reducible apply ev_and') | (with_reducible apply ev_or') | (with_reducible apply ev_ite') | (with_reducible apply es_cons) | (with_reducible apply ev_tup) | (with_reducible apply ev_lst) | (with_reducible apply ev_idx) | (with_reducible apply eo_some) | (with_reducible apply ev_slc) | (with_reducible apply ev_fld) | (with_reducible apply ev_isa) | (with_reducible apply ev_call) | (with_reducible apply ev_callK) | (with_reducible apply ev_bif) | (with_reducible apply ev_meth) | (with_reducible apply ev_mk) | (with_reducible apply ev_comp) | (with_reducible apply et_one) | (with_reducible apply xs_set2) | (with_reducible apply xs_par) | (with_reducible apply xs_put) | (with_reducible apply xs_expr) | (with_reducible apply xs_ret) | (with_reducible apply xs_ite') | (with_reducible apply xs_unp) | (with_reducible apply ss_cons') | (with_reducible apply sn_nx) | (with_reducible apply fin') | (with_reducible apply fn_rt) | (with_reducible apply fn_nx) | (with_reducible apply m_append2)))
theorem cross_for (k : Nat) (S : Store) {n : Nat} (hn : n ≤ 50) {rs : List (List Int)} (hr : InR n rs) (hl : rs.length ≤ 100) {lm : D} {a0 b0 : Int} {ra rb : List Int} (h0 : 0 ≤ a0) (h1 : a0 < n) {pl : List Int} (hpl : pl.length ≤ 1000) : ∀ (m j : Nat), j + m = rs.length → ∀ (F : List Int) (e7 e8 : Option D) (U : Store), F.length + m ≤ 1000 → (∀ o ∈ U, o.pure = true) →
    ∃ e7' e8' U', (∀ o ∈ U', o.pure = true) ∧ forI (forF (ixOf P (k + 2)) (.nm 7) cbody) .free (rangeD (j : Int) (rs.length : Int)) (cenv S rs lm a0 b0 ra rb e7 e8) (cst2 S pl F U) = some (.nx (cenv S rs lm a0 b0 ra rb e7' e8') (cst2 S pl (F ++ (List.range' j m).map fun j => crv (cutR rs j) a0 b0 pl) U'))
  | 0, j, hj, F, e7, e8, U, _, hU => by
    refine ⟨e7, e8, U, hU, ?_⟩
    rw [rangeD_nil (by omega), List.range'_zero, List.map_nil, List.append_nil]
    unfold forI
    exact if_pos trivial
  | m + 1, j, hj, F, e7, e8, U, hF, hU => by
    obtain ⟨f8, U1, hU1, ht⟩ := cross_turn k S hn hr hl (j := j) (by omega) (lm := lm) (b0 := b0) (ra := ra) (rb := rb) h0 h1 hpl (F := F) (by omega) (e7 := e7) (e8 := e8) hU
    obtain ⟨g7, g8, U2, hU2, hf⟩ := cross_for k S hn hr hl (lm := lm) (b0 := b0) (ra := ra) (rb := rb) h0 h1 hpl m (j + 1) (by omega) (F ++ [crv (cutR rs j) a0 b0 pl]) (some (.int (j : Int))) f8 U1 (by simp only [List.length_append, List.length_cons, List.length_nil]; omega) hU1
    refine ⟨g7, g8, U2, hU2, ?_⟩
    rw [rangeD_cons (by omega)]
    unfold forI
    rw [if_pos (show Src.ok _ .free from trivial), ht]
    dsimp only
    have e : ((j : Int) + 1) = ((j + 1 : Nat) : Int) := by omega
    rw [e, hf, List.range'_succ, List.map_cons, List.append_assoc]; rfl
theorem okRange_nat {n : Nat} (h : n ≤ 1000) : okRange (n : Int) = true := by
  unfold okRange
  rw [Bool.and_eq_true]
  exact ⟨decide_eq_true (by omega), decide_eq_true (by omega)⟩
theorem x_law_crossings (k : Nat) (S : Store) {n : Nat} (hn : n ≤ 50) {rs : List (List Int)} (hr : InR n rs) (hl : rs.length ≤ 100) {ws : List (Nat × List (List Int))} (hw : ws.length ≤ 100) {a0 b0 : Int} {ra rb : List Int} (h0 : 0 ≤ a0) (h1 : a0 < n) (ha : ra.length = ws.length) (hb : rb.length = ws.length) :
    callN P (k + 3) "_law_crossings" [.tup [.tup (rs.map tI), .tup (ws.map drawD)], .tup [.int a0, tI ra], .tup [.int b0, tI rb]] S = some (.val (.loc S.length) (S ++ [.lst ((csOf rs a0 b0 (chg 0 ra rb)).map D.int)])) := by
  have hpu : (D.tup [.tup (rs.map tI), .tup (ws.map drawD)]).pure = true := by
    show (D.pures (rs.map tI) && (D.pures (ws.map drawD) && true)) = true
    rw [tI_pures, drawD_pures]; rfl
  let M : Option D → Option D → Option D → Option D → Option D → PL.Env := fun e3 e4 e5 e6 e9 => [some (.tup [.tup (rs.map tI), .tup (ws.map drawD)]), some (.tup [.int a0, tI ra]), some (.tup [.int b0, tI rb]), e3, e4, e5, e6, none, none, e9]
  have hunp : exS (ixOf P (k + 2)) (.unp (.tup [.nm 3, .nm 4]) (.slot 0)) (M none none none none none) S = some (.nx (M (some (.tup (rs.map tI))) (some (.tup (ws.map drawD))) none none none) S) :=
    xs_unp (ev_slot rfl) (compact_self _ hpu) rfl
  have hcl := chg_len 0 ra rb
  have hlen : evE (ixOf P (k + 2)) (.bif .len (.cons (.slot 4) .nil)) (M (some (.tup (rs.map tI))) (some (.tup (ws.map drawD))) none none none) S = some (.val (.int ws.length) S) := by
    have := ev_bif (ix := ixOf P (k + 2)) (f := .len) (env := M (some (.tup (rs.map tI))) (some (.tup (ws.map drawD))) none none none) (S := S) (es := .cons (.slot 4) .nil) (es_cons (ev_slot rfl) es_nil) (f_len_tup (l := ws.map drawD))
    rwa [List.length_map] at this
  have hcomp := compI_fm (f := compF (ixOf P (k + 2)) (.slot 9) (.nm 9) (.cons (.cmp .ne (.idx (.idx (.slot 1) (.cst (.int 1))) (.slot 9)) (.idx (.idx (.slot 2) (.cst (.int 1))) (.slot 9))) .nil) [9] (M (some (.tup (rs.map tI))) (some (.tup (ws.map drawD))) none none none)) (src := .free) (S := S) (fun d => match d with | .int j => if rb.getD (j.toNat - 0) 0 = ra.getD (j.toNat - 0) 0 then none else some (D.int j) | _ => none) trivial (rangeD 0 (ws.length : Int)) [] (by
    intro d hd
    unfold rangeD at hd
    obtain ⟨q, hq, rfl⟩ := List.mem_map.mp hd
    rw [List.mem_range] at hq
    have h1 : q < ra.length := by omega
    have h2 : q < rb.length := by omega
    have e : (0 + (q : Int)) = (q : Int) := by omega
    rw [e]
    have ea : L2.atI (ra.map D.int) (q : Int) = some (.int ra[q]) := L2.atI_nat (by rw [List.getElem?_map, List.getElem?_eq_getElem h1]; rfl)
    have eb : L2.atI (rb.map D.int) (q : Int) = some (.int rb[q]) := L2.atI_nat (by rw [List.getElem?_map, List.getElem?_eq_getElem h2]; rfl)
    have ga : ra.getD ((q : Int).toNat - 0) 0 = ra[q] := by
      rw [Int.toNat_natCast, Nat.sub_zero, List.getD_eq_getElem?_getD, List.getElem?_eq_getElem h1]; rfl
    have gb : rb.getD ((q : Int).toNat - 0) 0 = rb[q] := by
      rw [Int.toNat_natCast, Nat.sub_zero, List.getD_eq_getElem?_getD, List.getElem?_eq_getElem h2]; rfl
    have ht : evTs (ixOf P (k + 2)) (.cons (.cmp .ne (.idx (.idx (.slot 1) (.cst (.int 1))) (.slot 9)) (.idx (.idx (.slot 2) (.cst (.int 1))) (.slot 9))) .nil) (M (some (.tup (rs.map tI))) (some (.tup (ws.map drawD))) none none (some (.int (q : Int)))) S = some (.val (decide (ra[q] ≠ rb[q])) S) :=
      et_one (ev_cmp (ev_idx (ev_idx (ev_slot rfl) ev_cst (i_tup rfl)) (ev_slot rfl) (i_tup ea)) (ev_idx (ev_idx (ev_slot rfl) ev_cst (i_tup rfl)) (ev_slot rfl) (i_tup eb)) c_ne) rfl (compact_self _ rfl)
    dsimp only
    rw [ga, gb]
    by_cases hv : rb[q] = ra[q]
    · rw [if_pos hv]
      rw [decide_eq_false (fun h => h hv.symm)] at ht
      exact cf_f (env' := M (some (.tup (rs.map tI))) (some (.tup (ws.map drawD))) none none (some (.int (q : Int)))) rfl ht
    · rw [if_neg hv]
      have hv' : ra[q] ≠ rb[q] := fun h => hv h.symm
      rw [decide_eq_true hv'] at ht
      exact cf_t (env' := M (some (.tup (rs.map tI))) (some (.tup (ws.map drawD))) none none (some (.int (q : Int)))) rfl ht (ev_slot rfl) (compact_self _ rfl)) (by unfold rangeD; rw [List.length_map, List.length_range]; show _ ≤ 16777216; simp only [List.length_nil]; omega)
  have hchg := chg_range ra rb 0 ws.length ha.symm (by omega)
  rw [Nat.zero_add] at hchg
  replace hcomp := hcomp.trans (congrArg (fun l => some (l, S)) hchg)
  generalize chg 0 ra rb = pl at hcl hcomp ⊢
  have hpar : exS (ixOf P (k + 2)) (.par [5, 6] (.cons (.comp (.slot 9) (.nm 9) (.range1 (.bif .len (.cons (.slot 4) .nil))) (.cons (.cmp .ne (.idx (.idx (.slot 1) (.cst (.int 1))) (.slot 9)) (.idx (.idx (.slot 2) (.cst (.int 1))) (.slot 9))) .nil) [9]) (.cons (.lst (.nil)) .nil))) (M (some (.tup (rs.map tI))) (some (.tup (ws.map drawD))) none none none) S = some (.nx (cenv S rs (.tup (ws.map drawD)) a0 b0 ra rb none none) (cst2 S pl [] [])) := by
    have h2 : evE (ixOf P (k + 2)) (.lst (.nil)) (M (some (.tup (rs.map tI))) (some (.tup (ws.map drawD))) none none none) (S ++ [O.lst (pl.map D.int)]) = some (.val (.loc (S.length + 1)) (cst2 S pl [] [])) := by
      have := ev_lst (ix := ixOf P (k + 2)) (env := M (some (.tup (rs.map tI))) (some (.tup (ws.map drawD))) none none none) (S := S ++ [O.lst (pl.map D.int)]) es_nil (le_line rfl)
      rw [List.length_append, List.append_assoc] at this
      exact this
    exact xs_par (es_cons (ev_comp (it_range1' hlen (okRange_nat (by omega)) (compact_self _ rfl)) hcomp unlk_free) (es_cons h2 es_nil)) par2
  obtain ⟨e7, e8, U, hU, hfor⟩ := cross_for k S hn hr hl (lm := .tup (ws.map drawD)) (b0 := b0) (ra := ra) (rb := rb) h0 h1 (pl := pl) (by omega) rs.length 0 (by omega) [] none none [] (by simp only [List.length_nil]; omega) (fun o ho => by cases ho)
  rw [List.nil_append, ← List.range_eq_range'] at hfor
  have hl3 : evE (ixOf P (k + 2)) (.bif .len (.cons (.slot 3) .nil)) (cenv S rs (.tup (ws.map drawD)) a0 b0 ra rb none none) (cst2 S pl [] []) = some (.val (.int rs.length) (cst2 S pl [] [])) := by
    have := ev_bif (ix := ixOf P (k + 2)) (f := .len) (env := cenv S rs (.tup (ws.map drawD)) a0 b0 ra rb none none) (S := cst2 S pl [] []) (es := .cons (.slot 3) .nil) (es_cons (ev_slot rfl) es_nil) (f_len_tup (l := rs.map tI))
    rwa [List.length_map] at this
  have hcs : csOf rs a0 b0 pl = (List.range rs.length).map fun j => crv (cutR rs j) a0 b0 pl := rfl
  rw [← hcs] at hfor
  have hret : exS (ixOf P (k + 2)) (.ret (.slot 6)) (cenv S rs (.tup (ws.map drawD)) a0 b0 ra rb e7 e8) (cst2 S pl (csOf rs a0 b0 pl) U) = some (.rt (.loc (S.length + 1)) (cst2 S pl (csOf rs a0 b0 pl) U)) :=
    xs_ret (ev_slot rfl) (compact_loc _ (by simp))
  refine r__law_crossings (fin_rt' (ss_nx hunp (ss_nx hpar (ss_nx (xs_for (it_range1' hl3 (okRange_nat (by omega)) (compact_self _ rfl)) (for_free hfor)) (ss_rt hret)))) ?_)
  have := compact_new (S := S) (S' := cst2 S pl (csOf rs a0 b0 pl) U) (n := S.length + 1) (o := O.lst ((csOf rs a0 b0 pl).map D.int)) (kept_app _ _) (by omega) (getT S _ 1) (pures_ints _)
  rw [this, List.take_left]
end K13
set_option Elab.async false
set_option linter.all false
set_option maxRecDepth 100000
namespace K13
open PySem PySem.Spec PyProof.Rows PL L2
/-- steps of a run -/
local macro_rules | `(tactic| walk_at "pl") => `(tactic| repeat' (first
  | ((with_reducible apply hyp_get); (with_reducible assumption))
  | ((with_reducible apply call_get); (with_reducible assumption))
  | (with_reducible exact ev_cst) | (with_reducible exact es_nil) | (with_reducible exact et_nil) | (with_reducible exact eo_none) | (with_reducible exact ss_nil) | (with_reducible exact ev_dict0) | (with_reducible exact t_bl) | (with_reducible exact b_add) | (with_reducible exact b_mulb) | (with_reducible exact b_pow18) | (with_reducible exact b_sub) | (with_reducible exact f_int) | (with_reducible exact f_max) | (with_reducible exact f_min) | (with_reducible exact t_scr0) | (with_reducible exact t_scr1) | (with_reducible exact f_intb) | (with_reducible exact f_len_tup) | (with_reducible exact f_len_scr) | (with_reducible exact f_list_tup) | (with_reducible exact unlk_free) | (with_reducible exact not_tt) | (with_reducible exact not_ff) | (with_reducible exact not_k) | (with_reducible exact isa_int) | (with_reducible exact isa_bl) | (with_reducible exact isa_tup) | (with_reducible exact isa_obj) | (with_reducible exact get0) | (with_reducible exact get1) | (with_reducible exact get2) | (with_reducible exact par2) | (with_reducible exact par3) | (with_reducible exact bind_nm) | (with_reducible exact sn_rt) | (with_reducible exact k_tf) | (with_reducible exact k_ft)
  | ((with_reducible apply env_get); exact rfl) | ((with_reducible apply sto_get); exact rfl) | ((with_reducible apply atI_get'); exact rfl) | ((with_reducible apply ixN_get'); exact rfl) | ((with_reducible apply ar_get); exact rfl) | ((with_reducible apply gl_get); exact rfl) | ((with_reducible apply perm_get); exact rfl) | ((with_reducible apply bind_get); exact rfl) | ((with_reducible apply pure_t); (first | (with_reducible assumption) | (simp only [D.pure, D.pures, O.pure, Bool.and_self, Bool.and_true, Bool.true_and, List.set_cons_zero, List.set_cons_succ, Int.toNat_zero, Int.toNat_one]; done))) | ((with_reducible apply pure_o); (first | (with_reducible assumption) | (simp only [D.pure, D.pures, O.pure, Bool.and_self, Bool.and_true, Bool.true_and, List.set_cons_zero, List.set_cons_succ, Int.toNat_zero, Int.toNat_one]; done))) | ((with_reducible apply pures_t); (first | (with_reducible assumption) | (simp only [D.pure, D.pures, O.pure, Bool.and_self, Bool.and_true, Bool.true_and, List.set_cons_zero, List.set_cons_succ, Int.toNat_zero, Int.toNat_one]; done))) | ((with_reducible apply le_line); exact rfl) | ((with_reducible apply compact_self); (first | (with_reducible assumption) | (simp only [D.pure, D.pures, O.pure, Bool.and_self, Bool.and_true, Bool.true_and, List.set_cons_zero, List.set_cons_succ, Int.toNat_zero, Int.toNat_one]; done))) | ((with_reducible apply compact_app); (first | (with_reducible assumption) | (simp only [D.pure, D.pures, O.pure, Bool.and_self, Bool.and_true, Bool.true_and, List.set_cons_zero, List.set_cons_succ, Int.toNat_zero, Int.toNat_one]; done))) | ((with_reducible apply compact_new0); (first | (with_reducible assumption) | (simp only [D.pure, D.pures, O.pure, Bool.and_self, Bool.and_true, Bool.true_and, List.set_cons_zero, List.set_cons_succ, Int.toNat_zero, Int.toNat_one]; done)))
  | ((with_reducible apply lt_line); exact rfl)
  | ((with_reducible apply sto_eq); (simp only [List.set_cons_zero, List.set_cons_succ, List.cons_append, List.nil_append, Int.toNat_zero, Int.toNat_one]; done))
  | ((with_reducible apply sto_eq); (try simp only [List.set_cons_zero, List.set_cons_succ, List.cons_append, List.nil_append, Int.toNat_zero, Int.toNat_one]); exact rfl)
  | ((with_reducible apply env_eq); (try simp only [List.set_cons_zero, List.set_cons_succ]); exact rfl)
  | ((with_reducible apply b_mul); omega) | ((with_reducible apply b_fdiv) <;> omega) | ((with_reducible apply b_mod); omega)
  | ((with_reducible apply c_lt_t); omega) | ((with_reducible apply c_lt_f); omega) | ((with_reducible apply c_le_t); omega) | ((with_reducible apply c_le_f); omega) | ((with_reducible apply c_gt_t); omega) | ((with_reducible apply c_gt_f); omega) | ((with_reducible apply c_ge_t); omega) | ((with_reducible apply c_ge_f); omega) | ((with_reducible apply c_eq_t); omega) | ((with_reducible apply c_eq_f); omega) | ((with_reducible apply c_ne_t); omega) | ((with_reducible apply c_ne_f); omega) | ((with_reducible apply room_le); omega)
  | (with_reducible exact c_lt) | (with_reducible exact c_le) | (with_reducible exact c_gt) | (with_reducible exact c_ge) | (with_reducible exact c_eq) | (with_reducible exact c_ne)
  | (with_reducible apply f_len_lst) | (with_reducible apply f_tup_lst) | (with_reducible apply f_list_lst) | (with_reducible apply i_lst) | (with_reducible apply i_tup) | (with_reducible apply i_scr) | (with_reducible apply p_lst2)
  | ((with_reducible apply compact_head0) <;> (first | (with_reducible assumption) | (simp only [D.pure, D.pures, O.pure, Bool.and_self, Bool.and_true, Bool.true_and, List.set_cons_zero, List.set_cons_succ, Int.toNat_zero, Int.toNat_one]; done))) | ((with_reducible apply compact_head) <;> (first | (with_reducible assumption) | (simp only [D.pure, D.pures, O.pure, Bool.and_self, Bool.and_true, Bool.true_and, List.set_cons_zero, List.set_cons_succ, Int.toNat_zero, Int.toNat_one]; done)))
  | (with_reducible refine k_tt ?_) | (with_reducible refine k_ff ?_)
  | (with_reducible apply ev_slot) | (with_reducible apply ev_glob) | (with_reducible apply ev_bin) | (with_reducible apply ev_neg) | (with_reducible apply ev_not') | (with_reducible apply ev_cmp) | (with_reducible apply ev_chn) | (with_reducible apply ch_last) | (with_reducible apply ch_more') | (with_reducible apply ev_and') | (with_reducible apply ev_or') | (with_reducible apply ev_ite') | (with_reducible apply es_cons) | (with_reducible apply ev_tup) | (with_reducible apply ev_lst) | (with_reducible apply ev_idx) | (with_reducible apply eo_some) | (with_reducible apply ev_slc) | (with_reducible apply ev_fld) | (with_reducible apply ev_isa) | (with_reducible apply ev_call) | (with_reducible apply ev_callK) | (with_reducible apply ev_bif) | (with_reducible apply ev_meth) | (with_reducible apply ev_mk) | (with_reducible apply ev_comp) | (with_reducible apply et_one) | (with_reducible apply xs_set2) | (with_reducible apply xs_par) | (with_reducible apply xs_put) | (with_reducible apply xs_expr) | (with_reducible apply xs_ret) | (with_reducible apply xs_ite') | (with_reducible apply xs_unp) | (with_reducible apply ss_cons') | (with_reducible apply sn_nx) | (with_reducible apply fin') | (with_reducible apply fn_rt) | (with_reducible apply fn_nx) | (with_reducible apply m_append2)))
/-! what is no state is refused -/
theorem between_x {ix : Ix} {env : PL.Env} {S : Store} {x n : Int} {a b : IE} (h1 : evE ix a env S = some (.val (.int x) S)) (h2 : evE ix b env S = some (.val (.int n) S)) (h : ¬ (0 ≤ x ∧ x < n)) : evE ix (.not (.chn (.cst (.int 0)) (.more .le a (.last .lt b)))) env S = some (.val (.bl true) S) := by
  by_cases h0 : 0 ≤ x
  · exact ev_not' (ev_chn ev_cst (ch_more_t h1 (c_le_t h0) (ch_last h2 (c_lt_f fun z => h ⟨h0, z⟩)))) rfl rfl
  · exact ev_not' (ev_chn ev_cst (ch_more_f h1 (c_le_f h0))) rfl rfl
theorem x_want_place_x (k : Nat) (S : Store) {n : Nat} {rs : List (List Int)} {ws : List (Nat × List (List Int))} {x : Int} (h : ¬ (0 ≤ x ∧ x < (n : Int))) : callN P (k + 1) "want_place" [landD n rs ws, .int x] S = some (.exc ⟨6, .int x⟩ S) := by
  have ht := between_x (ix := ixOf P k) (env := [some (landD n rs ws), some (.int x)]) (S := S) (a := .slot 1) (b := .fld (.slot 0) 0 0) (ev_slot rfl) (ev_fld (ev_slot rfl) rfl) h
  exact r_want_place (fin_ex (ss_ex (xs_ite_t ht rfl (compact_self _ rfl) (ss_ex (xs_raise (es_cons (ev_slot rfl) es_nil))))) (compact_self _ rfl))
theorem x_want_row_len (k : Nat) (S : Store) {n : Nat} {rs : List (List Int)} {ws : List (Nat × List (List Int))} {ra : List Int} (h : ra.length ≠ n) : callN P (k + 1) "want_row" [landD n rs ws, tI ra] S = some (.exc ⟨7, .int ra.length⟩ S) := by
  have ht : evE (ixOf P k) (.cmp .ne (.bif .len (.cons (.slot 1) .nil)) (.fld (.slot 0) 0 0)) [some (landD n rs ws), some (tI ra), none, none] S = some (.val (.bl true) S) :=
    ev_cmp (ev_bif (es_cons (ev_slot rfl) es_nil) f_len_tup) (ev_fld (ev_slot rfl) rfl) (c_ne_t (by rw [List.length_map]; omega))
  have hl : evE (ixOf P k) (.bif .len (.cons (.slot 1) .nil)) [some (landD n rs ws), some (tI ra), none, none] S = some (.val (.int ra.length) S) := by
    have := ev_bif (ix := ixOf P k) (f := .len) (env := [some (landD n rs ws), some (tI ra), none, none]) (S := S) (es := .cons (.slot 1) .nil) (es_cons (ev_slot rfl) es_nil) (f_len_tup (l := ra.map D.int))
    rwa [List.length_map] at this
  exact r_want_row (fin_ex (ss_ex (xs_ite_t ht rfl (compact_self _ rfl) (ss_ex (xs_raise (es_cons hl es_nil))))) (compact_self _ rfl))
@[reducible] def rowB : List IS := [.ite (.not (.chn (.cst (.int 0)) (.more .le (.slot 3) (.last .lt (.fld (.idx (.fld (.slot 0) 0 2) (.slot 2)) 1 0))))) [.raise 7 (.tup (.cons (.slot 2) .nil))] []]
theorem row_for (k : Nat) (S : Store) {n : Nat} {rs : List (List Int)} {ws : List (Nat × List (List Int))} {ra : List Int} (hl : ra.length = ws.length) {j : Nat} (hj : j < ra.length) (hok : ∀ (i : Nat) (v : Int), i < j → ra[i]? = some v → ∃ w, ws[i]? = some w ∧ 0 ≤ v ∧ v < w.1) {w : Nat × List (List Int)} (hw : ws[j]? = some w) (hbad : ¬ (0 ≤ ra[j] ∧ ra[j] < (w.1 : Int))) : ∀ (d i : Nat), i + d = j → ∀ e2 e3 : Option D,
    ∃ env1, forI (forF (ixOf P k) (.tup [.nm 2, .nm 3]) rowB) .free (enumD (i : Int) ((ra.drop i).map D.int)) [some (landD n rs ws), some (tI ra), e2, e3] S = some (.ex ⟨7, .tup [.int (j : Int)]⟩ env1 S)
  | 0, i, hi, e2, e3 => by
    have hi : i = j := by omega
    subst hi
    have hat : L2.atI (ws.map webD) (i : Int) = some (webD w) := L2.atI_nat (by rw [List.getElem?_map, hw]; rfl)
    have hb := between_x (ix := ixOf P k) (env := [some (landD n rs ws), some (tI ra), some (.int (i : Int)), some (.int ra[i])]) (S := S) (a := .slot 3) (b := .fld (.idx (.fld (.slot 0) 0 2) (.slot 2)) 1 0) (ev_slot rfl) (ev_fld (ev_idx (ev_fld (ev_slot rfl) rfl) (ev_slot rfl) (i_tup hat)) rfl) hbad
    refine ⟨[some (landD n rs ws), some (tI ra), some (.int (i : Int)), some (.int ra[i])], ?_⟩
    rw [List.drop_eq_getElem_cons hj, List.map_cons, enumD]
    exact forI_x (ff_bind (env' := [some (landD n rs ws), some (tI ra), some (.int (i : Int)), some (.int ra[i])]) rfl (ss_ex (xs_ite_t hb rfl (compact_self _ rfl) (ss_ex (xs_raise (es_cons (ev_tup (es_cons (ev_slot rfl) es_nil) (le_line rfl)) es_nil))))))
  | d + 1, i, hi, e2, e3 => by
    have hi2 : i < ra.length := by omega
    obtain ⟨u, hu, v0, v1⟩ := hok i ra[i] (by omega) (List.getElem?_eq_getElem hi2)
    have hat : L2.atI (ws.map webD) (i : Int) = some (webD u) := L2.atI_nat (by rw [List.getElem?_map, hu]; rfl)
    have hb := between0 (ix := ixOf P k) (env := [some (landD n rs ws), some (tI ra), some (.int (i : Int)), some (.int ra[i])]) (S := S) (a := .slot 3) (b := .fld (.idx (.fld (.slot 0) 0 2) (.slot 2)) 1 0) (ev_slot rfl) (ev_fld (ev_idx (ev_fld (ev_slot rfl) rfl) (ev_slot rfl) (i_tup hat)) rfl) v0 v1
    obtain ⟨env1, h⟩ := row_for k S (rs := rs) hl hj hok hw hbad d (i + 1) (by omega) (some (.int (i : Int))) (some (.int ra[i]))
    refine ⟨env1, ?_⟩
    rw [List.drop_eq_getElem_cons hi2, List.map_cons, enumD]
    have e : ((i : Int) + 1) = ((i + 1 : Nat) : Int) := by omega
    rw [e]
    exact forI_skip (ff_bind (env' := [some (landD n rs ws), some (tI ra), some (.int (i : Int)), some (.int ra[i])]) rfl (ss_nx (xs_ite_f hb rfl (compact_self _ rfl) ss_nil) ss_nil)) h
theorem x_want_row_at (k : Nat) (S : Store) {n : Nat} {rs : List (List Int)} {ws : List (Nat × List (List Int))} {ra : List Int} (hws : ws.length = n) (hl : ra.length = ws.length) {j : Nat} (hj : j < ra.length) (hok : ∀ (i : Nat) (v : Int), i < j → ra[i]? = some v → ∃ w, ws[i]? = some w ∧ 0 ≤ v ∧ v < w.1) {w : Nat × List (List Int)} (hw : ws[j]? = some w) (hbad : ¬ (0 ≤ ra[j] ∧ ra[j] < (w.1 : Int))) :
    callN P (k + 1) "want_row" [landD n rs ws, tI ra] S = some (.exc ⟨7, .tup [.int (j : Int)]⟩ S) := by
  have ht : evE (ixOf P k) (.cmp .ne (.bif .len (.cons (.slot 1) .nil)) (.fld (.slot 0) 0 0)) [some (landD n rs ws), some (tI ra), none, none] S = some (.val (.bl false) S) :=
    ev_cmp (ev_bif (es_cons (ev_slot rfl) es_nil) f_len_tup) (ev_fld (ev_slot rfl) rfl) (c_ne_f (by rw [List.length_map, hl, hws]))
  obtain ⟨env1, hf⟩ := row_for k S (n := n) (rs := rs) hl hj hok hw hbad j 0 (by omega) none none
  have hfor : exS (ixOf P k) (.for_ (.tup [.nm 2, .nm 3]) (.enum (.slot 1)) rowB) [some (landD n rs ws), some (tI ra), none, none] S = some (.ex ⟨7, .tup [.int (j : Int)]⟩ env1 S) :=
    xs_for (it_enum_tup (ev_slot rfl) (compact_self _ (pures_ints ra))) (by
      rw [List.drop_zero] at hf
      rw [show forI (forF (ixOf P k) (.tup [.nm 2, .nm 3]) rowB) .free (enumD 0 (ra.map D.int)) [some (landD n rs ws), some (tI ra), none, none] S = some (.ex ⟨7, .tup [.int (j : Int)]⟩ env1 S) from hf]
      exact unlS_freeX)
  exact r_want_row (fin_ex (ss_nx (xs_ite_f ht rfl (compact_self _ rfl) ss_nil) (ss_ex hfor)) (compact_self _ rfl))
theorem x_want_state_p (k : Nat) (S : Store) {n : Nat} {rs : List (List Int)} {ws : List (Nat × List (List Int))} {a0 : Int} {ra : List Int} (h : ¬ (0 ≤ a0 ∧ a0 < (n : Int))) : callN P (k + 2) "want_state" [landD n rs ws, .tup [.int a0, tI ra]] S = some (.exc ⟨6, .int a0⟩ S) := by
  have c1 := x_want_place_x k S (rs := rs) (ws := ws) h
  exact r_want_state (fin_ex (ss_ex (xs_expr_x (ev_call (es_cons (ev_slot rfl) (es_cons (ev_idx (ev_slot rfl) ev_cst (i_tup rfl)) es_nil)) (call_get c1)))) (compact_self _ rfl))
theorem x_want_state_r (k : Nat) (S : Store) {n : Nat} {rs : List (List Int)} {ws : List (Nat × List (List Int))} {a0 : Int} {ra : List Int} (h0 : 0 ≤ a0) (h1 : a0 < n) {d : D} (hd : d.pure = true) (h : callN P (k + 1) "want_row" [landD n rs ws, tI ra] S = some (.exc ⟨7, d⟩ S)) : callN P (k + 2) "want_state" [landD n rs ws, .tup [.int a0, tI ra]] S = some (.exc ⟨7, d⟩ S) := by
  have c1 := x_want_place k S (rs := rs) (ws := ws) h0 h1
  exact r_want_state (fin_ex (ss_nx (xs_expr (ev_call (es_cons (ev_slot rfl) (es_cons (ev_idx (ev_slot rfl) ev_cst (i_tup rfl)) es_nil)) (call_get c1)) (compact_self _ rfl)) (ss_ex (xs_expr_x (ev_call (es_cons (ev_slot rfl) (es_cons (ev_idx (ev_slot rfl) ev_cst (i_tup rfl)) es_nil)) (call_get h))))) (compact_self _ hd))
/-- a pair that is refused: with which error -/
def BadSt (n : Nat) (rs : List (List Int)) (ws : List (Nat × List (List Int))) (st : D) (e : Ex) : Prop := e.what.pure = true ∧ ∀ (k : Nat) (S : Store), callN P (k + 2) "want_state" [landD n rs ws, st] S = some (.exc e S)
theorem x_crossings_x1 (k : Nat) (S : Store) {n : Nat} {rs : List (List Int)} {ws : List (Nat × List (List Int))} (hl : rs.length < n) {a b : D} {e : Ex} (h : BadSt n rs ws a e) : callN P (k + 5) "crossings" [landD n rs ws, a, b] S = some (.exc e S) := by
  have c1 := x_want_tree (k + 2) S (ws := ws) hl
  have c2 := h.2 (k + 2) S
  exact r_crossings (fin_ex (ss_nx (xs_expr (ev_call (es_cons (ev_slot rfl) es_nil) (call_get c1)) (compact_self _ rfl)) (ss_ex (xs_expr_x (ev_call (es_cons (ev_slot rfl) (es_cons (ev_slot rfl) es_nil)) (call_get c2))))) (compact_self _ h.1))
theorem x_crossings_x2 (k : Nat) (S : Store) {n : Nat} {rs : List (List Int)} {ws : List (Nat × List (List Int))} (hl : rs.length < n) (hws : ws.length = n) {a0 : Int} {ra : List Int} (h0 : 0 ≤ a0) (h1 : a0 < n) (ha : Row ws ra) {b : D} {e : Ex} (h : BadSt n rs ws b e) : callN P (k + 5) "crossings" [landD n rs ws, .tup [.int a0, tI ra], b] S = some (.exc e S) := by
  have c1 := x_want_tree (k + 2) S (ws := ws) hl
  have c2 := x_want_state (k + 2) S (rs := rs) hws h0 h1 ha
  have c3 := h.2 (k + 2) S
  exact r_crossings (fin_ex (ss_nx (xs_expr (ev_call (es_cons (ev_slot rfl) es_nil) (call_get c1)) (compact_self _ rfl)) (ss_nx (xs_expr (ev_call (es_cons (ev_slot rfl) (es_cons (ev_slot rfl) es_nil)) (call_get c2)) (compact_self _ rfl)) (ss_ex (xs_expr_x (ev_call (es_cons (ev_slot rfl) (es_cons (ev_slot rfl) es_nil)) (call_get c3)))))) (compact_self _ h.1))
end K13
set_option Elab.async false
set_option linter.all false
set_option maxRecDepth 100000
namespace K13
open PySem PySem.Spec PyProof.Rows PL L2
/-- steps of a run -/
local macro_rules | `(tactic| walk_at "pl") => `(tactic| repeat' (first
  | ((with_reducible apply hyp_get); (with_reducible assumption))
  | ((with_reducible apply call_get); (with_reducible assumption))
  | (with_reducible exact ev_cst) | (with_reducible exact es_nil) | (with_reducible exact et_nil) | (with_reducible exact eo_none) | (with_reducible exact ss_nil) | (with_reducible exact ev_dict0) | (with_reducible exact t_bl) | (with_reducible exact b_add) | (with_reducible exact b_mulb) | (with_reducible exact b_pow18) | (with_reducible exact b_sub) | (with_reducible exact f_int) | (with_reducible exact f_max) | (with_reducible exact f_min) | (with_reducible exact t_scr0) | (with_reducible exact t_scr1) | (with_reducible exact f_intb) | (with_reducible exact f_len_tup) | (with_reducible exact f_len_scr) | (with_reducible exact f_list_tup) | (with_reducible exact unlk_free) | (with_reducible exact not_tt) | (with_reducible exact not_ff) | (with_reducible exact not_k) | (with_reducible exact isa_int) | (with_reducible exact isa_bl) | (with_reducible exact isa_tup) | (with_reducible exact isa_obj) | (with_reducible exact get0) | (with_reducible exact get1) | (with_reducible exact get2) | (with_reducible exact par2) | (with_reducible exact par3) | (with_reducible exact bind_nm) | (with_reducible exact sn_rt) | (with_reducible exact k_tf) | (with_reducible exact k_ft)
  | ((with_reducible apply env_get); exact rfl) | ((with_reducible apply sto_get); exact rfl) | ((with_reducible apply atI_get'); exact rfl) | ((with_reducible apply ixN_get'); exact rfl) | ((with_reducible apply ar_get); exact rfl) | ((with_reducible apply gl_get); exact rfl) | ((with_reducible apply perm_get); exact rfl) | ((with_reducible apply bind_get); exact rfl) | ((with_reducible apply pure_t); (first | (with_reducible assumption) | (simp only [D.pure, D.pures, O.pure, Bool.and_self, Bool.and_true, Bool.true_and, List.set_cons_zero, List.set_cons_succ, Int.toNat_zero, Int.toNat_one]; done))) | ((with_reducible apply pure_o); (first | (with_reducible assumption) | (simp only [D.pure, D.pures, O.pure, Bool.and_self, Bool.and_true, Bool.true_and, List.set_cons_zero, List.set_cons_succ, Int.toNat_zero, Int.toNat_one]; done))) | ((with_reducible apply pures_t); (first | (with_reducible assumption) | (simp only [D.pure, D.pures, O.pure, Bool.and_self, Bool.and_true, Bool.true_and, List.set_cons_zero, List.set_cons_succ, Int.toNat_zero, Int.toNat_one]; done))) | ((with_reducible apply le_line); exact rfl) | ((with_reducible apply compact_self); (first | (with_reducible assumption) | (simp only [D.pure, D.pures, O.pure, Bool.and_self, Bool.and_true, Bool.true_and, List.set_cons_zero, List.set_cons_succ, Int.toNat_zero, Int.toNat_one]; done))) | ((with_reducible apply compact_app); (first | (with_reducible assumption) | (simp only [D.pure, D.pures, O.pure, Bool.and_self, Bool.and_true, Bool.true_and, List.set_cons_zero, List.set_cons_succ, Int.toNat_zero, Int.toNat_one]; done))) | ((with_reducible apply compact_new0); (first | (with_reducible assumption) | (simp only [D.pure, D.pures, O.pure, Bool.and_self, Bool.and_true, Bool.true_and, List.set_cons_zero, List.set_cons_succ, Int.toNat_zero, Int.toNat_one]; done)))
  | ((with_reducible apply lt_line); exact rfl)
  | ((with_reducible apply sto_eq); (simp only [List.set_cons_zero, List.set_cons_succ, List.cons_append, List.nil_append, Int.toNat_zero, Int.toNat_one]; done))
  | ((with_reducible apply sto_eq); (try simp only [List.set_cons_zero, List.set_cons_succ, List.cons_append, List.nil_append, Int.toNat_zero, Int.toNat_one]); exact rfl)
  | ((with_reducible apply env_eq); (try simp only [List.set_cons_zero, List.set_cons_succ]); exact rfl)
  | ((with_reducible apply b_mul); omega) | ((with_reducible apply b_fdiv) <;> omega) | ((with_reducible apply b_mod); omega)
  | ((with_reducible apply c_lt_t); omega) | ((with_reducible apply c_lt_f); omega) | ((with_reducible apply c_le_t); omega) | ((with_reducible apply c_le_f); omega) | ((with_reducible apply c_gt_t); omega) | ((with_reducible apply c_gt_f); omega) | ((with_reducible apply c_ge_t); omega) | ((with_reducible apply c_ge_f); omega) | ((with_reducible apply c_eq_t); omega) | ((with_reducible apply c_eq_f); omega) | ((with_reducible apply c_ne_t); omega) | ((with_reducible apply c_ne_f); omega) | ((with_reducible apply room_le); omega)
  | (with_reducible exact c_lt) | (with_reducible exact c_le) | (with_reducible exact c_gt) | (with_reducible exact c_ge) | (with_reducible exact c_eq) | (with_reducible exact c_ne)
  | (with_reducible apply f_len_lst) | (with_reducible apply f_tup_lst) | (with_reducible apply f_list_lst) | (with_reducible apply i_lst) | (with_reducible apply i_tup) | (with_reducible apply i_scr) | (with_reducible apply p_lst2)
  | ((with_reducible apply compact_head0) <;> (first | (with_reducible assumption) | (simp only [D.pure, D.pures, O.pure, Bool.and_self, Bool.and_true, Bool.true_and, List.set_cons_zero, List.set_cons_succ, Int.toNat_zero, Int.toNat_one]; done))) | ((with_reducible apply compact_head) <;> (first | (with_reducible assumption) | (simp only [D.pure, D.pures, O.pure, Bool.and_self, Bool.and_true, Bool.true_and, List.set_cons_zero, List.set_cons_succ, Int.toNat_zero, Int.toNat_one]; done)))
  | (with_reducible refine k_tt ?_) | (with_reducible refine k_ff ?_)
  | (with_reducible apply ev_slot) | (with_reducible apply ev_glob) | (with_reducible apply ev_bin) | (with_reducible apply ev_neg) | (with_reducible apply ev_not') | (with_reducible apply ev_cmp) | (with_reducible apply ev_chn) | (with_reducible apply ch_last) | (with_reducible apply ch_more') | (with_reducible apply ev_and') | (with_reducible apply ev_or') | (with_reducible apply ev_ite') | (with_reducible apply es_cons) | (with_reducible apply ev_tup) | (with_reducible apply ev_lst) | (with_reducible apply ev_idx) | (with_reducible apply eo_some) | (with_reducible apply ev_slc) | (with_reducible apply ev_fld) | (with_reducible apply ev_isa) | (with_reducible apply ev_call) | (with_reducible apply ev_callK) | (with_reducible apply ev_bif) | (with_reducible apply ev_meth) | (with_reducible apply ev_mk) | (with_reducible apply ev_comp) | (with_reducible apply et_one) | (with_reducible apply xs_set2) | (with_reducible apply xs_par) | (with_reducible apply xs_put) | (with_reducible apply xs_expr) | (with_reducible apply xs_ret) | (with_reducible apply xs_ite') | (with_reducible apply xs_unp) | (with_reducible apply ss_cons') | (with_reducible apply sn_nx) | (with_reducible apply fin') | (with_reducible apply fn_rt) | (with_reducible apply fn_nx) | (with_reducible apply m_append2)))
theorem x_law_made (k : Nat) (S : Store) {n : Nat} (h1 : 1 ≤ n) (hn : n ≤ 10) {rs : List (List Int)} (hg : Good n rs) (hl : rs.length ≤ n) (hw : ∀ y : Int, 0 ≤ y → y < n → Conn rs 0 y) {ws : List (Nat × List (List Int))} (hws : ws.length = n) (hok : ∀ w ∈ ws, WebOk w) : callN P (k + 5) "_law_made" [.tup [.tup (rs.map tI), .tup (ws.map drawD)]] S = some (.val (landD n rs ws) S) := by
  have hc := x_made_land k S h1 hn hg hl hw hws
  let E : Option D → Option D → PL.Env := fun e e2 => [some (.tup [.tup (rs.map tI), .tup (ws.map drawD)]), some (.tup (rs.map tI)), some (.tup (ws.map drawD)), e, e2]
  have hpu : (D.tup [.tup (rs.map tI), .tup (ws.map drawD)]).pure = true := by
    show (D.pures (rs.map tI) && (D.pures (ws.map drawD) && true)) = true
    rw [tI_pures, drawD_pures]; rfl
  have hunp : exS (ixOf P (k + 4)) (.unp (.tup [.nm 1, .nm 2]) (.slot 0)) [some (.tup [.tup (rs.map tI), .tup (ws.map drawD)]), none, none, none, none] S = some (.nx (E none none) S) :=
    xs_unp (ev_slot rfl) (compact_self _ hpu) rfl
  have hcomp := compI_map (f := compF (ixOf P (k + 4)) (.call "made_web" (.cons (.slot 3) (.cons (.slot 4) .nil)) [] []) (.tup [.nm 3, .nm 4]) .nil [3, 4] (E none none)) (src := .free) (S := S) (fun d => match d with | .tup l => .obj 1 l | d => d) trivial (ws.map drawD) (by
    intro d hd
    obtain ⟨w, hm, rfl⟩ := List.mem_map.mp hd
    have ok := hok w hm
    have hc := x_made_web k S ok.lo ok.hi ok.good (by have := ok.few; omega) ok.whole
    have hpw : (webD w).pure = true := by
      show (true && (D.pures (w.2.map tI) && true)) = true
      rw [tI_pures]; rfl
    exact cf_t (env' := E (some (.int w.1)) (some (.tup (w.2.map tI)))) rfl et_nil (ev_call (es_cons (ev_slot rfl) (es_cons (ev_slot rfl) es_nil)) (call_get hc)) (compact_self _ hpw)) (by rw [List.length_map]; show _ ≤ 16777216; omega)
  have em : (ws.map drawD).map (fun d => match d with | .tup l => .obj 1 l | d => d) = ws.map webD := by
    rw [List.map_map]; rfl
  rw [em] at hcomp
  have hlen : evE (ixOf P (k + 4)) (.bif .len (.cons (.slot 2) .nil)) (E none none) S = some (.val (.int n) S) := by
    have := ev_bif (ix := ixOf P (k + 4)) (f := .len) (env := E none none) (S := S) (es := .cons (.slot 2) .nil) (es_cons (ev_slot rfl) es_nil) (f_len_tup (l := ws.map drawD))
    rwa [List.length_map, hws] at this
  have hc2 := x_made_land k (S ++ [O.lst (ws.map webD)]) h1 hn hg hl hw hws
  have hpl : (landD n rs ws).pure = true := by
    show (true && (D.pures (rs.map tI) && (D.pures (ws.map webD) && true))) = true
    rw [tI_pures, webD_pures]; rfl
  have hr : exS (ixOf P (k + 4)) (.ret (.call "made_land" (.cons (.bif .len (.cons (.slot 2) .nil)) (.cons (.slot 1) (.cons (.bif .tuple (.cons (.comp (.call "made_web" (.cons (.slot 3) (.cons (.slot 4) .nil)) [] []) (.tup [.nm 3, .nm 4]) (.val (.slot 2)) (.nil) [3, 4]) .nil)) .nil))) [] [])) (E none none) S = some (.rt (landD n rs ws) S) :=
    xs_ret (ev_call (es_cons hlen (es_cons (ev_slot rfl) (es_cons (ev_bif (es_cons (ev_comp (it_tup' (ev_slot rfl) (compact_self _ (drawD_pures ws))) hcomp (unlk_free ..)) es_nil) (f_tup_lst List.getElem?_concat_length)) es_nil))) hc2) (compact_app _ _ hpl)
  exact r__law_made (fin_rt' (ss_nx hunp (ss_rt hr)) (compact_self _ hpl))
end K13
set_option Elab.async false
set_option linter.all false
set_option maxRecDepth 100000
namespace K13
open PySem PySem.Spec PyProof.Rows PL L2
/-- steps of a run -/
local macro_rules | `(tactic| walk_at "pl") => `(tactic| repeat' (first
  | ((with_reducible apply hyp_get); (with_reducible assumption))
  | ((with_reducible apply call_get); (with_reducible assumption))
  | (with_reducible exact ev_cst) | (with_reducible exact es_nil) | (with_reducible exact et_nil) | (with_reducible exact eo_none) | (with_reducible exact ss_nil) | (with_reducible exact ev_dict0) | (with_reducible exact t_bl) | (with_reducible exact b_add) | (with_reducible exact b_mulb) | (with_reducible exact b_pow18) | (with_reducible exact b_sub) | (with_reducible exact f_int) | (with_reducible exact f_max) | (with_reducible exact f_min) | (with_reducible exact t_scr0) | (with_reducible exact t_scr1) | (with_reducible exact f_intb) | (with_reducible exact f_len_tup) | (with_reducible exact f_len_scr) | (with_reducible exact f_list_tup) | (with_reducible exact unlk_free) | (with_reducible exact not_tt) | (with_reducible exact not_ff) | (with_reducible exact not_k) | (with_reducible exact isa_int) | (with_reducible exact isa_bl) | (with_reducible exact isa_tup) | (with_reducible exact isa_obj) | (with_reducible exact get0) | (with_reducible exact get1) | (with_reducible exact get2) | (with_reducible exact par2) | (with_reducible exact par3) | (with_reducible exact bind_nm) | (with_reducible exact sn_rt) | (with_reducible exact k_tf) | (with_reducible exact k_ft)
  | ((with_reducible apply env_get); exact rfl) | ((with_reducible apply sto_get); exact rfl) | ((with_reducible apply atI_get'); exact rfl) | ((with_reducible apply ixN_get'); exact rfl) | ((with_reducible apply ar_get); exact rfl) | ((with_reducible apply gl_get); exact rfl) | ((with_reducible apply perm_get); exact rfl) | ((with_reducible apply bind_get); exact rfl) | ((with_reducible apply pure_t); (first | (with_reducible assumption) | (simp only [D.pure, D.pures, O.pure, Bool.and_self, Bool.and_true, Bool.true_and, List.set_cons_zero, List.set_cons_succ, Int.toNat_zero, Int.toNat_one]; done))) | ((with_reducible apply pure_o); (first | (with_reducible assumption) | (simp only [D.pure, D.pures, O.pure, Bool.and_self, Bool.and_true, Bool.true_and, List.set_cons_zero, List.set_cons_succ, Int.toNat_zero, Int.toNat_one]; done))) | ((with_reducible apply pures_t); (first | (with_reducible assumption) | (simp only [D.pure, D.pures, O.pure, Bool.and_self, Bool.and_true, Bool.true_and, List.set_cons_zero, List.set_cons_succ, Int.toNat_zero, Int.toNat_one]; done))) | ((with_reducible apply le_line); exact rfl) | ((with_reducible apply compact_self); (first | (with_reducible assumption) | (simp only [D.pure, D.pures, O.pure, Bool.and_self, Bool.and_true, Bool.true_and, List.set_cons_zero, List.set_cons_succ, Int.toNat_zero, Int.toNat_one]; done))) | ((with_reducible apply compact_app); (first | (with_reducible assumption) | (simp only [D.pure, D.pures, O.pure, Bool.and_self, Bool.and_true, Bool.true_and, List.set_cons_zero, List.set_cons_succ, Int.toNat_zero, Int.toNat_one]; done))) | ((with_reducible apply compact_new0); (first | (with_reducible assumption) | (simp only [D.pure, D.pures, O.pure, Bool.and_self, Bool.and_true, Bool.true_and, List.set_cons_zero, List.set_cons_succ, Int.toNat_zero, Int.toNat_one]; done)))
  | ((with_reducible apply lt_line); exact rfl)
  | ((with_reducible apply sto_eq); (simp only [List.set_cons_zero, List.set_cons_succ, List.cons_append, List.nil_append, Int.toNat_zero, Int.toNat_one]; done))
  | ((with_reducible apply sto_eq); (try simp only [List.set_cons_zero, List.set_cons_succ, List.cons_append, List.nil_append, Int.toNat_zero, Int.toNat_one]); exact rfl)
  | ((with_reducible apply env_eq); (try simp only [List.set_cons_zero, List.set_cons_succ]); exact rfl)
  | ((with_reducible apply b_mul); omega) | ((with_reducible apply b_fdiv) <;> omega) | ((with_reducible apply b_mod); omega)
  | ((with_reducible apply c_lt_t); omega) | ((with_reducible apply c_lt_f); omega) | ((with_reducible apply c_le_t); omega) | ((with_reducible apply c_le_f); omega) | ((with_reducible apply c_gt_t); omega) | ((with_reducible apply c_gt_f); omega) | ((with_reducible apply c_ge_t); omega) | ((with_reducible apply c_ge_f); omega) | ((with_reducible apply c_eq_t); omega) | ((with_reducible apply c_eq_f); omega) | ((with_reducible apply c_ne_t); omega) | ((with_reducible apply c_ne_f); omega) | ((with_reducible apply room_le); omega)
  | (with_reducible exact c_lt) | (with_reducible exact c_le) | (with_reducible exact c_gt) | (with_reducible exact c_ge) | (with_reducible exact c_eq) | (with_reducible exact c_ne)
  | (with_reducible apply f_len_lst) | (with_reducible apply f_tup_lst) | (with_reducible apply f_list_lst) | (with_reducible apply i_lst) | (with_reducible apply i_tup) | (with_reducible apply i_scr) | (with_reducible apply p_lst2)
  | ((with_reducible apply compact_head0) <;> (first | (with_reducible assumption) | (simp only [D.pure, D.pures, O.pure, Bool.and_self, Bool.and_true, Bool.true_and, List.set_cons_zero, List.set_cons_succ, Int.toNat_zero, Int.toNat_one]; done))) | ((with_reducible apply compact_head) <;> (first | (with_reducible assumption) | (simp only [D.pure, D.pures, O.pure, Bool.and_self, Bool.and_true, Bool.true_and, List.set_cons_zero, List.set_cons_succ, Int.toNat_zero, Int.toNat_one]; done)))
  | (with_reducible refine k_tt ?_) | (with_reducible refine k_ff ?_)
  | (with_reducible apply ev_slot) | (with_reducible apply ev_glob) | (with_reducible apply ev_bin) | (with_reducible apply ev_neg) | (with_reducible apply ev_not') | (with_reducible apply ev_cmp) | (with_reducible apply ev_chn) | (with_reducible apply ch_last) | (with_reducible apply ch_more') | (with_reducible apply ev_and') | (with_reducible apply ev_or') | (with_reducible apply ev_ite') | (with_reducible apply es_cons) | (with_reducible apply ev_tup) | (with_reducible apply ev_lst) | (with_reducible apply ev_idx) | (with_reducible apply eo_some) | (with_reducible apply ev_slc) | (with_reducible apply ev_fld) | (with_reducible apply ev_isa) | (with_reducible apply ev_call) | (with_reducible apply ev_callK) | (with_reducible apply ev_bif) | (with_reducible apply ev_meth) | (with_reducible apply ev_mk) | (with_reducible apply ev_comp) | (with_reducible apply et_one) | (with_reducible apply xs_set2) | (with_reducible apply xs_par) | (with_reducible apply xs_put) | (with_reducible apply xs_expr) | (with_reducible apply xs_ret) | (with_reducible apply xs_ite') | (with_reducible apply xs_unp) | (with_reducible apply ss_cons') | (with_reducible apply sn_nx) | (with_reducible apply fin') | (with_reducible apply fn_rt) | (with_reducible apply fn_nx) | (with_reducible apply m_append2)))
/-- another state: some lamps alike, the others drawn -/
theorem second_row (k : Nat) {R : Store} {ws : List (Nat × List (List Int))} (hw : ∀ w ∈ ws, 1 ≤ w.1 ∧ w.1 < 1000) (hl : ws.length ≤ 100) {a0 : Int} {ra : List Int} (ha : Row ws ra) {e3 : Option D} : ∀ (m j : Nat), j + m = ws.length → ∀ (acc : List Int) (a b : Int), Pok a b → acc.length = j → (∀ (i : Nat) (v : Int), acc[i]? = some v → ∃ w, ws[i]? = some w ∧ 0 ≤ v ∧ v < w.1) →
    ∃ rb a' b', Pok a' b' ∧ Row ws rb ∧ compI (compF (ixOf P (k + 1)) (.ite (.cmp .eq (.call "_law_take" (.cons (.slot 0) (.cons (.cst (.int 2)) .nil)) [] []) (.cst (.int 0))) (.idx (.idx (.slot 2) (.cst (.int 1))) (.slot 4)) (.call "_law_take" (.cons (.slot 0) (.cons (.idx (.idx (.slot 1) (.slot 4)) (.cst (.int 0))) .nil)) [] [])) (.nm 4) .nil [4] [some (.loc 0), some (.tup (ws.map drawD)), some (.tup [.int a0, tI ra]), e3, none]) .free (rangeD (j : Int) (ws.length : Int)) (acc.map D.int) (pool a b :: R) = some (rb.map D.int, pool a' b' :: R)
  | 0, j, hj, acc, a, b, h, hal, hacc => by
    refine ⟨acc, a, b, h, ⟨by omega, hacc⟩, ?_⟩
    rw [rangeD_nil (by omega)]
    unfold compI
    exact if_pos trivial
  | m + 1, j, hj, acc, a, b, h, hal, hacc => by
    have hjw : j < ws.length := by omega
    have hjr : j < ra.length := by rw [ha.1]; exact hjw
    have hwj := hw ws[j] (List.getElem_mem hjw)
    obtain ⟨r, a1, b1, hp1, r0, r1, hc1⟩ := x_law_take k R h (top := 2) (by omega) (by omega)
    obtain ⟨w, hwe, v0, v1⟩ := ha.2 j ra[j] (List.getElem?_eq_getElem hjr)
    rw [List.getElem?_eq_getElem hjw] at hwe
    cases hwe
    have ea : L2.atI (ra.map D.int) (j : Int) = some (.int ra[j]) := L2.atI_nat (by rw [List.getElem?_map, List.getElem?_eq_getElem hjr]; rfl)
    have ew : L2.atI (ws.map drawD) (j : Int) = some (drawD ws[j]) := L2.atI_nat (by rw [List.getElem?_map, List.getElem?_eq_getElem hjw]; rfl)
    let E : PL.Env := [some (.loc 0), some (.tup (ws.map drawD)), some (.tup [.int a0, tI ra]), e3, some (.int (j : Int))]
    have ht : evE (ixOf P (k + 1)) (.cmp .eq (.call "_law_take" (.cons (.slot 0) (.cons (.cst (.int 2)) .nil)) [] []) (.cst (.int 0))) E (pool a b :: R) = some (.val (.bl (decide (r = 0))) (pool a1 b1 :: R)) :=
      ev_cmp (ev_call (es_cons (ev_slot rfl) (es_cons ev_cst es_nil)) (call_get hc1)) ev_cst c_eq
    have hone : ∃ v a2 b2, Pok a2 b2 ∧ 0 ≤ v ∧ v < (ws[j].1 : Int) ∧ compF (ixOf P (k + 1)) (.ite (.cmp .eq (.call "_law_take" (.cons (.slot 0) (.cons (.cst (.int 2)) .nil)) [] []) (.cst (.int 0))) (.idx (.idx (.slot 2) (.cst (.int 1))) (.slot 4)) (.call "_law_take" (.cons (.slot 0) (.cons (.idx (.idx (.slot 1) (.slot 4)) (.cst (.int 0))) .nil)) [] [])) (.nm 4) .nil [4] [some (.loc 0), some (.tup (ws.map drawD)), some (.tup [.int a0, tI ra]), e3, none] (.int (j : Int)) (pool a b :: R) = some (some (.int v), pool a2 b2 :: R) := by
      by_cases hr : r = 0
      · rw [decide_eq_true hr] at ht
        exact ⟨ra[j], a1, b1, hp1, v0, v1, cf_t (env' := E) rfl et_nil (ev_ite_t ht rfl (ev_idx (ev_idx (ev_slot rfl) ev_cst (i_tup rfl)) (ev_slot rfl) (i_tup ea))) (compact_head0 R rfl rfl)⟩
      · rw [decide_eq_false hr] at ht
        obtain ⟨v, a2, b2, hp2, v0', v1', hc2⟩ := x_law_take k R hp1 (top := ws[j].1) (by omega) (by omega)
        exact ⟨v, a2, b2, hp2, v0', v1', cf_t (env' := E) rfl et_nil (ev_ite_f ht rfl (ev_call (es_cons (ev_slot rfl) (es_cons (ev_idx (ev_idx (ev_slot rfl) (ev_slot rfl) (i_tup ew)) ev_cst (i_tup rfl)) es_nil)) (call_get hc2))) (compact_head0 R rfl rfl)⟩
    obtain ⟨v, a2, b2, hp2, w0, w1, hf⟩ := hone
    obtain ⟨rb, a3, b3, hp3, hrow, hcc⟩ := second_row k (R := R) hw hl ha (a0 := a0) (e3 := e3) m (j + 1) (by omega) (acc ++ [v]) a2 b2 hp2 (by simp only [List.length_append, List.length_cons, List.length_nil]; omega) (by
      intro i u hu
      by_cases hi : i < acc.length
      · rw [List.getElem?_append_left hi] at hu
        exact hacc i u hu
      · rw [List.getElem?_append_right (by omega)] at hu
        have : i = j := by
          have := (List.getElem?_eq_some_iff.mp hu).1
          simp only [List.length_cons, List.length_nil] at this
          omega
        subst this
        rw [hal, Nat.sub_self] at hu
        cases hu
        exact ⟨ws[i], List.getElem?_eq_getElem hjw, w0, w1⟩)
    refine ⟨rb, a3, b3, hp3, hrow, ?_⟩
    rw [rangeD_cons (by omega)]
    unfold compI
    rw [if_pos (show Src.ok _ .free from trivial), hf]
    dsimp only
    rw [if_pos (by rw [List.length_map]; show _ < 16777216; omega)]
    have e : ((j : Int) + 1) = ((j + 1 : Nat) : Int) := by omega
    rw [e]
    rw [List.map_append] at hcc
    exact hcc
theorem x_law_second (k : Nat) (R : Store) {a b : Int} {ws : List (Nat × List (List Int))} {a0 : Int} {ra : List Int} (h : Pok a b) (hw : ∀ w ∈ ws, 1 ≤ w.1 ∧ w.1 < 1000) (h1 : 1 ≤ ws.length) (hl : ws.length ≤ 100) (g0 : 0 ≤ a0) (g1 : a0 < (ws.length : Int)) (ha : Row ws ra) :
    ∃ b0 rb a' b', Pok a' b' ∧ 0 ≤ b0 ∧ b0 < (ws.length : Int) ∧ Row ws rb ∧ callN P (k + 3) "_law_second" [.loc 0, .tup (ws.map drawD), .tup [.int a0, tI ra]] (pool a b :: R) = some (.val (.tup [.int b0, tI rb]) (pool a' b' :: R)) := by
  obtain ⟨rb, a1, b1, hp1, hrow, hcc⟩ := second_row (k + 1) (R := R) hw hl ha (a0 := a0) (e3 := none) ws.length 0 (by omega) [] a b h rfl (fun i v hv => by simp at hv)
  obtain ⟨x, a2, b2, hp2, x0, x1, hc2⟩ := x_law_take (k + 1) R hp1 (top := ws.length) (by omega) (by omega)
  obtain ⟨y, a3, b3, hp3, y0, y1, hc3⟩ := x_law_take (k + 1) R hp2 (top := ws.length) (by omega) (by omega)
  obtain ⟨b0, a4, b4, hp4, hm, hc4⟩ := x_law_oneI k (R ++ [O.lst ([a0, x, y].map D.int)]) hp3 (j := R.length) (ms := [a0, x, y]) List.getElem?_concat_length (by simp) (by simp)
  have hb : 0 ≤ b0 ∧ b0 < (ws.length : Int) := by
    simp only [List.mem_cons, List.not_mem_nil, or_false] at hm
    rcases hm with rfl | rfl | rfl <;> exact ⟨by assumption, by assumption⟩
  let E : Option D → PL.Env := fun e => [some (.loc 0), some (.tup (ws.map drawD)), some (.tup [.int a0, tI ra]), e, none]
  have hlen : ∀ (e : Option D) (S : Store), evE (ixOf P (k + 2)) (.bif .len (.cons (.slot 1) .nil)) (E e) S = some (.val (.int ws.length) S) := fun e S => by
    have := ev_bif (ix := ixOf P (k + 2)) (f := .len) (env := E e) (S := S) (es := .cons (.slot 1) .nil) (es_cons (ev_slot rfl) es_nil) (f_len_tup (l := ws.map drawD))
    rwa [List.length_map] at this
  have hs3 : exS (ixOf P (k + 2)) (.set 3 (.bif .tuple (.cons (.comp (.ite (.cmp .eq (.call "_law_take" (.cons (.slot 0) (.cons (.cst (.int 2)) .nil)) [] []) (.cst (.int 0))) (.idx (.idx (.slot 2) (.cst (.int 1))) (.slot 4)) (.call "_law_take" (.cons (.slot 0) (.cons (.idx (.idx (.slot 1) (.slot 4)) (.cst (.int 0))) .nil)) [] [])) (.nm 4) (.range1 (.bif .len (.cons (.slot 1) .nil))) (.nil) [4]) .nil))) (E none) (pool a b :: R) = some (.nx (E (some (tI rb))) (pool a1 b1 :: R)) :=
    xs_set (ev_bif (es_cons (ev_comp (it_range1' (hlen none _) (okRange_nat (by omega)) (compact_self _ rfl)) hcc unlk_free) es_nil) (f_tup_lst List.getElem?_concat_length)) (compact_head R _ rfl (tI_pure rb))
  have hpu : (D.tup [.int b0, tI rb]).pure = true := by
    show (true && (D.pures (rb.map D.int) && true)) = true
    rw [pures_ints]; rfl
  have hret : exS (ixOf P (k + 2)) (.ret (.tup (.cons (.call "_law_one" (.cons (.slot 0) (.cons (.lst (.cons (.idx (.slot 2) (.cst (.int 0))) (.cons (.call "_law_take" (.cons (.slot 0) (.cons (.bif .len (.cons (.slot 1) .nil)) .nil)) [] []) (.cons (.call "_law_take" (.cons (.slot 0) (.cons (.bif .len (.cons (.slot 1) .nil)) .nil)) [] []) .nil)))) .nil)) [] []) (.cons (.slot 3) .nil)))) (E (some (tI rb))) (pool a1 b1 :: R) = some (.rt (.tup [.int b0, tI rb]) (pool a4 b4 :: R)) :=
    xs_ret (ev_tup (es_cons (ev_call (es_cons (ev_slot rfl) (es_cons (ev_lst (es_cons (ev_idx (ev_slot rfl) ev_cst (i_tup rfl)) (es_cons (ev_call (es_cons (ev_slot rfl) (es_cons (hlen _ _) es_nil)) (call_get hc2)) (es_cons (ev_call (es_cons (ev_slot rfl) (es_cons (hlen _ _) es_nil)) (call_get hc3)) es_nil))) (le_line rfl)) es_nil)) (call_get hc4)) (es_cons (ev_slot rfl) es_nil)) (le_line rfl)) (compact_head R _ rfl hpu)
  exact ⟨b0, rb, a4, b4, hp4, hb.1, hb.2, hrow, r__law_second (fin_rt' (ss_nx hs3 (ss_rt hret)) (compact_head0 R rfl hpu))⟩
end K13
set_option Elab.async false
set_option linter.all false
set_option maxRecDepth 100000
namespace K13
open PySem PySem.Spec PyProof.Rows PL L2
/-- steps of a run -/
local macro_rules | `(tactic| walk_at "pl") => `(tactic| repeat' (first
  | ((with_reducible apply hyp_get); (with_reducible assumption))
  | ((with_reducible apply call_get); (with_reducible assumption))
  | (with_reducible exact ev_cst) | (with_reducible exact es_nil) | (with_reducible exact et_nil) | (with_reducible exact eo_none) | (with_reducible exact ss_nil) | (with_reducible exact ev_dict0) | (with_reducible exact t_bl) | (with_reducible exact b_add) | (with_reducible exact b_mulb) | (with_reducible exact b_pow18) | (with_reducible exact b_sub) | (with_reducible exact f_int) | (with_reducible exact f_max) | (with_reducible exact f_min) | (with_reducible exact t_scr0) | (with_reducible exact t_scr1) | (with_reducible exact f_intb) | (with_reducible exact f_len_tup) | (with_reducible exact f_len_scr) | (with_reducible exact f_list_tup) | (with_reducible exact unlk_free) | (with_reducible exact not_tt) | (with_reducible exact not_ff) | (with_reducible exact not_k) | (with_reducible exact isa_int) | (with_reducible exact isa_bl) | (with_reducible exact isa_tup) | (with_reducible exact isa_obj) | (with_reducible exact get0) | (with_reducible exact get1) | (with_reducible exact get2) | (with_reducible exact par2) | (with_reducible exact par3) | (with_reducible exact bind_nm) | (with_reducible exact sn_rt) | (with_reducible exact k_tf) | (with_reducible exact k_ft)
  | ((with_reducible apply env_get); exact rfl) | ((with_reducible apply sto_get); exact rfl) | ((with_reducible apply atI_get'); exact rfl) | ((with_reducible apply ixN_get'); exact rfl) | ((with_reducible apply ar_get); exact rfl) | ((with_reducible apply gl_get); exact rfl) | ((with_reducible apply perm_get); exact rfl) | ((with_reducible apply bind_get); exact rfl) | ((with_reducible apply pure_t); (first | (with_reducible assumption) | (simp only [D.pure, D.pures, O.pure, Bool.and_self, Bool.and_true, Bool.true_and, List.set_cons_zero, List.set_cons_succ, Int.toNat_zero, Int.toNat_one]; done))) | ((with_reducible apply pure_o); (first | (with_reducible assumption) | (simp only [D.pure, D.pures, O.pure, Bool.and_self, Bool.and_true, Bool.true_and, List.set_cons_zero, List.set_cons_succ, Int.toNat_zero, Int.toNat_one]; done))) | ((with_reducible apply pures_t); (first | (with_reducible assumption) | (simp only [D.pure, D.pures, O.pure, Bool.and_self, Bool.and_true, Bool.true_and, List.set_cons_zero, List.set_cons_succ, Int.toNat_zero, Int.toNat_one]; done))) | ((with_reducible apply le_line); exact rfl) | ((with_reducible apply compact_self); (first | (with_reducible assumption) | (simp only [D.pure, D.pures, O.pure, Bool.and_self, Bool.and_true, Bool.true_and, List.set_cons_zero, List.set_cons_succ, Int.toNat_zero, Int.toNat_one]; done))) | ((with_reducible apply compact_app); (first | (with_reducible assumption) | (simp only [D.pure, D.pures, O.pure, Bool.and_self, Bool.and_true, Bool.true_and, List.set_cons_zero, List.set_cons_succ, Int.toNat_zero, Int.toNat_one]; done))) | ((with_reducible apply compact_new0); (first | (with_reducible assumption) | (simp only [D.pure, D.pures, O.pure, Bool.and_self, Bool.and_true, Bool.true_and, List.set_cons_zero, List.set_cons_succ, Int.toNat_zero, Int.toNat_one]; done)))
  | ((with_reducible apply lt_line); exact rfl)
  | ((with_reducible apply sto_eq); (simp only [List.set_cons_zero, List.set_cons_succ, List.cons_append, List.nil_append, Int.toNat_zero, Int.toNat_one]; done))
  | ((with_reducible apply sto_eq); (try simp only [List.set_cons_zero, List.set_cons_succ, List.cons_append, List.nil_append, Int.toNat_zero, Int.toNat_one]); exact rfl)
  | ((with_reducible apply env_eq); (try simp only [List.set_cons_zero, List.set_cons_succ]); exact rfl)
  | ((with_reducible apply b_mul); omega) | ((with_reducible apply b_fdiv) <;> omega) | ((with_reducible apply b_mod); omega)
  | ((with_reducible apply c_lt_t); omega) | ((with_reducible apply c_lt_f); omega) | ((with_reducible apply c_le_t); omega) | ((with_reducible apply c_le_f); omega) | ((with_reducible apply c_gt_t); omega) | ((with_reducible apply c_gt_f); omega) | ((with_reducible apply c_ge_t); omega) | ((with_reducible apply c_ge_f); omega) | ((with_reducible apply c_eq_t); omega) | ((with_reducible apply c_eq_f); omega) | ((with_reducible apply c_ne_t); omega) | ((with_reducible apply c_ne_f); omega) | ((with_reducible apply room_le); omega)
  | (with_reducible exact c_lt) | (with_reducible exact c_le) | (with_reducible exact c_gt) | (with_reducible exact c_ge) | (with_reducible exact c_eq) | (with_reducible exact c_ne)
  | (with_reducible apply f_len_lst) | (with_reducible apply f_tup_lst) | (with_reducible apply f_list_lst) | (with_reducible apply i_lst) | (with_reducible apply i_tup) | (with_reducible apply i_scr) | (with_reducible apply p_lst2)
  | ((with_reducible apply compact_head0) <;> (first | (with_reducible assumption) | (simp only [D.pure, D.pures, O.pure, Bool.and_self, Bool.and_true, Bool.true_and, List.set_cons_zero, List.set_cons_succ, Int.toNat_zero, Int.toNat_one]; done))) | ((with_reducible apply compact_head) <;> (first | (with_reducible assumption) | (simp only [D.pure, D.pures, O.pure, Bool.and_self, Bool.and_true, Bool.true_and, List.set_cons_zero, List.set_cons_succ, Int.toNat_zero, Int.toNat_one]; done)))
  | (with_reducible refine k_tt ?_) | (with_reducible refine k_ff ?_)
  | (with_reducible apply ev_slot) | (with_reducible apply ev_glob) | (with_reducible apply ev_bin) | (with_reducible apply ev_neg) | (with_reducible apply ev_not') | (with_reducible apply ev_cmp) | (with_reducible apply ev_chn) | (with_reducible apply ch_last) | (with_reducible apply ch_more') | (with_reducible apply ev_and') | (with_reducible apply ev_or') | (with_reducible apply ev_ite') | (with_reducible apply es_cons) | (with_reducible apply ev_tup) | (with_reducible apply ev_lst) | (with_reducible apply ev_idx) | (with_reducible apply eo_some) | (with_reducible apply ev_slc) | (with_reducible apply ev_fld) | (with_reducible apply ev_isa) | (with_reducible apply ev_call) | (with_reducible apply ev_callK) | (with_reducible apply ev_bif) | (with_reducible apply ev_meth) | (with_reducible apply ev_mk) | (with_reducible apply ev_comp) | (with_reducible apply et_one) | (with_reducible apply xs_set2) | (with_reducible apply xs_par) | (with_reducible apply xs_put) | (with_reducible apply xs_expr) | (with_reducible apply xs_ret) | (with_reducible apply xs_ite') | (with_reducible apply xs_unp) | (with_reducible apply ss_cons') | (with_reducible apply sn_nx) | (with_reducible apply fin') | (with_reducible apply fn_rt) | (with_reducible apply fn_nx) | (with_reducible apply m_append2)))
theorem cut_last {l : List D} : PL.cutD l none (some (-1)) = l.take (l.length - 1) := by
  unfold PL.cutD
  rw [HT.sIx_none]
  have : HT.sIx l.length l.length (some (-1)) = l.length - 1 := by
    show (if (-1 : Int) < 0 then ((-1 : Int) + (l.length : Int)).toNat else min (-1 : Int).toNat l.length) = _
    rw [if_pos (by decide)]
    omega
  rw [this]; rfl
theorem b_pow20 {S : Store} : binD .pow (.int 10) (.int 20) S = some (.int (10 ^ (20 : Nat)), S) := b_pow ⟨by decide, by decide, by decide⟩
/-- a spoilt state and what is due of it -/
def Due (n : Nat) (rs : List (List Int)) (ws : List (Nat × List (List Int))) (st due : D) : Prop := ∃ (e : Ex) (i : Int), BadSt n rs ws st e ∧ (e = ⟨6, .int i⟩ ∧ due = .tup [.str (Str.ofString "place"), .int i] ∨ e = ⟨7, .int i⟩ ∧ due = .tup [.str (Str.ofString "state"), .int i] ∨ e = ⟨7, .tup [.int i]⟩ ∧ due = .tup [.str (Str.ofString "state"), .tup [.int i]])
theorem Due.ne {n : Nat} {rs : List (List Int)} {ws : List (Nat × List (List Int))} {st due : D} (h : Due n rs ws st due) (S : Store) : cmpD .ne due due S = some false := by
  obtain ⟨e, i, _, ⟨_, rfl⟩ | ⟨_, rfl⟩ | ⟨_, rfl⟩⟩ := h
  · exact c_ne_word
  · exact c_ne_word
  · exact c_ne_word1
theorem Due.pure {n : Nat} {rs : List (List Int)} {ws : List (Nat × List (List Int))} {st due : D} (h : Due n rs ws st due) : due.pure = true := by
  obtain ⟨e, i, _, ⟨_, rfl⟩ | ⟨_, rfl⟩ | ⟨_, rfl⟩⟩ := h <;> rfl
/-- places far from a state -/
theorem x_law_spoilt (k : Nat) (R : Store) {a b : Int} {n : Nat} {rs : List (List Int)} {ws : List (Nat × List (List Int))} {a0 : Int} {ra : List Int} (h : Pok a b) (hws : ws.length = n) (hw : ∀ w ∈ ws, 1 ≤ w.1 ∧ w.1 < 1000) (h1 : 1 ≤ n) (hl : n ≤ 100) (g0 : 0 ≤ a0) (g1 : a0 < (n : Int)) (ha : Row ws ra) :
    ∃ p row due a' b', Pok a' b' ∧ Due n rs ws (.tup [.int p, tI row]) due ∧ callN P (k + 3) "_law_spoilt" [.loc 0, .tup (ws.map drawD), .tup [.int a0, tI ra]] (pool a b :: R) = some (.val (.tup [.tup [.int p, tI row], due]) (pool a' b' :: R)) := by
  obtain ⟨at_, a1, b1, hp1, x0, x1, hc1⟩ := x_law_take (k + 1) R h (top := n) (by omega) (by omega)
  obtain ⟨j, rfl⟩ : ∃ j : Nat, at_ = j := ⟨at_.toNat, by omega⟩
  have hj : j < ws.length := by omega
  have hrl : ra.length = ws.length := ha.1
  have hjr : j < ra.length := by omega
  have hwj := hw ws[j] (List.getElem_mem hj)
  obtain ⟨far, a2, b2, hp2, hm, hc2⟩ := x_law_oneI k (R ++ [O.lst ([(ws[j].1 : Int), -1, 10 ^ (20 : Nat)].map D.int)]) hp1 (j := R.length) (ms := [(ws[j].1 : Int), -1, 10 ^ (20 : Nat)]) List.getElem?_concat_length (by simp) (by simp)
  obtain ⟨way, a3, b3, hp3, y0, y1, hc3⟩ := x_law_take (k + 1) R hp2 (top := 4) (by omega) (by omega)
  have hfar : ¬ (0 ≤ far ∧ far < (ws[j].1 : Int)) := by
    simp only [List.mem_cons, List.not_mem_nil, or_false] at hm
    have h20 : (1000 : Int) < 10 ^ (20 : Nat) := by decide
    rcases hm with rfl | rfl | rfl <;> omega
  have hbadl : (ra.set j far).length = ra.length := List.length_set ..
  have ew : L2.atI (ws.map drawD) (j : Int) = some (drawD ws[j]) := L2.atI_nat (by rw [List.getElem?_map, List.getElem?_eq_getElem hj]; rfl)
  let E : Option D → Option D → Option D → Option D → Option D → Option D → PL.Env := fun e3 e4 e5 e6 e7 e8 => [some (.loc 0), some (.tup (ws.map drawD)), some (.tup [.int a0, tI ra]), e3, e4, e5, e6, e7, e8]
  have hps : (D.tup [.int a0, tI ra]).pure = true := by
    show (true && (D.pures (ra.map D.int) && true)) = true
    rw [pures_ints]; rfl
  have hlen : ∀ (e : PL.Env) (S : Store), e[1]? = some (some (.tup (ws.map drawD))) → evE (ixOf P (k + 2)) (.bif .len (.cons (.slot 1) .nil)) e S = some (.val (.int n) S) := fun e S he => by
    have := ev_bif (ix := ixOf P (k + 2)) (f := .len) (env := e) (S := S) (es := .cons (.slot 1) .nil) (es_cons (ev_slot he) es_nil) (f_len_tup (l := ws.map drawD))
    rwa [List.length_map, hws] at this
  have e1 : exS (ixOf P (k + 2)) (.unp (.tup [.nm 3, .nm 4]) (.slot 2)) (E none none none none none none) (pool a b :: R) = some (.nx (E (some (.int a0)) (some (tI ra)) none none none none) (pool a b :: R)) :=
    xs_unp (ev_slot rfl) (compact_self _ hps) rfl
  have e2 : exS (ixOf P (k + 2)) (.set 5 (.call "_law_take" (.cons (.slot 0) (.cons (.bif .len (.cons (.slot 1) .nil)) .nil)) [] [])) (E (some (.int a0)) (some (tI ra)) none none none none) (pool a b :: R) = some (.nx (E (some (.int a0)) (some (tI ra)) (some (.int (j : Int))) none none none) (pool a1 b1 :: R)) :=
    xs_set (ev_call (es_cons (ev_slot rfl) (es_cons (hlen _ _ rfl) es_nil)) (call_get hc1)) (compact_head0 R rfl rfl)
  have e3 : exS (ixOf P (k + 2)) (.set 6 (.call "_law_one" (.cons (.slot 0) (.cons (.lst (.cons (.idx (.idx (.slot 1) (.slot 5)) (.cst (.int 0))) (.cons (.neg (.cst (.int 1))) (.cons (.bin .pow (.cst (.int 10)) (.cst (.int 20))) .nil)))) .nil)) [] [])) (E (some (.int a0)) (some (tI ra)) (some (.int (j : Int))) none none none) (pool a1 b1 :: R) = some (.nx (E (some (.int a0)) (some (tI ra)) (some (.int (j : Int))) (some (.int far)) none none) (pool a2 b2 :: R)) :=
    xs_set (ev_call (es_cons (ev_slot rfl) (es_cons (ev_lst (es_cons (ev_idx (ev_idx (ev_slot rfl) (ev_slot rfl) (i_tup ew)) ev_cst (i_tup rfl)) (es_cons (ev_neg ev_cst) (es_cons (ev_bin ev_cst ev_cst b_pow20) es_nil))) (le_line rfl)) es_nil)) (call_get hc2)) (compact_head R _ rfl rfl)
  have s1 : ∀ S, slcD (tI ra) none (some (j : Int)) S = some (tI (ra.take j), S) := fun S => by
    show some (D.tup (PL.cutD _ _ _), S) = _
    rw [cut_to (by rw [List.length_map]; omega), ← List.map_take]
  have s2 : ∀ S, slcD (tI ra) (some ((j : Int) + 1)) none S = some (tI (ra.drop (j + 1)), S) := fun S => by
    show some (D.tup (PL.cutD _ (some ((j + 1 : Nat) : Int)) _), S) = _
    rw [cut_from (by rw [List.length_map]; omega), ← List.map_drop]
  have q1 : ∀ S, binD .add (tI (ra.take j)) (.tup [.int far]) S = some (tI (ra.take j ++ [far]), S) := fun S => by
    have := b_tup (S := S) (l := (ra.take j).map D.int) (m := [far].map D.int) (by rw [List.length_map, List.length_take]; show _ ≤ 16777216; simp only [List.map_cons, List.map_nil, List.length_cons, List.length_nil]; omega)
    rwa [← List.map_append] at this
  have q2 : ∀ S, binD .add (tI (ra.take j ++ [far])) (tI (ra.drop (j + 1))) S = some (tI (ra.set j far), S) := fun S => by
    have := b_tup (S := S) (l := (ra.take j ++ [far]).map D.int) (m := (ra.drop (j + 1)).map D.int) (by rw [List.length_map, List.length_map, List.length_append, List.length_take, List.length_drop]; show _ ≤ 16777216; simp only [List.length_cons, List.length_nil]; omega)
    rw [← List.map_append] at this
    have e : ra.take j ++ [far] ++ ra.drop (j + 1) = ra.set j far := by
      rw [List.set_eq_take_append_cons_drop, if_pos hjr, List.append_assoc]; rfl
    rwa [e] at this
  have e4 : exS (ixOf P (k + 2)) (.set 7 (.bin .add (.bin .add (.slc (.slot 4) none (some (.slot 5))) (.tup (.cons (.slot 6) .nil))) (.slc (.slot 4) (some (.bin .add (.slot 5) (.cst (.int 1)))) none))) (E (some (.int a0)) (some (tI ra)) (some (.int (j : Int))) (some (.int far)) none none) (pool a2 b2 :: R) = some (.nx (E (some (.int a0)) (some (tI ra)) (some (.int (j : Int))) (some (.int far)) (some (tI (ra.set j far))) none) (pool a2 b2 :: R)) :=
    xs_set (ev_bin (ev_bin (ev_slc (ev_slot rfl) eo_none (eo_some (ev_slot rfl)) (s1 _)) (ev_tup (es_cons (ev_slot rfl) es_nil) (le_line rfl)) (q1 _)) (ev_slc (ev_slot rfl) (eo_some (ev_bin (ev_slot rfl) ev_cst b_add)) eo_none (s2 _)) (q2 _)) (compact_self _ (tI_pure _))
  have e5 : exS (ixOf P (k + 2)) (.set 8 (.call "_law_take" (.cons (.slot 0) (.cons (.cst (.int 4)) .nil)) [] [])) (E (some (.int a0)) (some (tI ra)) (some (.int (j : Int))) (some (.int far)) (some (tI (ra.set j far))) none) (pool a2 b2 :: R) = some (.nx (E (some (.int a0)) (some (tI ra)) (some (.int (j : Int))) (some (.int far)) (some (tI (ra.set j far))) (some (.int way))) (pool a3 b3 :: R)) :=
    xs_set (ev_call (es_cons (ev_slot rfl) (es_cons ev_cst es_nil)) (call_get hc3)) (compact_head0 R rfl rfl)
  let F : PL.Env := E (some (.int a0)) (some (tI ra)) (some (.int (j : Int))) (some (.int far)) (some (tI (ra.set j far))) (some (.int way))
  have t0 : evE (ixOf P (k + 2)) (.cmp .eq (.slot 8) (.cst (.int 0))) F (pool a3 b3 :: R) = some (.val (.bl (decide (way = 0))) (pool a3 b3 :: R)) := ev_cmp (ev_slot rfl) ev_cst c_eq
  have t1 : evE (ixOf P (k + 2)) (.cmp .eq (.slot 8) (.cst (.int 1))) F (pool a3 b3 :: R) = some (.val (.bl (decide (way = 1))) (pool a3 b3 :: R)) := ev_cmp (ev_slot rfl) ev_cst c_eq
  have t2 : evE (ixOf P (k + 2)) (.cmp .eq (.slot 8) (.cst (.int 2))) F (pool a3 b3 :: R) = some (.val (.bl (decide (way = 2))) (pool a3 b3 :: R)) := ev_cmp (ev_slot rfl) ev_cst c_eq
  have hpu : ∀ (p : Int) (l : List Int) (w : Str) (d : D), d.pure = true → (D.tup [.tup [.int p, tI l], .tup [.str w, d]]).pure = true := fun p l w d hd => by
    show ((true && (D.pures (l.map D.int) && true)) && ((true && (d.pure && true)) && true)) = true
    rw [pures_ints, hd]; rfl
  have hlr : ∀ S, evE (ixOf P (k + 2)) (.bif .len (.cons (.slot 4) .nil)) F S = some (.val (.int ra.length) S) := fun S => by
    have := ev_bif (ix := ixOf P (k + 2)) (f := .len) (env := F) (S := S) (es := .cons (.slot 4) .nil) (es_cons (ev_slot rfl) es_nil) (f_len_tup (l := ra.map D.int))
    rwa [List.length_map] at this
  by_cases w0 : way = 0
  · rw [decide_eq_true w0] at t0
    refine ⟨n, ra.set j far, .tup [.str (Str.ofString "place"), .int n], a3, b3, hp3, ⟨⟨6, .int n⟩, n, ⟨rfl, fun k S => x_want_state_p k S (by omega)⟩, .inl ⟨rfl, rfl⟩⟩, ?_⟩
    exact r__law_spoilt (fin_rt' (ss_nx e1 (ss_nx e2 (ss_nx e3 (ss_nx e4 (ss_nx e5 (ss_rt (xs_ite_t t0 rfl (compact_self _ rfl) (ss_rt (xs_ret (ev_tup (es_cons (ev_tup (es_cons (hlen _ _ rfl) (es_cons (ev_slot rfl) es_nil)) (le_line rfl)) (es_cons (ev_tup (es_cons ev_cst (es_cons (hlen _ _ rfl) es_nil)) (le_line rfl)) es_nil)) (le_line rfl)) (compact_self _ (hpu _ _ _ _ rfl)))))))))) ) (compact_head0 R rfl (hpu _ _ _ _ rfl)))
  · rw [decide_eq_false w0] at t0
    by_cases w1 : way = 1
    · rw [decide_eq_true w1] at t1
      have s3 : ∀ S, slcD (tI ra) none (some (-1)) S = some (tI (ra.take (ra.length - 1)), S) := fun S => by
        show some (D.tup (PL.cutD _ _ _), S) = _
        rw [cut_last, List.length_map, ← List.map_take]
      have hlt : (ra.take (ra.length - 1)).length = ra.length - 1 := by rw [List.length_take]; omega
      have hne : (ra.take (ra.length - 1)).length ≠ n := by rw [hlt]; omega
      have hev : ((ra.length : Int) - 1) = ((ra.take (ra.length - 1)).length : Int) := by rw [hlt]; omega
      refine ⟨a0, ra.take (ra.length - 1), .tup [.str (Str.ofString "state"), .int ((ra.length : Int) - 1)], a3, b3, hp3, ⟨⟨7, .int ((ra.length : Int) - 1)⟩, _, ⟨rfl, fun k S => x_want_state_r k S g0 g1 rfl (by rw [hev]; exact x_want_row_len k S hne)⟩, .inr (.inl ⟨rfl, rfl⟩)⟩, ?_⟩
      exact r__law_spoilt (fin_rt' (ss_nx e1 (ss_nx e2 (ss_nx e3 (ss_nx e4 (ss_nx e5 (ss_nx (xs_ite_f t0 rfl (compact_self _ rfl) ss_nil) (ss_rt (xs_ite_t t1 rfl (compact_self _ rfl) (ss_rt (xs_ret (ev_tup (es_cons (ev_tup (es_cons (ev_slot rfl) (es_cons (ev_slc (ev_slot rfl) eo_none (eo_some (ev_neg ev_cst)) (s3 _)) es_nil)) (le_line rfl)) (es_cons (ev_tup (es_cons ev_cst (es_cons (ev_bin (hlr _) ev_cst b_sub) es_nil)) (le_line rfl)) es_nil)) (le_line rfl)) (compact_self _ (hpu _ _ _ _ rfl))))))))))) ) (compact_head0 R rfl (hpu _ _ _ _ rfl)))
    · rw [decide_eq_false w1] at t1
      by_cases w2 : way = 2
      · rw [decide_eq_true w2] at t2
        have q3 : ∀ S, binD .add (tI (ra.set j far)) (.tup [.int 0]) S = some (tI (ra.set j far ++ [0]), S) := fun S => by
          have := b_tup (S := S) (l := (ra.set j far).map D.int) (m := [0].map D.int) (by rw [List.length_map]; show _ ≤ 16777216; simp only [List.map_cons, List.map_nil, List.length_cons, List.length_nil]; omega)
          rwa [← List.map_append] at this
        have hlt : (ra.set j far ++ [0]).length = ra.length + 1 := by rw [List.length_append, hbadl]; rfl
        have hne : (ra.set j far ++ [0]).length ≠ n := by rw [hlt]; omega
        have hev : ((ra.length : Int) + 1) = ((ra.set j far ++ [0]).length : Int) := by rw [hlt]; omega
        refine ⟨a0, ra.set j far ++ [0], .tup [.str (Str.ofString "state"), .int ((ra.length : Int) + 1)], a3, b3, hp3, ⟨⟨7, .int ((ra.length : Int) + 1)⟩, _, ⟨rfl, fun k S => x_want_state_r k S g0 g1 rfl (by rw [hev]; exact x_want_row_len k S hne)⟩, .inr (.inl ⟨rfl, rfl⟩)⟩, ?_⟩
        exact r__law_spoilt (fin_rt' (ss_nx e1 (ss_nx e2 (ss_nx e3 (ss_nx e4 (ss_nx e5 (ss_nx (xs_ite_f t0 rfl (compact_self _ rfl) ss_nil) (ss_nx (xs_ite_f t1 rfl (compact_self _ rfl) ss_nil) (ss_rt (xs_ite_t t2 rfl (compact_self _ rfl) (ss_rt (xs_ret (ev_tup (es_cons (ev_tup (es_cons (ev_slot rfl) (es_cons (ev_bin (ev_slot rfl) (ev_tup (es_cons ev_cst es_nil) (le_line rfl)) (q3 _)) es_nil)) (le_line rfl)) (es_cons (ev_tup (es_cons ev_cst (es_cons (ev_bin (hlr _) ev_cst b_add) es_nil)) (le_line rfl)) es_nil)) (le_line rfl)) (compact_self _ (hpu _ _ _ _ rfl)))))))))))) ) (compact_head0 R rfl (hpu _ _ _ _ rfl)))
      · rw [decide_eq_false w2] at t2
        have hbj : (ra.set j far)[j]'(by omega) = far := by rw [List.getElem_set_self]
        refine ⟨a0, ra.set j far, .tup [.str (Str.ofString "state"), .tup [.int (j : Int)]], a3, b3, hp3, ⟨⟨7, .tup [.int (j : Int)]⟩, _, ⟨rfl, fun k S => x_want_state_r k S g0 g1 rfl (x_want_row_at k S hws (by omega) (j := j) (by omega) (fun i v hi hv => ?_) (w := ws[j]) (List.getElem?_eq_getElem hj) (by rw [hbj]; exact hfar))⟩, .inr (.inr ⟨rfl, rfl⟩)⟩, ?_⟩
        · rw [List.getElem?_set_ne (by omega)] at hv
          exact ha.2 i v hv
        · exact r__law_spoilt (fin_rt' (ss_nx e1 (ss_nx e2 (ss_nx e3 (ss_nx e4 (ss_nx e5 (ss_nx (xs_ite_f t0 rfl (compact_self _ rfl) ss_nil) (ss_nx (xs_ite_f t1 rfl (compact_self _ rfl) ss_nil) (ss_nx (xs_ite_f t2 rfl (compact_self _ rfl) ss_nil) (ss_rt (xs_ret (ev_tup (es_cons (ev_tup (es_cons (ev_slot rfl) (es_cons (ev_slot rfl) es_nil)) (le_line rfl)) (es_cons (ev_tup (es_cons ev_cst (es_cons (ev_tup (es_cons (ev_slot rfl) es_nil) (le_line rfl)) es_nil)) (le_line rfl)) es_nil)) (le_line rfl)) (compact_self _ (hpu _ _ _ _ rfl))))))))))) ) (compact_head0 R rfl (hpu _ _ _ _ rfl)))
end K13
set_option Elab.async false
set_option linter.all false
set_option maxRecDepth 100000
namespace K13
open PySem PySem.Spec PyProof.Rows PL L2
/-- steps of a run -/
local macro_rules | `(tactic| walk_at "pl") => `(tactic| repeat' (first
  | ((with_reducible apply hyp_get); (with_reducible assumption))
  | ((with_reducible apply call_get); (with_reducible assumption))
  | (with_reducible exact ev_cst) | (with_reducible exact es_nil) | (with_reducible exact et_nil) | (with_reducible exact eo_none) | (with_reducible exact ss_nil) | (with_reducible exact ev_dict0) | (with_reducible exact t_bl) | (with_reducible exact b_add) | (with_reducible exact b_mulb) | (with_reducible exact b_pow18) | (with_reducible exact b_sub) | (with_reducible exact f_int) | (with_reducible exact f_max) | (with_reducible exact f_min) | (with_reducible exact t_scr0) | (with_reducible exact t_scr1) | (with_reducible exact f_intb) | (with_reducible exact f_len_tup) | (with_reducible exact f_len_scr) | (with_reducible exact f_list_tup) | (with_reducible exact unlk_free) | (with_reducible exact not_tt) | (with_reducible exact not_ff) | (with_reducible exact not_k) | (with_reducible exact isa_int) | (with_reducible exact isa_bl) | (with_reducible exact isa_tup) | (with_reducible exact isa_obj) | (with_reducible exact get0) | (with_reducible exact get1) | (with_reducible exact get2) | (with_reducible exact par2) | (with_reducible exact par3) | (with_reducible exact bind_nm) | (with_reducible exact sn_rt) | (with_reducible exact k_tf) | (with_reducible exact k_ft)
  | ((with_reducible apply env_get); exact rfl) | ((with_reducible apply sto_get); exact rfl) | ((with_reducible apply atI_get'); exact rfl) | ((with_reducible apply ixN_get'); exact rfl) | ((with_reducible apply ar_get); exact rfl) | ((with_reducible apply gl_get); exact rfl) | ((with_reducible apply perm_get); exact rfl) | ((with_reducible apply bind_get); exact rfl) | ((with_reducible apply pure_t); (first | (with_reducible assumption) | (simp only [D.pure, D.pures, O.pure, Bool.and_self, Bool.and_true, Bool.true_and, List.set_cons_zero, List.set_cons_succ, Int.toNat_zero, Int.toNat_one]; done))) | ((with_reducible apply pure_o); (first | (with_reducible assumption) | (simp only [D.pure, D.pures, O.pure, Bool.and_self, Bool.and_true, Bool.true_and, List.set_cons_zero, List.set_cons_succ, Int.toNat_zero, Int.toNat_one]; done))) | ((with_reducible apply pures_t); (first | (with_reducible assumption) | (simp only [D.pure, D.pures, O.pure, Bool.and_self, Bool.and_true, Bool.true_and, List.set_cons_zero, List.set_cons_succ, Int.toNat_zero, Int.toNat_one]; done))) | ((with_reducible apply le_line); exact rfl) | ((with_reducible apply compact_self); (first | (with_reducible assumption) | (simp only [D.pure, D.pures, O.pure, Bool.and_self, Bool.and_true, Bool.true_and, List.set_cons_zero, List.set_cons_succ, Int.toNat_zero, Int.toNat_one]; done))) | ((with_reducible apply compact_app); (first | (with_reducible assumption) | (simp only [D.pure, D.pures, O.pure, Bool.and_self, Bool.and_true, Bool.true_and, List.set_cons_zero, List.set_cons_succ, Int.toNat_zero, Int.toNat_one]; done))) | ((with_reducible apply compact_new0); (first | (with_reducible assumption) | (simp only [D.pure, D.pures, O.pure, Bool.and_self, Bool.and_true, Bool.true_and, List.set_cons_zero, List.set_cons_succ, Int.toNat_zero, Int.toNat_one]; done)))
  | ((with_reducible apply lt_line); exact rfl)
  | ((with_reducible apply sto_eq); (simp only [List.set_cons_zero, List.set_cons_succ, List.cons_append, List.nil_append, Int.toNat_zero, Int.toNat_one]; done))
  | ((with_reducible apply sto_eq); (try simp only [List.set_cons_zero, List.set_cons_succ, List.cons_append, List.nil_append, Int.toNat_zero, Int.toNat_one]); exact rfl)
  | ((with_reducible apply env_eq); (try simp only [List.set_cons_zero, List.set_cons_succ]); exact rfl)
  | ((with_reducible apply b_mul); omega) | ((with_reducible apply b_fdiv) <;> omega) | ((with_reducible apply b_mod); omega)
  | ((with_reducible apply c_lt_t); omega) | ((with_reducible apply c_lt_f); omega) | ((with_reducible apply c_le_t); omega) | ((with_reducible apply c_le_f); omega) | ((with_reducible apply c_gt_t); omega) | ((with_reducible apply c_gt_f); omega) | ((with_reducible apply c_ge_t); omega) | ((with_reducible apply c_ge_f); omega) | ((with_reducible apply c_eq_t); omega) | ((with_reducible apply c_eq_f); omega) | ((with_reducible apply c_ne_t); omega) | ((with_reducible apply c_ne_f); omega) | ((with_reducible apply room_le); omega)
  | (with_reducible exact c_lt) | (with_reducible exact c_le) | (with_reducible exact c_gt) | (with_reducible exact c_ge) | (with_reducible exact c_eq) | (with_reducible exact c_ne)
  | (with_reducible apply f_len_lst) | (with_reducible apply f_tup_lst) | (with_reducible apply f_list_lst) | (with_reducible apply i_lst) | (with_reducible apply i_tup) | (with_reducible apply i_scr) | (with_reducible apply p_lst2)
  | ((with_reducible apply compact_head0) <;> (first | (with_reducible assumption) | (simp only [D.pure, D.pures, O.pure, Bool.and_self, Bool.and_true, Bool.true_and, List.set_cons_zero, List.set_cons_succ, Int.toNat_zero, Int.toNat_one]; done))) | ((with_reducible apply compact_head) <;> (first | (with_reducible assumption) | (simp only [D.pure, D.pures, O.pure, Bool.and_self, Bool.and_true, Bool.true_and, List.set_cons_zero, List.set_cons_succ, Int.toNat_zero, Int.toNat_one]; done)))
  | (with_reducible refine k_tt ?_) | (with_reducible refine k_ff ?_)
  | (with_reducible apply ev_slot) | (with_reducible apply ev_glob) | (with_reducible apply ev_bin) | (with_reducible apply ev_neg) | (with_reducible apply ev_not') | (with_reducible apply ev_cmp) | (with_reducible apply ev_chn) | (with_reducible apply ch_last) | (with_reducible apply ch_more') | (with_reducible apply ev_and') | (with_reducible apply ev_or') | (with_reducible apply ev_ite') | (with_reducible apply es_cons) | (with_reducible apply ev_tup) | (with_reducible apply ev_lst) | (with_reducible apply ev_idx) | (with_reducible apply eo_some) | (with_reducible apply ev_slc) | (with_reducible apply ev_fld) | (with_reducible apply ev_isa) | (with_reducible apply ev_call) | (with_reducible apply ev_callK) | (with_reducible apply ev_bif) | (with_reducible apply ev_meth) | (with_reducible apply ev_mk) | (with_reducible apply ev_comp) | (with_reducible apply et_one) | (with_reducible apply xs_set2) | (with_reducible apply xs_par) | (with_reducible apply xs_put) | (with_reducible apply xs_expr) | (with_reducible apply xs_ret) | (with_reducible apply xs_ite') | (with_reducible apply xs_unp) | (with_reducible apply ss_cons') | (with_reducible apply sn_nx) | (with_reducible apply fin') | (with_reducible apply fn_rt) | (with_reducible apply fn_nx) | (with_reducible apply m_append2)))
theorem x_told_ok (k : Nat) (S : Store) {ld a b : D} {cs : List Int} (hc : callN P (k + 5) "crossings" [ld, a, b] S = some (.val (tI cs) S)) : callN P (k + 6) "_law_told" [ld, a, b] S = some (.val (tI cs) S) := by
  have hr : exS (ixOf P (k + 5)) (.ret (.call "crossings" (.cons (.slot 2) (.cons (.slot 1) (.cons (.slot 0) .nil))) ["b", "a", "land"] [2, 1, 0])) [some ld, some a, some b, none] S = some (.rt (tI cs) S) :=
    xs_ret (ev_callK (es_cons (ev_slot rfl) (es_cons (ev_slot rfl) (es_cons (ev_slot rfl) es_nil))) rfl (call_get hc)) (compact_self _ (tI_pure cs))
  exact r__law_told (fin_rt' (ss_rt (xs_try_rt (ss_rt hr))) (compact_self _ (tI_pure cs)))
theorem x_told_due (k : Nat) (S : Store) {n : Nat} {rs : List (List Int)} {ws : List (Nat × List (List Int))} {a b due : D} {e : Ex} {i : Int} (hc : callN P (k + 5) "crossings" [landD n rs ws, a, b] S = some (.exc e S)) (hd : e = ⟨6, .int i⟩ ∧ due = .tup [.str (Str.ofString "place"), .int i] ∨ e = ⟨7, .int i⟩ ∧ due = .tup [.str (Str.ofString "state"), .int i] ∨ e = ⟨7, .tup [.int i]⟩ ∧ due = .tup [.str (Str.ofString "state"), .tup [.int i]]) :
    callN P (k + 6) "_law_told" [landD n rs ws, a, b] S = some (.val due S) := by
  have hr : exSs (ixOf P (k + 5)) [.ret (.call "crossings" (.cons (.slot 2) (.cons (.slot 1) (.cons (.slot 0) .nil))) ["b", "a", "land"] [2, 1, 0])] [some (landD n rs ws), some a, some b, none] S = some (.ex e [some (landD n rs ws), some a, some b, none] S) :=
    ss_ex (xs_ret_x (ev_callK (es_cons (ev_slot rfl) (es_cons (ev_slot rfl) (es_cons (ev_slot rfl) es_nil))) rfl (call_get hc)))
  rcases hd with ⟨rfl, rfl⟩ | ⟨rfl, rfl⟩ | ⟨rfl, rfl⟩
  · exact r__law_told (fin_rt' (ss_rt (xs_try_x hr (hn_tup List.mem_cons_self (by show 3 < 4; decide)))) (compact_self _ rfl))
  · exact r__law_told (fin_rt' (ss_rt (xs_try_x hr (hn_skip (by show ¬ (7 : Nat) ∈ [6]; decide) (hn_tup List.mem_cons_self (by show 3 < 4; decide))))) (compact_self _ rfl))
  · exact r__law_told (fin_rt' (ss_rt (xs_try_x hr (hn_skip (by show ¬ (7 : Nat) ∈ [6]; decide) (hn_tup List.mem_cons_self (by show 3 < 4; decide))))) (compact_self _ rfl))
theorem csOf_symm {rs : List (List Int)} {a0 b0 : Int} {ra rb : List Int} : csOf rs b0 a0 (chg 0 rb ra) = csOf rs a0 b0 (chg 0 ra rb) := by
  rw [chg_symm 0 rb ra]
  unfold csOf
  refine List.map_congr_left fun j _ => ?_
  unfold crv
  by_cases h : Conn (cutR rs j) a0 b0
  · rw [if_pos h, if_pos h.symm]
    by_cases h2 : ∀ x ∈ chg 0 ra rb, Conn (cutR rs j) a0 x
    · rw [if_pos h2, if_pos fun x hx => h.symm.trans (h2 x hx)]
    · rw [if_neg h2, if_neg fun c => h2 fun x hx => h.trans (c x hx)]
  · rw [if_neg h, if_neg fun c => h c.symm]
@[reducible] def lin : List IS := [
      .set 7 (.bif .tuple (.cons (.call "_law_crossings" (.cons (.slot 3) (.cons (.slot 5) (.cons (.slot 6) .nil))) [] []) .nil)),
      .ite (.or (.cmp .ne (.call "_law_told" (.cons (.slot 4) (.cons (.slot 5) (.cons (.slot 6) .nil))) [] []) (.slot 7)) (.cmp .ne (.call "_law_told" (.cons (.slot 4) (.cons (.slot 6) (.cons (.slot 5) .nil))) [] []) (.slot 7))) [
        .ret (.cst (.bl false))] []]
@[reducible] def landT (rs : List (List Int)) (ws : List (Nat × List (List Int))) : D := .tup [.tup (rs.map tI), .tup (ws.map drawD)]
theorem landT_pure (rs : List (List Int)) (ws : List (Nat × List (List Int))) : (landT rs ws).pure = true := by
  show (D.pures (rs.map tI) && (D.pures (ws.map drawD) && true)) = true
  rw [tI_pures, drawD_pures]; rfl
@[reducible] def stD (s : Int × List Int) : D := .tup [.int s.1, tI s.2]
theorem stD_pure (s : Int × List Int) : (stD s).pure = true := by
  show (true && (D.pures (s.2.map D.int) && true)) = true
  rw [pures_ints]; rfl
theorem stD_pures : ∀ l : List (Int × List Int), D.pures (l.map stD) = true
  | [] => rfl
  | s :: l => by
    show D.pures (stD s :: l.map stD) = true
    rw [D.pures, stD_pures l, stD_pure]; rfl
@[reducible] def lenv (ns : List Int) (e2 : Option D) (n : Nat) (rs : List (List Int)) (ws : List (Nat × List (List Int))) (s : Int × List Int) (e6 e7 e8 e9 e10 : Option D) : PL.Env := [some (.scr ns), some (.loc 0), e2, some (landT rs ws), some (landD n rs ws), some (stD s), e6, e7, e8, e9, e10]
def StOk (n : Nat) (ws : List (Nat × List (List Int))) (s : Int × List Int) : Prop := 0 ≤ s.1 ∧ s.1 < (n : Int) ∧ Row ws s.2
theorem in_for (ns : List Int) {e2 : Option D} {n : Nat} {rs : List (List Int)} {ws : List (Nat × List (List Int))} (h : LandOk n rs ws) {s : Int × List Int} (hs : StOk n ws s) {e8 e9 e10 : Option D} {p : O} : ∀ (l : List (Int × List Int)), (∀ t ∈ l, StOk n ws t) → ∀ e6 e7 : Option D,
    ∃ e6' e7', forI (forF (ixOf P 19) (.nm 6) lin) .free (l.map stD) (lenv ns e2 n rs ws s e6 e7 e8 e9 e10) [p] = some (.nx (lenv ns e2 n rs ws s e6' e7' e8 e9 e10) [p])
  | [], _, e6, e7 => ⟨e6, e7, by rw [List.map_nil]; unfold forI; exact if_pos trivial⟩
  | t :: l, ht, e6, e7 => by
    obtain ⟨a0, ra⟩ := s
    obtain ⟨b0, rb⟩ := t
    obtain ⟨h0, h1, ha⟩ := hs
    obtain ⟨g0, g1, hb⟩ := ht (b0, rb) List.mem_cons_self
    have hlen := h.len
    have hhi := h.hi
    have hwl := h.wlen
    dsimp only at h0 h1 ha g0 g1 hb
    have hc := x_law_crossings 16 [p] (n := n) (by omega) h.good.inR (by omega) (ws := ws) (by omega) h0 h1 (b0 := b0) ha.1 hb.1
    have c1 := x_told_ok 13 [p] (x_crossings 13 [p] (by omega) (by omega) hwl h0 h1 ha g0 g1 hb (x_cross 13 [p] (m := n) (lamps := .tup (ws.map webD)) (by omega) h.good.inR (by omega) h0 h1 (by rw [ha.1, hb.1]) (by rw [ha.1]; omega)))
    have c2 := x_told_ok 13 [p] (x_crossings 13 [p] (by omega) (by omega) hwl g0 g1 hb h0 h1 ha (x_cross 13 [p] (m := n) (lamps := .tup (ws.map webD)) (by omega) h.good.inR (by omega) g0 g1 (by rw [ha.1, hb.1]) (by rw [hb.1]; omega)))
    rw [csOf_symm] at c2
    generalize csOf rs a0 b0 (chg 0 ra rb) = cs at hc c1 c2
    have hset : exS (ixOf P 19) (.set 7 (.bif .tuple (.cons (.call "_law_crossings" (.cons (.slot 3) (.cons (.slot 5) (.cons (.slot 6) .nil))) [] []) .nil))) (lenv ns e2 n rs ws (a0, ra) (some (stD (b0, rb))) e7 e8 e9 e10) [p] = some (.nx (lenv ns e2 n rs ws (a0, ra) (some (stD (b0, rb))) (some (tI cs)) e8 e9 e10) [p]) :=
      xs_set (ev_bif (es_cons (ev_call (es_cons (ev_slot rfl) (es_cons (ev_slot rfl) (es_cons (ev_slot rfl) es_nil))) (call_get hc)) es_nil) (f_tup_lst List.getElem?_concat_length)) (compact_app _ _ (tI_pure cs))
    have hte : evE (ixOf P 19) (.or (.cmp .ne (.call "_law_told" (.cons (.slot 4) (.cons (.slot 5) (.cons (.slot 6) .nil))) [] []) (.slot 7)) (.cmp .ne (.call "_law_told" (.cons (.slot 4) (.cons (.slot 6) (.cons (.slot 5) .nil))) [] []) (.slot 7))) (lenv ns e2 n rs ws (a0, ra) (some (stD (b0, rb))) (some (tI cs)) e8 e9 e10) [p] = some (.val (.bl false) [p]) :=
      ev_or_f (ev_cmp (ev_call (es_cons (ev_slot rfl) (es_cons (ev_slot rfl) (es_cons (ev_slot rfl) es_nil))) (call_get c1)) (ev_slot rfl) c_ne_self) rfl (ev_cmp (ev_call (es_cons (ev_slot rfl) (es_cons (ev_slot rfl) (es_cons (ev_slot rfl) es_nil))) (call_get c2)) (ev_slot rfl) c_ne_self)
    obtain ⟨f6, f7, hf⟩ := in_for ns (e2 := e2) h (s := (a0, ra)) ⟨h0, h1, ha⟩ (e8 := e8) (e9 := e9) (e10 := e10) (p := p) l (fun u hu => ht u (List.mem_cons_of_mem _ hu)) (some (stD (b0, rb))) (some (tI cs))
    refine ⟨f6, f7, ?_⟩
    rw [List.map_cons]
    exact forI_skip (ff_bind (env' := lenv ns e2 n rs ws (a0, ra) (some (stD (b0, rb))) e7 e8 e9 e10) rfl (ss_nx hset (ss_nx (xs_ite_f hte rfl (compact_self _ rfl) ss_nil) ss_nil))) hf
@[reducible] def lturn : List IS := [
    .set 3 (.call "_law_land" (.cons (.slot 1) (.cons (.lst (.cons (.cst (.int 3)) (.cons (.cst (.int 4)) (.cons (.cst (.int 2)) (.cons (.cst (.int 5)) (.cons (.cst (.int 6)) (.cons (.cst (.int 1)) (.cons (.cst (.int 4)) (.cons (.cst (.int 3)) (.cons (.cst (.int 5)) (.cons (.cst (.int 10)) .nil))))))))))) (.cons (.lst (.cons (.cst (.int 1)) (.cons (.cst (.int 2)) (.cons (.cst (.int 3)) .nil)))) .nil))) [] []),
    .par [4, 5] (.cons (.call "_law_made" (.cons (.slot 3) .nil) [] []) (.cons (.call "_law_state" (.cons (.slot 1) (.cons (.idx (.slot 3) (.cst (.int 1))) .nil)) [] []) .nil)),
    .for_ (.nm 6) (.val (.lst (.cons (.call "_law_second" (.cons (.slot 1) (.cons (.idx (.slot 3) (.cst (.int 1))) (.cons (.slot 5) .nil))) [] []) (.cons (.tup (.cons (.call "_law_take" (.cons (.slot 1) (.cons (.bif .len (.cons (.idx (.slot 3) (.cst (.int 1))) .nil)) .nil)) [] []) (.cons (.idx (.slot 5) (.cst (.int 1))) .nil))) (.cons (.slot 5) .nil))))) lin,
    .unp (.tup [.tup [.nm 8, .nm 7], .tup [.nm 9, .nm 10]]) (.tup (.cons (.call "_law_spoilt" (.cons (.slot 1) (.cons (.idx (.slot 3) (.cst (.int 1))) (.cons (.slot 5) .nil))) [] []) (.cons (.call "_law_spoilt" (.cons (.slot 1) (.cons (.idx (.slot 3) (.cst (.int 1))) (.cons (.slot 5) .nil))) [] []) .nil))),
    .ite (.or (.cmp .ne (.call "_law_told" (.cons (.slot 4) (.cons (.slot 8) (.cons (.slot 9) .nil))) [] []) (.slot 7)) (.cmp .ne (.call "_law_told" (.cons (.slot 4) (.cons (.slot 5) (.cons (.slot 9) .nil))) [] []) (.slot 10))) [
      .ret (.cst (.bl false))] []]
theorem law_turn (ns : List Int) {d : D} {e2 e3 e4 e5 e6 e7 e8 e9 e10 : Option D} {a b : Int} (hp : Pok a b) :
    ∃ f3 f4 f5 f6 f7 f8 f9 f10 a' b', Pok a' b' ∧ forF (ixOf P 19) (.nm 2) lturn d [some (.scr ns), some (.loc 0), e2, e3, e4, e5, e6, e7, e8, e9, e10] [pool a b] = some (.nx [some (.scr ns), some (.loc 0), some d, f3, f4, f5, f6, f7, f8, f9, f10] [pool a' b']) := by
  obtain ⟨n, rs, ws, a1, b1, hp1, hland, hc2⟩ := x_law_land 14 [O.lst ([3, 4, 2, 5, 6, 1, 4, 3, 5, 10].map D.int), O.lst ([1, 2, 3].map D.int)] (j := 0) (i := 1) (ms := [3, 4, 2, 5, 6, 1, 4, 3, 5, 10]) (ls := [1, 2, 3]) hp rfl rfl (by decide) (by decide) (by decide) (by decide) (by decide) (by decide)
  have hlen := hland.len
  have hlo := hland.lo
  have hhi := hland.hi
  have hwl := hland.wlen
  have hwok : ∀ w ∈ ws, 1 ≤ w.1 ∧ w.1 < 1000 := fun w hw => ⟨(hland.ok w hw).lo, by have := (hland.ok w hw).hi; omega⟩
  have hc3 := x_law_made 14 [pool a1 b1] hlo hhi hland.good (by omega) hland.whole hwl hland.ok
  obtain ⟨a0, ra, a2, b2, hp2, h0, h1, ha, hc4⟩ := x_law_state 16 [] hp1 hwok (by omega) (by omega)
  obtain ⟨b0, rb, a3, b3, hp3, g0, g1, hb, hc5⟩ := x_law_second 16 [] hp2 hwok (by omega) (by omega) h0 h1 ha
  obtain ⟨x, a4, b4, hp4, x0, x1, hc6⟩ := x_law_take 18 [] hp3 (top := ws.length) (by omega) (by omega)
  obtain ⟨p1, r1, due1, a5, b5, hp5, hd1, hc7⟩ := x_law_spoilt 16 [] (rs := rs) hp4 hwl hwok hlo (by omega) h0 (by omega) ha
  obtain ⟨p2, r2, due2, a6, b6, hp6, hd2, hc8⟩ := x_law_spoilt 16 [] (rs := rs) hp5 hwl hwok hlo (by omega) h0 (by omega) ha
  have s1 : exS (ixOf P 19) (.set 3 (.call "_law_land" (.cons (.slot 1) (.cons (.lst (.cons (.cst (.int 3)) (.cons (.cst (.int 4)) (.cons (.cst (.int 2)) (.cons (.cst (.int 5)) (.cons (.cst (.int 6)) (.cons (.cst (.int 1)) (.cons (.cst (.int 4)) (.cons (.cst (.int 3)) (.cons (.cst (.int 5)) (.cons (.cst (.int 10)) .nil))))))))))) (.cons (.lst (.cons (.cst (.int 1)) (.cons (.cst (.int 2)) (.cons (.cst (.int 3)) .nil)))) .nil))) [] [])) [some (.scr ns), some (.loc 0), some d, e3, e4, e5, e6, e7, e8, e9, e10] [pool a b] = some (.nx [some (.scr ns), some (.loc 0), some d, some (landT rs ws), e4, e5, e6, e7, e8, e9, e10] [pool a1 b1]) :=
    xs_set (ev_call (es_cons (ev_slot rfl) (es_cons (ev_lst (es_cons ev_cst (es_cons ev_cst (es_cons ev_cst (es_cons ev_cst (es_cons ev_cst (es_cons ev_cst (es_cons ev_cst (es_cons ev_cst (es_cons ev_cst (es_cons ev_cst es_nil)))))))))) (le_line rfl)) (es_cons (ev_lst (es_cons ev_cst (es_cons ev_cst (es_cons ev_cst es_nil))) (le_line rfl)) es_nil))) (call_get hc2)) (compact_head [] _ rfl (landT_pure _ _))
  have s2 : exS (ixOf P 19) (.par [4, 5] (.cons (.call "_law_made" (.cons (.slot 3) .nil) [] []) (.cons (.call "_law_state" (.cons (.slot 1) (.cons (.idx (.slot 3) (.cst (.int 1))) .nil)) [] []) .nil))) [some (.scr ns), some (.loc 0), some d, some (landT rs ws), e4, e5, e6, e7, e8, e9, e10] [pool a1 b1] = some (.nx (lenv ns (some d) n rs ws (a0, ra) e6 e7 e8 e9 e10) [pool a2 b2]) :=
    xs_par (es_cons (ev_call (es_cons (ev_slot rfl) es_nil) (call_get hc3)) (es_cons (ev_call (es_cons (ev_slot rfl) (es_cons (ev_idx (ev_slot rfl) ev_cst (i_tup rfl)) es_nil)) (call_get hc4)) es_nil)) par2
  have hl1 : ∀ (e : PL.Env) (S : Store), e[3]? = some (some (landT rs ws)) → evE (ixOf P 19) (.bif .len (.cons (.idx (.slot 3) (.cst (.int 1))) .nil)) e S = some (.val (.int ws.length) S) := fun e S he => by
    have := ev_bif (ix := ixOf P 19) (f := .len) (env := e) (S := S) (es := .cons (.idx (.slot 3) (.cst (.int 1))) .nil) (es_cons (ev_idx (ev_slot he) ev_cst (i_tup rfl)) es_nil) (f_len_tup (l := ws.map drawD))
    rwa [List.length_map] at this
  have hlst : evE (ixOf P 19) (.lst (.cons (.call "_law_second" (.cons (.slot 1) (.cons (.idx (.slot 3) (.cst (.int 1))) (.cons (.slot 5) .nil))) [] []) (.cons (.tup (.cons (.call "_law_take" (.cons (.slot 1) (.cons (.bif .len (.cons (.idx (.slot 3) (.cst (.int 1))) .nil)) .nil)) [] []) (.cons (.idx (.slot 5) (.cst (.int 1))) .nil))) (.cons (.slot 5) .nil)))) (lenv ns (some d) n rs ws (a0, ra) e6 e7 e8 e9 e10) [pool a2 b2] = some (.val (.loc 1) [pool a4 b4, O.lst ([(b0, rb), (x, ra), (a0, ra)].map stD)]) :=
    ev_lst (S1 := [pool a4 b4]) (es_cons (ev_call (es_cons (ev_slot rfl) (es_cons (ev_idx (ev_slot rfl) ev_cst (i_tup rfl)) (es_cons (ev_slot rfl) es_nil))) (call_get hc5)) (es_cons (ev_tup (es_cons (ev_call (es_cons (ev_slot rfl) (es_cons (hl1 _ _ rfl) es_nil)) (call_get hc6)) (es_cons (ev_idx (ev_slot rfl) ev_cst (i_tup rfl)) es_nil)) (le_line rfl)) (es_cons (ev_slot rfl) es_nil))) (le_line rfl)
  have hit := it_new hlst (compact_headN (o := pool a2 b2) (o' := pool a4 b4) (p := O.lst ([(b0, rb), (x, ra), (a0, ra)].map stD)) [] rfl (stD_pures _)) (l := [(b0, rb), (x, ra), (a0, ra)].map stD) rfl (Nat.le_refl _) (stD_pures _) (kept_head (o := pool a2 b2) (o' := pool a4 b4) [] [O.lst ([(b0, rb), (x, ra), (a0, ra)].map stD)] rfl)
  obtain ⟨f6, f7, hfor⟩ := in_for ns (e2 := some d) hland (s := (a0, ra)) ⟨h0, by omega, ha⟩ (e8 := e8) (e9 := e9) (e10 := e10) (p := pool a4 b4) [(b0, rb), (x, ra), (a0, ra)] (by
    intro t ht
    simp only [List.mem_cons, List.not_mem_nil, or_false] at ht
    rcases ht with rfl | rfl | rfl
    · exact ⟨g0, by omega, hb⟩
    · exact ⟨x0, by omega, ha⟩
    · exact ⟨h0, by omega, ha⟩) e6 e7
  have s3 : exS (ixOf P 19) (.for_ (.nm 6) (.val (.lst (.cons (.call "_law_second" (.cons (.slot 1) (.cons (.idx (.slot 3) (.cst (.int 1))) (.cons (.slot 5) .nil))) [] []) (.cons (.tup (.cons (.call "_law_take" (.cons (.slot 1) (.cons (.bif .len (.cons (.idx (.slot 3) (.cst (.int 1))) .nil)) .nil)) [] []) (.cons (.idx (.slot 5) (.cst (.int 1))) .nil))) (.cons (.slot 5) .nil))))) lin) (lenv ns (some d) n rs ws (a0, ra) e6 e7 e8 e9 e10) [pool a2 b2] = some (.nx (lenv ns (some d) n rs ws (a0, ra) f6 f7 e8 e9 e10) [pool a4 b4]) :=
    xs_for hit (for_free hfor)
  have hdp : (D.tup [.tup [.tup [.int p1, tI r1], due1], .tup [.tup [.int p2, tI r2], due2]]).pure = true := by
    show (((true && (D.pures (r1.map D.int) && true)) && (due1.pure && true)) && (((true && (D.pures (r2.map D.int) && true)) && (due2.pure && true)) && true)) = true
    rw [pures_ints, pures_ints, hd1.pure, hd2.pure]; rfl
  have s4 : exS (ixOf P 19) (.unp (.tup [.tup [.nm 8, .nm 7], .tup [.nm 9, .nm 10]]) (.tup (.cons (.call "_law_spoilt" (.cons (.slot 1) (.cons (.idx (.slot 3) (.cst (.int 1))) (.cons (.slot 5) .nil))) [] []) (.cons (.call "_law_spoilt" (.cons (.slot 1) (.cons (.idx (.slot 3) (.cst (.int 1))) (.cons (.slot 5) .nil))) [] []) .nil)))) (lenv ns (some d) n rs ws (a0, ra) f6 f7 e8 e9 e10) [pool a4 b4] = some (.nx (lenv ns (some d) n rs ws (a0, ra) f6 (some due1) (some (.tup [.int p1, tI r1])) (some (.tup [.int p2, tI r2])) (some due2)) [pool a6 b6]) :=
    xs_unp (ev_tup (es_cons (ev_call (es_cons (ev_slot rfl) (es_cons (ev_idx (ev_slot rfl) ev_cst (i_tup rfl)) (es_cons (ev_slot rfl) es_nil))) (call_get hc7)) (es_cons (ev_call (es_cons (ev_slot rfl) (es_cons (ev_idx (ev_slot rfl) ev_cst (i_tup rfl)) (es_cons (ev_slot rfl) es_nil))) (call_get hc8)) es_nil)) (le_line rfl)) (compact_head0 [] rfl hdp) rfl
  have n1 := hd1.ne [pool a6 b6]
  have n2 := hd2.ne [pool a6 b6]
  obtain ⟨x1, i1, hb1, ed1⟩ := hd1
  obtain ⟨x2, i2, hb2, ed2⟩ := hd2
  have c1 := x_told_due 13 [pool a6 b6] (x_crossings_x1 13 [pool a6 b6] (by omega) (b := .tup [.int p2, tI r2]) hb1) ed1
  have c2 := x_told_due 13 [pool a6 b6] (x_crossings_x2 13 [pool a6 b6] (by omega) hwl h0 (by omega) ha hb2) ed2
  have hte : evE (ixOf P 19) (.or (.cmp .ne (.call "_law_told" (.cons (.slot 4) (.cons (.slot 8) (.cons (.slot 9) .nil))) [] []) (.slot 7)) (.cmp .ne (.call "_law_told" (.cons (.slot 4) (.cons (.slot 5) (.cons (.slot 9) .nil))) [] []) (.slot 10))) (lenv ns (some d) n rs ws (a0, ra) f6 (some due1) (some (.tup [.int p1, tI r1])) (some (.tup [.int p2, tI r2])) (some due2)) [pool a6 b6] = some (.val (.bl false) [pool a6 b6]) :=
    ev_or_f (ev_cmp (ev_call (es_cons (ev_slot rfl) (es_cons (ev_slot rfl) (es_cons (ev_slot rfl) es_nil))) (call_get c1)) (ev_slot rfl) n1) rfl (ev_cmp (ev_call (es_cons (ev_slot rfl) (es_cons (ev_slot rfl) (es_cons (ev_slot rfl) es_nil))) (call_get c2)) (ev_slot rfl) n2)
  exact ⟨_, _, _, _, _, _, _, _, a6, b6, hp6, ff_bind (env' := [some (.scr ns), some (.loc 0), some d, e3, e4, e5, e6, e7, e8, e9, e10]) rfl (ss_nx s1 (ss_nx s2 (ss_nx s3 (ss_nx s4 (ss_nx (xs_ite_f hte rfl (compact_self _ rfl) ss_nil) ss_nil)))))⟩
theorem law_for (ns : List Int) : ∀ (ds : List D) (e2 e3 e4 e5 e6 e7 e8 e9 e10 : Option D) (a b : Int), Pok a b →
    ∃ f2 f3 f4 f5 f6 f7 f8 f9 f10 a' b', forI (forF (ixOf P 19) (.nm 2) lturn) .free ds [some (.scr ns), some (.loc 0), e2, e3, e4, e5, e6, e7, e8, e9, e10] [pool a b] = some (.nx [some (.scr ns), some (.loc 0), f2, f3, f4, f5, f6, f7, f8, f9, f10] [pool a' b'])
  | [], e2, e3, e4, e5, e6, e7, e8, e9, e10, a, b, _ => ⟨e2, e3, e4, e5, e6, e7, e8, e9, e10, a, b, by unfold forI; exact if_pos trivial⟩
  | d :: ds, e2, e3, e4, e5, e6, e7, e8, e9, e10, a, b, hp => by
    obtain ⟨f3, f4, f5, f6, f7, f8, f9, f10, a1, b1, hp1, ht⟩ := law_turn ns (d := d) (e2 := e2) (e3 := e3) (e4 := e4) (e5 := e5) (e6 := e6) (e7 := e7) (e8 := e8) (e9 := e9) (e10 := e10) hp
    obtain ⟨g2, g3, g4, g5, g6, g7, g8, g9, g10, a2, b2, hf⟩ := law_for ns ds (some d) f3 f4 f5 f6 f7 f8 f9 f10 a1 b1 hp1
    exact ⟨g2, g3, g4, g5, g6, g7, g8, g9, g10, a2, b2, forI_skip ht hf⟩
theorem law_run (ns : List Int) (hl : ns.length ≤ 63) (hb : ∀ z ∈ ns, PySem.Builtin.Int.intBits z ≤ 1048576) : ∃ S, PL.callN K13.P 20 "law" [.scr ns] [] = some (.val (.bl true) S) := by
  obtain ⟨a, b, hp, hc1⟩ := x_law_pool 18 [] ns
  obtain ⟨f2, f3, f4, f5, f6, f7, f8, f9, f10, a1, b1, hfor⟩ := law_for ns (rangeD 0 3) none none none none none none none none none a b hp
  have e1 : exS (ixOf P 19) (.set 1 (.call "_law_pool" (.cons (.slot 0) (.cons (.cst (.int 0)) .nil)) [] [])) [some (.scr ns), none, none, none, none, none, none, none, none, none, none] [] = some (.nx [some (.scr ns), some (.loc 0), none, none, none, none, none, none, none, none, none] [pool a b]) :=
    xs_set (ev_call (es_cons (ev_slot rfl) (es_cons ev_cst es_nil)) (call_get hc1)) (compact_new0 (o := pool a b) [] rfl)
  have e2 : exS (ixOf P 19) (.for_ (.nm 2) (.range1 (.cst (.int 3))) lturn) [some (.scr ns), some (.loc 0), none, none, none, none, none, none, none, none, none] [pool a b] = some (.nx [some (.scr ns), some (.loc 0), f2, f3, f4, f5, f6, f7, f8, f9, f10] [pool a1 b1]) :=
    xs_for (it_range1' ev_cst (by decide) (compact_self _ rfl)) (for_free hfor)
  have e3 : exS (ixOf P 19) (.ret (.cst (.bl true))) [some (.scr ns), some (.loc 0), f2, f3, f4, f5, f6, f7, f8, f9, f10] [pool a1 b1] = some (.rt (.bl true) [pool a1 b1]) := xs_ret ev_cst (compact_self _ rfl)
  exact ⟨_, r_law (fin_rt' (ss_nx e1 (ss_nx e2 (ss_rt e3))) (compact_app [] _ rfl))⟩
end K13
open PySem PySem.W PyProof.Rows
set_option maxHeartbeats 0 in
theorem PySem.Challenge.cw_lampwalks_k13_roads_crossed_by_own_parti_holds : PySem.Challenge.rw_lampwalks_k13_roads_crossed_by_own_parti.Holds := by
  w_on; o_law; k_head; (case hw => w_witness2)
  k_fill
  refine L2.walk_ofB (l := PySem.Challenge.rw_lampwalks_k13_roads_crossed_by_own_parti) (n := 63) (k := 20) (x := "script") (CX := fun w => L2.CX PySem.Challenge.rw_lampwalks_k13_roads_crossed_by_own_parti.prog w) (sp := fun w => PL.spI (PL.mkG K13.recs K13.errs _) K13.P 20 "law") rfl (by decide) rfl ⟨rfl, by decide, by decide⟩ (fun w h Y => PySem.W.kIn_of Y) ?F
    (fun w H a ns hl hb hO hS => PL.law_sp hO hS (K13.law_run ns hl hb)) (fun w H s e s2 h => by
      obtain ⟨_, _, _, _, _, _, _, _, _, _, _, _, z⟩ := h
      exact z)
  case F =>
    intro w mg fa h KX G hmg
    open PL in
    refine' K13.all_mk KX G hmg (defAt_mk ?h1 ?h2 ?h3 ?h4) (defAt_mk ?h5 ?h6 ?h7 ?h8) (defAt_mk ?h9 ?h10 ?h11 ?h12) (defAt_mk ?h13 ?h14 ?h15 ?h16) (defAt_mk ?h17 ?h18 ?h19 ?h20) (defAt_mk ?h21 ?h22 ?h23 ?h24) (defAt_mk ?h25 ?h26 ?h27 ?h28) (defAt_mk ?h29 ?h30 ?h31 ?h32) (defAt_mk ?h33 ?h34 ?h35 ?h36) (defAt_mk ?h37 ?h38 ?h39 ?h40) (defAt_mk ?h41 ?h42 ?h43 ?h44) (defAt_mk ?h45 ?h46 ?h47 ?h48) (defAt_mk ?h49 ?h50 ?h51 ?h52) (defAt_mk ?h53 ?h54 ?h55 ?h56) (defAt_mk ?h57 ?h58 ?h59 ?h60) (defAt_mk ?h61 ?h62 ?h63 ?h64) (defAt_mk ?h65 ?h66 ?h67 ?h68) (defAt_mk ?h69 ?h70 ?h71 ?h72) (defAt_mk ?h73 ?h74 ?h75 ?h76) (defAt_mk ?h77 ?h78 ?h79 ?h80) (defAt_mk ?h81 ?h82 ?h83 ?h84) (defAt_mk ?h85 ?h86 ?h87 ?h88) (defAt_mk ?h89 ?h90 ?h91 ?h92) (defAt_mk ?h93 ?h94 ?h95 ?h96) (defAt_mk ?h97 ?h98 ?h99 ?h100) (defAt_mk ?h101 ?h102 ?h103 ?h104) (defAt_mk ?h105 ?h106 ?h107 ?h108) (defAt_mk ?h109 ?h110 ?h111 ?h112) (defAt_mk ?h113 ?h114 ?h115 ?h116) (defAt_mk ?h117 ?h118 ?h119 ?h120) (defAt_mk ?h121 ?h122 ?h123 ?h124) (defAt_mk ?h125 ?h126 ?h127 ?h128) (defAt_mk ?h129 ?h130 ?h131 ?h132) (recAt_mk ?h133 ?h134 ?h135 ?h136 ?h137 (K13.na3 ?h138 ?h139 ?h140) (by decide +kernel) (by decide) ?h141 ?h142 ?h143 ?h144 ?h145 ?h146 ?h147 ?h148 (fnAt_mk ?h149 ?h150 ?h151) ?h152 ?h153 ?h154 ?h155 ?h156 ?h157 ?h158 ?h159 ?h160) (recAt_mk ?h161 ?h162 ?h163 ?h164 ?h165 (K13.na2 ?h166 ?h167) (by decide +kernel) (by decide) ?h168 ?h169 ?h170 ?h171 ?h172 ?h173 ?h174 ?h175 (fnAt_mk ?h176 ?h177 ?h178) ?h179 ?h180 ?h181 ?h182 ?h183 ?h184 ?h185 ?h186 ?h187) (apart_mk ?h188 ?h189 ?h190) (apart_mk ?h191 ?h192 ?h193) (noneAt_mk ?h194) (noneAt_mk ?h195) (noneAt_mk ?h196) (noneAt_mk ?h197) (noneAt_mk ?h198) (noneAt_mk ?h199) (noneAt_mk ?h200) (noneAt_mk ?h201) (noneAt_mk ?h202) (noneAt_mk ?h203) (noneAt_mk ?h204) (noneAt_mk ?h205) (noneAt_mk ?h206) (noneAt_mk ?h207) (noneAt_mk ?h208) (noneAt_mk ?h209) (noneAt_mk ?h210) (intAt_mk ?h211 ?h212) (intAt_mk ?h213 ?h214) (intAt_mk ?h215 ?h216) (errAt_mk ?h217 ?h218 (initTxt_mk ?h219 ?h220 ?h221 ?h222 ?h223 ?h224 ?h225 ?h226 ?h227 ?h228 ?h229) ?h230 ?h231 ?h232 ?h233 ?h234 ?h235 ?h236 ?h237 ?h238 ?h239 ?h240 ?h241 ?h242 ?h243) (errAt_mk ?h244 ?h245 (initTxt_mk ?h246 ?h247 ?h248 ?h249 ?h250 ?h251 ?h252 ?h253 ?h254 ?h255 ?h256) ?h257 ?h258 ?h259 ?h260 ?h261 ?h262 ?h263 ?h264 ?h265 ?h266 ?h267 ?h268 ?h269 ?h270) (errAt_mk ?h271 ?h272 (initTxt_mk ?h273 ?h274 ?h275 ?h276 ?h277 ?h278 ?h279 ?h280 ?h281 ?h282 ?h283) ?h284 ?h285 ?h286 ?h287 ?h288 ?h289 ?h290 ?h291 ?h292 ?h293 ?h294 ?h295 ?h296 ?h297) (errAt_mk ?h298 ?h299 (initTxt_mk ?h300 ?h301 ?h302 ?h303 ?h304 ?h305 ?h306 ?h307 ?h308 ?h309 ?h310) ?h311 ?h312 ?h313 ?h314 ?h315 ?h316 ?h317 ?h318 ?h319 ?h320 ?h321 ?h322 ?h323 ?h324) (errAt_mk ?h325 ?h326 (initTxt_mk ?h327 ?h328 ?h329 ?h330 ?h331 ?h332 ?h333 ?h334 ?h335 ?h336 ?h337) ?h338 ?h339 ?h340 ?h341 ?h342 ?h343 ?h344 ?h345 ?h346 ?h347 ?h348 ?h349 ?h350 ?h351) (errAt_mk ?h352 ?h353 (initTxt_mk ?h354 ?h355 ?h356 ?h357 ?h358 ?h359 ?h360 ?h361 ?h362 ?h363 ?h364) ?h365 ?h366 ?h367 ?h368 ?h369 ?h370 ?h371 ?h372 ?h373 ?h374 ?h375 ?h376 ?h377 ?h378) (errAt_mk ?h379 ?h380 (initTxt_mk ?h381 ?h382 ?h383 ?h384 ?h385 ?h386 ?h387 ?h388 ?h389 ?h390 ?h391) ?h392 ?h393 ?h394 ?h395 ?h396 ?h397 ?h398 ?h399 ?h400 ?h401 ?h402 ?h403 ?h404 ?h405) (errAt_mk ?h406 ?h407 (initTxt_mk ?h408 ?h409 ?h410 ?h411 ?h412 ?h413 ?h414 ?h415 ?h416 ?h417 ?h418) ?h419 ?h420 ?h421 ?h422 ?h423 ?h424 ?h425 ?h426 ?h427 ?h428 ?h429 ?h430 ?h431 ?h432) (clsAt_mk ?h433 ?h434 ?h435 ?h436) (subAt_mk ?h437 ?h438 ?h439) (subAt_mk ?h440 ?h441 ?h442) (subAt_mk ?h443 ?h444 ?h445) (subAt_mk ?h446 ?h447 ?h448) (subAt_mk ?h449 ?h450 ?h451) (subAt_mk ?h452 ?h453 ?h454) (subAt_mk ?h455 ?h456 ?h457) (subAt_mk ?h458 ?h459 ?h460) (clsAt_mk ?h461 ?h462 ?h463 ?h464) (subAt_mk ?h465 ?h466 ?h467) (subAt_mk ?h468 ?h469 ?h470) (subAt_mk ?h471 ?h472 ?h473) (subAt_mk ?h474 ?h475 ?h476) (subAt_mk ?h477 ?h478 ?h479) (subAt_mk ?h480 ?h481 ?h482) (subAt_mk ?h483 ?h484 ?h485) (subAt_mk ?h486 ?h487 ?h488) (clsAt_mk ?h489 ?h490 ?h491 ?h492) (subAt_mk ?h493 ?h494 ?h495) (subAt_mk ?h496 ?h497 ?h498) (subAt_mk ?h499 ?h500 ?h501) (subAt_mk ?h502 ?h503 ?h504) (subAt_mk ?h505 ?h506 ?h507) (subAt_mk ?h508 ?h509 ?h510) (subAt_mk ?h511 ?h512 ?h513) (subAt_mk ?h514 ?h515 ?h516) (noneAt_mk ?h517)
    (case h1 => k_is); (case h2 => k_is); (case h3 => k_is); (case h4 => k_is); (case h5 => k_is); (case h6 => k_is); (case h7 => k_is); (case h8 => k_is); (case h9 => k_is); (case h10 => k_is); (case h11 => k_is); (case h12 => k_is); (case h13 => k_is); (case h14 => k_is); (case h15 => k_is); (case h16 => k_is); (case h17 => k_is); (case h18 => k_is); (case h19 => k_is); (case h20 => k_is); (case h21 => k_is); (case h22 => k_is); (case h23 => k_is); (case h24 => k_is); (case h25 => k_is); (case h26 => k_is); (case h27 => k_is); (case h28 => k_is); (case h29 => k_is); (case h30 => k_is); (case h31 => k_is); (case h32 => k_is); (case h33 => k_is); (case h34 => k_is); (case h35 => k_is); (case h36 => k_is); (case h37 => k_is); (case h38 => k_is); (case h39 => k_is); (case h40 => k_is); (case h41 => k_is); (case h42 => k_is); (case h43 => k_is); (case h44 => k_is); (case h45 => k_is); (case h46 => k_is); (case h47 => k_is); (case h48 => k_is); (case h49 => k_is); (case h50 => k_is); (case h51 => k_is); (case h52 => k_is); (case h53 => k_is); (case h54 => k_is); (case h55 => k_is); (case h56 => k_is); (case h57 => k_is); (case h58 => k_is); (case h59 => k_is); (case h60 => k_is); (case h61 => k_is); (case h62 => k_is); (case h63 => k_is); (case h64 => k_is); (case h65 => k_is); (case h66 => k_is); (case h67 => k_is); (case h68 => k_is); (case h69 => k_is); (case h70 => k_is); (case h71 => k_is); (case h72 => k_is); (case h73 => k_is); (case h74 => k_is); (case h75 => k_is); (case h76 => k_is); (case h77 => k_is); (case h78 => k_is); (case h79 => k_is); (case h80 => k_is); (case h81 => k_is); (case h82 => k_is); (case h83 => k_is); (case h84 => k_is); (case h85 => k_is); (case h86 => k_is); (case h87 => k_is); (case h88 => k_is); (case h89 => k_is); (case h90 => k_is); (case h91 => k_is); (case h92 => k_is); (case h93 => k_is); (case h94 => k_is); (case h95 => k_is); (case h96 => k_is); (case h97 => k_is); (case h98 => k_is); (case h99 => k_is); (case h100 => k_is); (case h101 => k_is); (case h102 => k_is); (case h103 => k_is); (case h104 => k_is); (case h105 => k_is); (case h106 => k_is); (case h107 => k_is); (case h108 => k_is); (case h109 => k_is); (case h110 => k_is); (case h111 => k_is); (case h112 => k_is); (case h113 => k_is); (case h114 => k_is); (case h115 => k_is); (case h116 => k_is); (case h117 => k_is); (case h118 => k_is); (case h119 => k_is); (case h120 => k_is); (case h121 => k_is); (case h122 => k_is); (case h123 => k_is); (case h124 => k_is); (case h125 => k_is); (case h126 => k_is); (case h127 => k_is); (case h128 => k_is); (case h129 => k_is); (case h130 => k_is); (case h131 => k_is); (case h132 => k_is); (case h133 => k_is); (case h134 => k_is); (case h135 => k_is); (case h136 => k_is); (case h137 => k_is); (case h138 => k_is); (case h139 => k_is); (case h140 => k_is); (case h141 => k_is); (case h142 => k_is); (case h143 => k_is); (case h144 => k_is); (case h145 => k_is); (case h146 => k_is); (case h147 => k_is); (case h148 => k_is); (case h149 => k_is); (case h150 => k_is); (case h151 => k_is); (case h152 => kit_is); (case h153 => kit_is); (case h154 => kit_is); (case h155 => kit_is); (case h156 => kit_is); (case h157 => kit_is); (case h158 => kit_is); (case h159 => kit_is); (case h160 => kit_is); (case h161 => k_is); (case h162 => k_is); (case h163 => k_is); (case h164 => k_is); (case h165 => k_is); (case h166 => k_is); (case h167 => k_is); (case h168 => k_is); (case h169 => k_is); (case h170 => k_is); (case h171 => k_is); (case h172 => k_is); (case h173 => k_is); (case h174 => k_is); (case h175 => k_is); (case h176 => k_is); (case h177 => k_is); (case h178 => k_is); (case h179 => kit_is); (case h180 => kit_is); (case h181 => kit_is); (case h182 => kit_is); (case h183 => kit_is); (case h184 => kit_is); (case h185 => kit_is); (case h186 => kit_is); (case h187 => kit_is); (case h188 => k_is); (case h189 => k_is); (case h190 => kit_is); (case h191 => k_is); (case h192 => k_is); (case h193 => kit_is); (case h194 => k_is); (case h195 => k_is); (case h196 => k_is); (case h197 => k_is); (case h198 => k_is); (case h199 => k_is); (case h200 => k_is); (case h201 => k_is); (case h202 => k_is); (case h203 => k_is); (case h204 => k_is); (case h205 => k_is); (case h206 => k_is); (case h207 => k_is); (case h208 => k_is); (case h209 => k_is); (case h210 => k_is); (case h211 => k_is); (case h212 => decide); (case h213 => k_is); (case h214 => decide); (case h215 => k_is); (case h216 => decide); (case h217 => k_is); (case h218 => k_is); (case h219 => k_is); (case h220 => k_is); (case h221 => k_is); (case h222 => rfl); (case h223 => first | rfl | decide +kernel); (case h224 => k_is); (case h225 => k_is); (case h226 => rfl); (case h227 => k_is); (case h228 => k_is); (case h229 => decide +kernel); (case h230 => k_is); (case h231 => decide +kernel); (case h232 => k_is); (case h233 => k_is); (case h234 => k_is); (case h235 => k_is); (case h236 => k_is); (case h237 => k_is); (case h238 => k_is); (case h239 => k_is); (case h240 => k_is); (case h241 => k_is); (case h242 => ks_is); (case h243 => k_is); (case h244 => k_is); (case h245 => k_is); (case h246 => k_is); (case h247 => k_is); (case h248 => k_is); (case h249 => rfl); (case h250 => first | rfl | decide +kernel); (case h251 => k_is); (case h252 => k_is); (case h253 => rfl); (case h254 => k_is); (case h255 => k_is); (case h256 => decide +kernel); (case h257 => k_is); (case h258 => decide +kernel); (case h259 => k_is); (case h260 => k_is); (case h261 => k_is); (case h262 => k_is); (case h263 => k_is); (case h264 => k_is); (case h265 => k_is); (case h266 => k_is); (case h267 => k_is); (case h268 => k_is); (case h269 => ks_is); (case h270 => k_is); (case h271 => k_is); (case h272 => k_is); (case h273 => k_is); (case h274 => k_is); (case h275 => k_is); (case h276 => rfl); (case h277 => first | rfl | decide +kernel); (case h278 => k_is); (case h279 => k_is); (case h280 => rfl); (case h281 => k_is); (case h282 => k_is); (case h283 => decide +kernel); (case h284 => k_is); (case h285 => decide +kernel); (case h286 => k_is); (case h287 => k_is); (case h288 => k_is); (case h289 => k_is); (case h290 => k_is); (case h291 => k_is); (case h292 => k_is); (case h293 => k_is); (case h294 => k_is); (case h295 => k_is); (case h296 => ks_is); (case h297 => k_is); (case h298 => k_is); (case h299 => k_is); (case h300 => k_is); (case h301 => k_is); (case h302 => k_is); (case h303 => rfl); (case h304 => first | rfl | decide +kernel); (case h305 => k_is); (case h306 => k_is); (case h307 => rfl); (case h308 => k_is); (case h309 => k_is); (case h310 => decide +kernel); (case h311 => k_is); (case h312 => decide +kernel); (case h313 => k_is); (case h314 => k_is); (case h315 => k_is); (case h316 => k_is); (case h317 => k_is); (case h318 => k_is); (case h319 => k_is); (case h320 => k_is); (case h321 => k_is); (case h322 => k_is); (case h323 => ks_is); (case h324 => k_is); (case h325 => k_is); (case h326 => k_is); (case h327 => k_is); (case h328 => k_is); (case h329 => k_is); (case h330 => rfl); (case h331 => first | rfl | decide +kernel); (case h332 => k_is); (case h333 => k_is); (case h334 => rfl); (case h335 => k_is); (case h336 => k_is); (case h337 => decide +kernel); (case h338 => k_is); (case h339 => decide +kernel); (case h340 => k_is); (case h341 => k_is); (case h342 => k_is); (case h343 => k_is); (case h344 => k_is); (case h345 => k_is); (case h346 => k_is); (case h347 => k_is); (case h348 => k_is); (case h349 => k_is); (case h350 => ks_is); (case h351 => k_is); (case h352 => k_is); (case h353 => k_is); (case h354 => k_is); (case h355 => k_is); (case h356 => k_is); (case h357 => rfl); (case h358 => first | rfl | decide +kernel); (case h359 => k_is); (case h360 => k_is); (case h361 => rfl); (case h362 => k_is); (case h363 => k_is); (case h364 => decide +kernel); (case h365 => k_is); (case h366 => decide +kernel); (case h367 => k_is); (case h368 => k_is); (case h369 => k_is); (case h370 => k_is); (case h371 => k_is); (case h372 => k_is); (case h373 => k_is); (case h374 => k_is); (case h375 => k_is); (case h376 => k_is); (case h377 => ks_is); (case h378 => k_is); (case h379 => k_is); (case h380 => k_is); (case h381 => k_is); (case h382 => k_is); (case h383 => k_is); (case h384 => rfl); (case h385 => first | rfl | decide +kernel); (case h386 => k_is); (case h387 => k_is); (case h388 => rfl); (case h389 => k_is); (case h390 => k_is); (case h391 => decide +kernel); (case h392 => k_is); (case h393 => decide +kernel); (case h394 => k_is); (case h395 => k_is); (case h396 => k_is); (case h397 => k_is); (case h398 => k_is); (case h399 => k_is); (case h400 => k_is); (case h401 => k_is); (case h402 => k_is); (case h403 => k_is); (case h404 => ks_is); (case h405 => k_is); (case h406 => k_is); (case h407 => k_is); (case h408 => k_is); (case h409 => k_is); (case h410 => k_is); (case h411 => rfl); (case h412 => first | rfl | decide +kernel); (case h413 => k_is); (case h414 => k_is); (case h415 => rfl); (case h416 => k_is); (case h417 => k_is); (case h418 => decide +kernel); (case h419 => k_is); (case h420 => decide +kernel); (case h421 => k_is); (case h422 => k_is); (case h423 => k_is); (case h424 => k_is); (case h425 => k_is); (case h426 => k_is); (case h427 => k_is); (case h428 => k_is); (case h429 => k_is); (case h430 => k_is); (case h431 => ks_is); (case h432 => k_is); (case h433 => k_is); (case h434 => k_is); (case h435 => k_is); (case h436 => k_is); (case h437 => k_is); (case h438 => k_is); (case h439 => k_is); (case h440 => k_is); (case h441 => k_is); (case h442 => k_is); (case h443 => k_is); (case h444 => k_is); (case h445 => k_is); (case h446 => k_is); (case h447 => k_is); (case h448 => k_is); (case h449 => k_is); (case h450 => k_is); (case h451 => k_is); (case h452 => k_is); (case h453 => k_is); (case h454 => k_is); (case h455 => k_is); (case h456 => k_is); (case h457 => k_is); (case h458 => k_is); (case h459 => k_is); (case h460 => k_is); (case h461 => k_is); (case h462 => k_is); (case h463 => k_is); (case h464 => k_is); (case h465 => k_is); (case h466 => k_is); (case h467 => k_is); (case h468 => k_is); (case h469 => k_is); (case h470 => k_is); (case h471 => k_is); (case h472 => k_is); (case h473 => k_is); (case h474 => k_is); (case h475 => k_is); (case h476 => k_is); (case h477 => k_is); (case h478 => k_is); (case h479 => k_is); (case h480 => k_is); (case h481 => k_is); (case h482 => k_is); (case h483 => k_is); (case h484 => k_is); (case h485 => k_is); (case h486 => k_is); (case h487 => k_is); (case h488 => k_is); (case h489 => k_is); (case h490 => k_is); (case h491 => k_is); (case h492 => k_is); (case h493 => k_is); (case h494 => k_is); (case h495 => k_is); (case h496 => k_is); (case h497 => k_is); (case h498 => k_is); (case h499 => k_is); (case h500 => k_is); (case h501 => k_is); (case h502 => k_is); (case h503 => k_is); (case h504 => k_is); (case h505 => k_is); (case h506 => k_is); (case h507 => k_is); (case h508 => k_is); (case h509 => k_is); (case h510 => k_is); (case h511 => k_is); (case h512 => k_is); (case h513 => k_is); (case h514 => k_is); (case h515 => k_is); (case h516 => k_is); (case h517 => k_is)
