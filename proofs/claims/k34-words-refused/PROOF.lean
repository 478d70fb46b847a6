import PyProof.Rows.All
import Wide.All
import OpenK.AllK
import Wide.FinOn
import KE.KExcSuper
import HandS.ForExc
import HandS.Comp
import HandS.TryMany
import HandS.ExcField
import HandS.ExcIs
import HandS.IsInst
import HandS.Flow
import HandS.RaiseMore
import HandS.Codes
import PySem.Challenge.RW_digitwise_k34_words_refused
set_option Elab.async false
set_option linter.all false
set_option maxRecDepth 100000
set_option maxHeartbeats 4000000
/-! # Words refused: the text by places; the own exceptions, whose __init__ calls that of the base -/
namespace K34
open PySem
def topS (i : Nat) : Stmt := PySem.Challenge.pw_digitwise_k34_words_refused.main.body.getD i (.Pass ⟨0, 0, 0, 0⟩)
abbrev sInitO : Stmt := L2.inClass (topS 4) 0
abbrev sInitM : Stmt := L2.inClass (topS 5) 0
abbrev sIsOut : Stmt := topS 9
abbrev sIsRow : Stmt := topS 10
abbrev sInitT : Stmt := L2.inClass (topS 11) 0
abbrev sWide : Stmt := topS 13
abbrev sTake : Stmt := topS 14
abbrev sPool : Stmt := topS 15
abbrev sStates : Stmt := topS 16
abbrev sWhole : Stmt := topS 17
abbrev sRow : Stmt := topS 18
abbrev sDue : Stmt := topS 19
abbrev sTold : Stmt := topS 20
abbrev sSpoil : Stmt := topS 21
abbrev sLaw : Stmt := topS 22
end K34
namespace PySem
namespace LowG
open PySem.W PySem.Calls PyProof.Rows PySem.HandSPX
theorem one_size (v : Value) : [v].length ≤ sizeLine := by
  rw [sizeLine_eq]
  exact (by decide : 1 ≤ 16777216)
/-- what __init__ leaves of a fresh exception at x, its field f holding v -/
structure InitEnd (h h' : Heap) (x C dx : Addr) (f : Str) (v : Value) : Prop where
  keep : ∀ b o, b ≠ x → h.get? b = some o → h'.get? b = some o
  obj : ∃ t1 : Addr, h'.get? x = some { cls := .ref C, dict := some dx, data := .fields #[.ref t1, .none, .none, .none, .bool false, .none] }
  dbig : h.objs.size ≤ dx
  dne : dx ≠ x
  ns : h'.Ns1 dx (fun y => if y = f then some v else none)
/-- a made one -/
structure OwnMade (h h' : Heap) (e C d : Addr) (f : Str) (v : Value) : Prop where
  keep : ∀ b o, h.get? b = some o → h'.get? b = some o
  new : h.objs.size ≤ e
  obj : ∃ oe vs, h'.get? e = some oe ∧ oe.cls = .ref C ∧ oe.dict = some d ∧ oe.data = .fields vs ∧ vs[1]? = some .none
  dbig : h.objs.size ≤ d
  dne : d ≠ e
  ns : h'.Ns1 d (fun y => if y = f then some v else none)
section
variable {prog : Program} {w : World} {A : Around} {E : Value → Shared → Prop} {h : Heap} {g : Array GenState} {d : Drawn} {t : Nat} {os : OsState}
variable {nm q : Str} {C N : Addr} {bs bm : List Value} {hdct : Bool} {sn : List Str} {sub : List Value} {ab : Bool} {col : Option Bool} {dd : Option Addr} {k0 k1 k2 k3 k5 : Option Value}
/-- ValueError.__init__ bound to e, called -/
theorem call_mw {u e t0 : Addr} {rest : List Value} {Q : Value → Shared → Prop}
    (hC : h.get? C = some (excClassObj nm q C N bs bm hdct sn sub ab col dd k0 k1 k2 k3 k5 "ValueError.__new__")) (he : h.get? e = some (HandSPX.excO C t0)) (hu : h.get? u = some (kxs_mw "ValueError.__init__" e)) (hrest : rest.length ≤ sizeLine)
    (hq : ∀ h' t1, (∀ b o, b ≠ e → h.get? b = some o → h'.get? b = some o) → h'.get? e = some (HandSPX.excO C t1) → Q .none ⟨h', g, d, t, os⟩) :
    wpAny (model prog w) A (call (.ref u) rest) Q E ⟨h, g, d, t, os⟩ := by
  refine wpAny_call (codeAny_of_tree ?_)
  show wpAny _ A.in1 (callAny (.ref u) ⟨rest, []⟩) _ _ _
  simp only [callAny]
  refine wpAny_bind (wpAny_load hu ?_)
  simp only [kxs_mw, show (Value.type "method-wrapper" == Value.type "method" || Value.type "method-wrapper" == Value.type "builtin_function_or_method" || Value.type "method-wrapper" == Value.type "method-wrapper") = true by decide, if_true]
  refine W.KFB.if_so (by decide) ?_
  refine wpAny_bind (check_bound_init F.excBase_ValueError.toExcCallFacts hC he rfl ?_)
  refine wpAny_bind (wpAny_pure (wpAny_pure ?_))
  refine ⟨Code.quiet_builtin _ (by decide +kernel), codeAny_builtin F.excBase_ValueError.initEntry ?_⟩
  rw [Around.under_plainId F.excBase_ValueError.init.plain _]
  wp_walk
  refine hq _ h.objs.size (fun b o hb ho => ?_) ?_
  · rw [Heap.get?_update_other _ _ (Ne.symm hb)]
    exact Heap.get?_push_of_some _ ho
  · rw [Heap.get?_update_self _ (Heap.get?_push_of_some _ he) rfl]
    rfl
end
section
variable {M : Model} {A : Around} {E : Value → Shared → Prop} {s : Shared}
theorem cw1 {i : String} {u x : Addr} {pos : Pos} {env : Env} {e : Expr} {rest : List Expr} {Q : Value → Shared → Prop}
    (h : wpAny M A (spliced (backTo pos (starEach (e :: rest) env))) (fun vs s₁ => KxsAt i u x s₁.heap ∧ wpAny M A (call (.ref u) vs) Q E s₁) E s)
    (he : starEach (e :: rest) env = (false, eval e env) :: starEach rest env := by rfl) (hplain : (backTo pos (starEach rest env)).any (·.1) = false := by rfl) :
    wpAny M A (callWith pos (.ref u) [] (backTo pos (starEach (e :: rest) env)) []) Q E s := by
  rw [he] at h ⊢
  refine kxs_callWith (i := i) (x := x) (by show (false || (backTo pos (starEach rest env)).any (·.1)) = false; rw [hplain]; rfl) ?_
  exact evalArgs_plain h
theorem ldF {env : Env} {m : Str → Option Value} {x : Str} {pos : Pos} {v : Value} {Q : Value → Shared → Prop} (hn : s.heap.Ns env.locals m) (hv : m x = some v) (h : Q v s)
    (hk : env.scope.kind = .function := by rfl) (hl : env.kindOf x = some .local := by rfl) (hd : (x == ("__debug__" : Str)) = false := by decide) :
    wpAny M A (eval (.Name x pos) env) Q E s := wpAny_Name (wpAny_loadName_local hk hl hn hv h) hd
end
end LowG
end PySem

namespace L2
open PySem PySem.Spec PyProof.Rows
theorem relO_one {f : Str} {v : V} {v' : Value} (r : RelV v v') (g : Str) : RelO (List.lookup g [(f, v)]) (if g = f then some v' else none) := by
  by_cases hw : g = f
  · subst hw
    rw [if_pos rfl]
    have q : List.lookup g [(g, v)] = some v := by simp [List.lookup]
    rw [q]
    exact r
  · rw [if_neg hw]
    have qw : (g == f) = false := by simpa using hw
    have q2 : List.lookup g [(f, v)] = none := by simp [List.lookup, qw]
    rw [q2]
    trivial
/-- C('..') with the field f -/
def tMkLow (f : Str) (C : Addr) (ta : TA) : St → Hp → XK → Prop := fun σ H Q => ta σ H fun vs H1 => ∃ z, vs = [.str z] ∧ ∀ d, H1 d = none → Q (.ref C) (some d) (upd H1 d (.xd [(f, .str z)]))
/-- what a made one is to the layer -/
theorem mkp_low {X : Cx} {pins : List (Addr × Obj)} {σ : St} {H1 : Hp} {Q : XK} {hp h' : Heap} {g : Array GenState} {dr : Drawn} {tk tk' : Nat} {os : OsState} {e C d : Addr} {f : Str} {v : V} {v' : Value}
    (I1 : Inv X pins σ H1 ⟨hp, g, dr, tk, os⟩) (M : PySem.LowG.OwnMade hp h' e C d f v') (rv : RelV v v') (R : Raises X (.ref C)) (q1 : Q (.ref C) (some d) (upd H1 d (.xd [(f, v)]))) : MkP X pins σ Q (.ref e) ⟨h', g, dr, tk', os⟩ := by
  obtain ⟨oe, fv, hoe, hc, hd, hdat, h1⟩ := M.obj
  have hns := M.ns
  obtain ⟨G', g1, g2⟩ := restrict h' fun b => decide (b ≠ e)
  have gk : ∀ b, b ≠ e → G'.get? b = h'.get? b := fun b hb => g1 b (decide_eq_true hb)
  have ge : G'.get? e = none := g2 e (by simp)
  have old : ∀ b o, hp.get? b = some o → G'.get? b = some o := fun b o q => (gk b (Nat.ne_of_lt (Nat.lt_of_lt_of_le (Heap.lt_size q) M.new))).trans (M.keep b o q)
  have ob : ObjOk X.prog X.w (upd H1 d (.xd [(f, v)])) G' d (.xd [(f, v)]) :=
    ⟨_, hns.at (fun o q => (gk d M.dne).trans q), fun f => relO_one rv f⟩
  have J : Inv X pins σ (upd H1 d (.xd [(f, v)])) ⟨G', g, dr, tk', os⟩ := I1.laid (t' := tk') old M.dbig ob
  refine ⟨e, oe, fv, ⟨G', g, dr, tk', os⟩, _, .ref C, some d, rfl, J, fun b o q => ?_, ge, hoe, ⟨hc, hd⟩, hdat, h1, ?_, rfl, I1.bare, R, q1⟩
  · by_cases hb : b = e
    · have q' : G'.get? b = some o := q
      rw [hb, ge] at q'; cases q'
    · exact (gk b hb).symm.trans q
  · rw [upd_ne (Ne.symm M.dne)]
    exact I1.hok.fresh M.new
end L2

namespace PySem
namespace LowM
open PySem.W PySem.Calls PyProof.Rows PySem.HandSPX PySem.LowG
/-- what the written part says of Misused, at C, and of its __init__, at fI -/
structure LowTxt (P : Program) (K : Frag) (mg : Str → Option Value) (C fI : Addr) : Prop where
  gC : mg "Misused" = some (.ref C)
  cls : ∃ nm q N bs bm sn sub ab col dd k0 k1 k2 k3 k5, K.lookup C = some (excClassObj nm q C N bs bm true sn sub ab col dd k0 k1 k2 k3 k5 "ValueError.__new__") ∧ refsVE bm = true
  sa : findIn K (.ref C) "__setattr__" = some (some (.builtin "object.__setattr__"))
  noN : findIn K (.ref C) "why" = some none
  iC : findIn K (.ref C) "__init__" = some (some (.ref fI))
  tC : typeIn K (.ref fI) = some (.type "function")
  kC : keepIn K (.ref C) = true
  exC : subIn K (.ref C) (.type "BaseException") = some true
  veC : subIn K (.ref C) (.type "ValueError") = some true
  tyC : typeIn K (.ref C) = some (.type "type")
  self : mroIn K C (.ref C) = some true
  sup : ks_superIn K C C "__init__" = some (some (.builtin "ValueError.__init__"))
  opq : nsIn K cStatics "thirdparty.any" = some none
  mS : mg "super" = none
  mT : mg "str" = none
  top : (P.main.scope.names.lookup ("super" : Str)).isSome = false
  fn : ∃ (oc : Value) (od : Option Addr) (kV doc pm : Value) (an : Option Addr) (cda : Addr) (ct : Value) (osl : Array (Option Value)) (cc : Addr) (ccl cl : Value) (cdd cld : Option Addr) (vs : Array Value) (ccs csl : Array (Option Value)) (file : Str) (tf : Tok),
    K.lookup fI = some ⟨oc, od, .func (fnX "__init__" "Misused.__init__" (L2.defArgs K34.sInitM) (L2.defBody K34.sInitM) (L2.defScope K34.sInitM) [("__class__", cc)] .none kV doc pm an (.ref cda) ct), osl⟩ ∧ codeIn K (.ref cda) "Misused.__init__" = true ∧
    K.lookup cda = some ⟨ccl, cdd, .fields vs, ccs⟩ ∧ vs[2]? = some (.str file tf) ∧ ((P.main.file : Str) == file) = true ∧ K.lookup cc = some ⟨cl, cld, .cell (some (.ref C)), csl⟩
section
variable {prog : Program} {w : World} {A : Around} {E : Value → Shared → Prop} {R : Result → Shared → Prop} {s : Shared} {K : Frag} {mg : Str → Option Value} {C fI : Addr}
theorem low_init (T : LowTxt prog K mg C fI) {x t0 : Addr} {z : Str} {tz : Tok} (X : K.In s.heap) (hlim : s.heap.NoLimit) (hg : s.heap.Ns mainGlobals mg) (hb : ∃ mb, s.heap.Ns builtinsNs mb ∧ ∀ y : Str, y ≠ "__name__" → mb y = bootBuiltins y)
    (hx : s.heap.get? x = some (excO C t0)) (hnx : K.lookup x = none) (hroom : A.depth < recursionLimit)
    (hq : ∀ h' tk dx, InitEnd s.heap h' x C dx "why" (.str z tz) → R (.ok (.ret .none)) { s with heap := h', toks := tk }) :
    codeAny (model prog w) A (.call (.ref fI) ⟨[.ref x, .str z tz], []⟩) R s := by
  obtain ⟨oc, od, kV, doc, pm, an, cda, ct, osl, cc, ccl, cl, cdd, cld, vs, ccs, csl, file, tf, ho, hcd, hcode, hvs, hfile, hcell⟩ := T.fn
  obtain ⟨nm, q, N, bs, bm, sn, sub, ab, col, dd, k0, k1, k2, k3, k5, hC, hbm⟩ := T.cls
  obtain ⟨mb, hb1, hb2⟩ := hb
  have hcl : clsIn K C = some { name := nm, bases := bs, mro := .ref C :: bm, ns := N, qualname := q, hasDict := true, slotNames := sn, subclasses := sub, abstract := ab, collection := col, hasDel := false } := by unfold clsIn; rw [hC] <;> rfl
  refine ks_codeAny_call_defAt (fd := fnX "__init__" "Misused.__init__" (L2.defArgs K34.sInitM) (L2.defBody K34.sInitM) (L2.defScope K34.sInitM) [("__class__", cc)] .none kV doc pm an (.ref cda) ct)
    (body := L2.defBody K34.sInitM) (binds := [("self", .ref x), ("why", .str z tz)]) hroom (X _ _ ho) rfl hlim (codeRec_of X hcd) rfl (BindsTo.of_eq (by first | rfl | with_unfolding_all rfl)) (show ∀ y ∈ (L2.defScope K34.sInitM).names, y.2 ≠ NameKind.cell from by decide +kernel) (locs (by first | rfl | decide +kernel)) (fun h₁ hns k => ?_) rfl rfl rfl
  have X₁ : K.In h₁ := X.keeps k
  have hx₁ := k _ _ hx
  have hsz : s.heap.objs.size ≤ h₁.objs.size := Nat.le_of_lt hns.lt
  show wpAt (model prog w) (A.deeper (ksEnv "Misused.__init__" (L2.defScope K34.sInitM) s.heap.objs.size fI (.ref cda) cc)) (.func (L2.defBody K34.sInitM) (ksEnv "Misused.__init__" (L2.defScope K34.sInitM) s.heap.objs.size fI (.ref cda) cc))
    (execs (L2.defBody K34.sInitM) (ksEnv "Misused.__init__" (L2.defScope K34.sInitM) s.heap.objs.size fI (.ref cda) cc)) _ _ _
  -- the first statement
  refine ks_wpAt_execs_cons (ks_wpAt_Expr_any (ks_wpAt_MethodCall ?_))
  have ID : InstAt h₁ x (excO C t0) C none := ⟨hx₁, rfl, rfl, trivial⟩
  refine ks_wpAt_super_base (env := ksEnv "Misused.__init__" (L2.defScope K34.sInitM) s.heap.objs.size fI (.ref cda) cc) (by first | rfl | decide +kernel) (by first | rfl | decide +kernel) (by decide) rfl (X₁ _ _ ho) rfl rfl rfl (X₁ _ _ hcode) rfl hvs hfile T.top ?_
  refine ks_loadName_global rfl (by first | rfl | decide +kernel) (loadGlobal_builtin (hg.keeps k) T.mS (hb1.keeps k) ((hb2 _ (by decide)).trans (by first | boot_by_name | rfl | kernel_rfl)) ⟨rfl, ?_⟩)
  refine wpAny_loadName_free rfl (by first | rfl | decide +kernel) rfl ⟨_, X₁ _ _ hcell, rfl⟩ ?_
  refine wpAny_loadName_local rfl (by first | rfl | decide +kernel) hns (by first | rfl | (with_unfolding_all rfl) | kernel_rfl) ?_
  refine ks_wpAny_isType_cls (X₁ _ _ hC) rfl ⟨rfl, ?_⟩
  refine ks_wpAny_call_super (X₁ _ _ hC) rfl hx₁ rfl (fun c e => nomatch e) (looks_mroIn X₁ T.self) (fun h₂ hso k₂ => ?_)
  -- the bound __init__
  have X₂ : K.In h₂ := X₁.keeps k₂
  have hx₂ := k₂ _ _ hx₁
  have I₂ : InstAt h₂ x (excO C t0) C none := ⟨hx₂, rfl, rfl, trivial⟩
  have hsup := T.sup
  unfold ks_superIn at hsup
  rw [hcl] at hsup
  refine kxs_getMethod kxs_ValueError hso (looks_opaque X₂ T.opq) (l₀ := .ref C :: bm) (fun A Q E s k q => wpAny_bind ((looks_clsIn X₂ hcl) A _ E s k (wpAny_pure q))) rfl X₂ hsup (I₂.type.andThen (looks_subIn X₂ T.veC)) (ks_ne X₂ I₂ hcl) (by decide) ?_
  have k₃ : ∀ b o, h₂.get? b = some o → (h₂.push (kxs_mw "ValueError.__init__" x)).get? b = some o := fun b o e => Heap.get?_push_of_some _ e
  have hu : (h₂.push (kxs_mw "ValueError.__init__" x)).get? h₂.objs.size = some (kxs_mw "ValueError.__init__" x) := Heap.get?_push_at rfl rfl
  refine cw1 (i := "ValueError.__init__") (x := x) (spliced_cons ?_)
  -- its argument
  refine wpAny_Call_Name_kw (Name_function_global rfl (by first | rfl | decide +kernel) (loadGlobal_builtin (((hg.keeps k).keeps k₂).keeps k₃) T.mT (((hb1.keeps k).keeps k₂).keeps k₃) ((hb2 _ (by decide)).trans (by first | boot_by_name | rfl | kernel_rfl)) ?_) (by decide))
  refine PyProof.Rows.callWith_type1 (spliced_cons ?_)
  refine ldF (v := .str z tz) (((hns.keeps k₂).keeps k₃)) (by first | rfl | with_unfolding_all rfl | kernel_rfl) ?_ rfl (by first | rfl | decide +kernel)
  refine spliced_nil ?_
  refine PySem.P.str_of_str ?_
  refine spliced_nil ⟨hu, ?_⟩
  refine call_mw (k₃ _ _ (k₂ _ _ (X₁ _ _ hC))) (k₃ _ _ hx₂) hu (one_size _) (fun h₄ t1 k₄ hx₄ => ?_)
  -- the second statement
  have k14 : ∀ b o, b ≠ x → h₁.get? b = some o → h₄.get? b = some o := fun b o hb e => k₄ b o hb (k₃ _ _ (k₂ _ _ e))
  have hL : s.heap.objs.size ≠ x := Nat.ne_of_gt (Heap.lt_size hx)
  obtain ⟨oL, es, ep, e1, rL⟩ := hns
  have hns₄ : h₄.Ns s.heap.objs.size (fun y => ([("self", Value.ref x), ("why", Value.str z tz)] : List (Str × Value)).reverse.lookup y) := ⟨oL, es, ep, k14 _ _ hL e1, rL⟩
  have X₄ : K.In h₄ := fun b o e => k14 b o (fun y => by rw [y, hnx] at e; cases e) (X₁ _ _ e)
  refine wpAt_of_wpAny ?_
  show wpAny _ _ (execs _ _) _ _ _
  refine wpAny_execs_cons (plainObj_wpAny_Assign_Attribute ?_)
  refine ldF (v := .str z tz) hns₄ (by first | rfl | with_unfolding_all rfl | kernel_rfl) (ldF (v := .ref x) hns₄ (by first | rfl | with_unfolding_all rfl | kernel_rfl) ?_ rfl (by first | rfl | decide +kernel)) rfl (by first | rfl | decide +kernel)
  refine set_plain X₄ (ox := excO C t1) (od := none) ⟨hx₄, rfl, rfl, trivial⟩ T.sa ?_
  refine exc_osa X₄ hx₄ hcl (show refsVE (.ref C :: bm) = true from hbm) rfl T.noN (fun h₅ tk₅ dx k₅ dn dne hx₅ hn₅ => ?_)
  show wpAny _ _ (execs _ _) _ _ _
  refine wpAny_execs_nil (hq h₅ tk₅ dx ⟨fun b o hb e => k₅ b o hb (k14 b o hb (k b o e)), ⟨t1, hx₅⟩, Nat.le_of_lt (Nat.lt_of_lt_of_le (Heap.Ns.lt hns₄) dn), dne, hn₅⟩)
theorem low_made (T : LowTxt prog K mg C fI) {z : Str} {tz : Tok} (X : K.In s.heap) (hlim : s.heap.NoLimit) (hg : s.heap.Ns mainGlobals mg) (hb : ∃ mb, s.heap.Ns builtinsNs mb ∧ ∀ y : Str, y ≠ "__name__" → mb y = bootBuiltins y) (hroom : A.depth + 1 < recursionLimit)
    (hq : ∀ h' tk e d, OwnMade s.heap h' e C d "why" (.str z tz) → R (.ok (.ret (.ref e))) { s with heap := h', toks := tk }) :
    codeAny (model prog w) A (.call (.ref C) ⟨[.str z tz], []⟩) R s := by
  obtain ⟨nm, q, N, bs, bm, sn, sub, ab, col, dd, k0, k1, k2, k3, k5, hC, hbm⟩ := T.cls
  obtain ⟨hp, g, dr, tk, os⟩ := s
  have k : ∀ b o, hp.get? b = some o → ((hp.push (kdv_tup [Value.str z tz])).push (excO C hp.objs.size)).get? b = some o := fun b o e => Heap.get?_push_of_some _ (Heap.get?_push_of_some _ e)
  have hget : ((hp.push (kdv_tup [Value.str z tz])).push (excO C hp.objs.size)).get? (hp.objs.size + 1) = some (excO C hp.objs.size) := by heap_get
  have hnx : K.lookup (hp.objs.size + 1) = none := by
    cases e : K.lookup (hp.objs.size + 1) with
    | none => rfl
    | some o =>
      have z : hp.get? (hp.objs.size + 1) = some o := X _ _ e
      exact absurd (Nat.lt_of_succ_lt (Heap.lt_size z)) (Nat.lt_irrefl _)
  obtain ⟨mb, hb1, hb2⟩ := hb
  refine call_own F.excBase_ValueError (fun X => refsVE_contains X bm hbm) (X _ _ hC) (looks_findIn X T.iC) (fun self => bind_fn X self T.tC) (one_size _) ?_
  refine low_init (s := ⟨(hp.push (kdv_tup [Value.str z tz])).push (excO C hp.objs.size), g, dr, tk, os⟩) T (X.keeps k) (hlim.keeps k) (hg.keeps k) ⟨mb, hb1.keeps k, hb2⟩ hget hnx ?_ fun h' tk' dx ⟨k', hx, dn, dne, hns⟩ => ?_
  · show A.depth + 1 < recursionLimit
    exact hroom
  · obtain ⟨t1, hx⟩ := hx
    have old : ∀ b o, hp.get? b = some o → h'.get? b = some o := fun b o e => k' b o (Nat.ne_of_lt (Nat.lt_succ_of_lt (Heap.lt_size e))) (k b o e)
    have z : hp.objs.size + 1 + 1 ≤ dx := by
      first
        | (simpa only [Heap.size_push] using dn)
        | exact dn
        | (have q := dn; rw [Heap.size_push, Heap.size_push] at q; exact q)
    exact ⟨rfl, hq h' tk' (hp.objs.size + 1) dx ⟨old, Nat.le_succ _, ⟨_, _, hx, rfl, rfl, rfl, rfl⟩, Nat.le_trans (Nat.le_trans (Nat.le_succ _) (Nat.le_succ _)) z, dne, hns⟩⟩
end
end LowM
end PySem
namespace L2
open PySem PySem.Spec PyProof.Rows
section
variable {X : Cx} {C fI : Addr}
theorem pmk_lowM {a : Expr} {ta : TA} {p pos : Pos} {k : Nat} (T : PySem.LowM.LowTxt X.prog X.K X.mg C fI) (hr : Room k X.A) (ha : PA X [a] ta) (hg : Gl X "Misused" := by rfl)
    (he : starEach (a :: []) X.env = (false, eval a X.env) :: starEach [] X.env := by rfl) (hpl : (backTo pos (starEach [] X.env)).any (·.1) = false := by rfl) :
    PMk X (.Call (.Name "Misused" p) [a] [] pos) (tMkLow "why" C ta) := by
  intro pins s σ H Q I h
  refine wpAny_Call_Name_kw (ld_glob I hg T.gC ?_)
  refine PySem.W.callWith_K (h₀ := X.base) I.ok.mod.kin T.kC (thn (ha.run pos pins s σ H _ I h) fun us s1 hh => ?_) he hpl
  obtain ⟨vs, H1, I1, r1, z, ev, q1⟩ := hh
  subst ev
  refine ⟨I1.kIn, ?_⟩
  cases r1 with
  | cons rv rn =>
    rename_i v' us'
    cases rn
    obtain ⟨tz, rfl⟩ := rv
    show wpAny _ _ (call (.ref C) [Value.str z tz]) _ _ _
    have hlim := I1.nolimit
    have hmod : s1.heap.Ns mainGlobals X.mg := I1.mod.glob.keeps I1.bk
    obtain ⟨mb, h1, h2⟩ := I1.mod.blt
    have hblt : ∃ mb, s1.heap.Ns builtinsNs mb ∧ ∀ y : Str, y ≠ "__name__" → mb y = bootBuiltins y := ⟨mb, h1.keeps I1.bk, h2⟩
    obtain ⟨hp, g, dr, tk, os⟩ := s1
    refine wpAny_call (PySem.LowM.low_made T I1.kIn hlim hmod hblt (by have := hr.dp; omega) fun h' tk' e d M => ?_)
    exact mkp_low (f := "why") (v := V.str z) I1 M ⟨tz, rfl⟩ (raises_own T.exC T.tyC) (q1 d (I1.hok.fresh M.dbig))
end
end L2

namespace PySem
namespace LowO
open PySem.W PySem.Calls PyProof.Rows PySem.HandSPX PySem.LowG
/-- what the written part says of Oversized, at C, and of its __init__, at fI -/
structure LowTxt (P : Program) (K : Frag) (mg : Str → Option Value) (C fI : Addr) : Prop where
  gC : mg "Oversized" = some (.ref C)
  cls : ∃ nm q N bs bm sn sub ab col dd k0 k1 k2 k3 k5, K.lookup C = some (excClassObj nm q C N bs bm true sn sub ab col dd k0 k1 k2 k3 k5 "ValueError.__new__") ∧ refsVE bm = true
  sa : findIn K (.ref C) "__setattr__" = some (some (.builtin "object.__setattr__"))
  noN : findIn K (.ref C) "limit" = some none
  iC : findIn K (.ref C) "__init__" = some (some (.ref fI))
  tC : typeIn K (.ref fI) = some (.type "function")
  kC : keepIn K (.ref C) = true
  exC : subIn K (.ref C) (.type "BaseException") = some true
  veC : subIn K (.ref C) (.type "ValueError") = some true
  tyC : typeIn K (.ref C) = some (.type "type")
  self : mroIn K C (.ref C) = some true
  sup : ks_superIn K C C "__init__" = some (some (.builtin "ValueError.__init__"))
  opq : nsIn K cStatics "thirdparty.any" = some none
  mS : mg "super" = none
  mT : mg "str" = none
  top : (P.main.scope.names.lookup ("super" : Str)).isSome = false
  fn : ∃ (oc : Value) (od : Option Addr) (kV doc pm : Value) (an : Option Addr) (cda : Addr) (ct : Value) (osl : Array (Option Value)) (cc : Addr) (ccl cl : Value) (cdd cld : Option Addr) (vs : Array Value) (ccs csl : Array (Option Value)) (file : Str) (tf : Tok),
    K.lookup fI = some ⟨oc, od, .func (fnX "__init__" "Oversized.__init__" (L2.defArgs K34.sInitO) (L2.defBody K34.sInitO) (L2.defScope K34.sInitO) [("__class__", cc)] .none kV doc pm an (.ref cda) ct), osl⟩ ∧ codeIn K (.ref cda) "Oversized.__init__" = true ∧
    K.lookup cda = some ⟨ccl, cdd, .fields vs, ccs⟩ ∧ vs[2]? = some (.str file tf) ∧ ((P.main.file : Str) == file) = true ∧ K.lookup cc = some ⟨cl, cld, .cell (some (.ref C)), csl⟩
section
variable {prog : Program} {w : World} {A : Around} {E : Value → Shared → Prop} {R : Result → Shared → Prop} {s : Shared} {K : Frag} {mg : Str → Option Value} {C fI : Addr}
theorem low_init (T : LowTxt prog K mg C fI) {x t0 : Addr} {z : Str} {tz : Tok} (X : K.In s.heap) (hlim : s.heap.NoLimit) (hg : s.heap.Ns mainGlobals mg) (hb : ∃ mb, s.heap.Ns builtinsNs mb ∧ ∀ y : Str, y ≠ "__name__" → mb y = bootBuiltins y)
    (hx : s.heap.get? x = some (excO C t0)) (hnx : K.lookup x = none) (hroom : A.depth < recursionLimit)
    (hq : ∀ h' tk dx, InitEnd s.heap h' x C dx "limit" (.str z tz) → R (.ok (.ret .none)) { s with heap := h', toks := tk }) :
    codeAny (model prog w) A (.call (.ref fI) ⟨[.ref x, .str z tz], []⟩) R s := by
  obtain ⟨oc, od, kV, doc, pm, an, cda, ct, osl, cc, ccl, cl, cdd, cld, vs, ccs, csl, file, tf, ho, hcd, hcode, hvs, hfile, hcell⟩ := T.fn
  obtain ⟨nm, q, N, bs, bm, sn, sub, ab, col, dd, k0, k1, k2, k3, k5, hC, hbm⟩ := T.cls
  obtain ⟨mb, hb1, hb2⟩ := hb
  have hcl : clsIn K C = some { name := nm, bases := bs, mro := .ref C :: bm, ns := N, qualname := q, hasDict := true, slotNames := sn, subclasses := sub, abstract := ab, collection := col, hasDel := false } := by unfold clsIn; rw [hC] <;> rfl
  refine ks_codeAny_call_defAt (fd := fnX "__init__" "Oversized.__init__" (L2.defArgs K34.sInitO) (L2.defBody K34.sInitO) (L2.defScope K34.sInitO) [("__class__", cc)] .none kV doc pm an (.ref cda) ct)
    (body := L2.defBody K34.sInitO) (binds := [("self", .ref x), ("limit", .str z tz)]) hroom (X _ _ ho) rfl hlim (codeRec_of X hcd) rfl (BindsTo.of_eq (by first | rfl | with_unfolding_all rfl)) (show ∀ y ∈ (L2.defScope K34.sInitO).names, y.2 ≠ NameKind.cell from by decide +kernel) (locs (by first | rfl | decide +kernel)) (fun h₁ hns k => ?_) rfl rfl rfl
  have X₁ : K.In h₁ := X.keeps k
  have hx₁ := k _ _ hx
  have hsz : s.heap.objs.size ≤ h₁.objs.size := Nat.le_of_lt hns.lt
  show wpAt (model prog w) (A.deeper (ksEnv "Oversized.__init__" (L2.defScope K34.sInitO) s.heap.objs.size fI (.ref cda) cc)) (.func (L2.defBody K34.sInitO) (ksEnv "Oversized.__init__" (L2.defScope K34.sInitO) s.heap.objs.size fI (.ref cda) cc))
    (execs (L2.defBody K34.sInitO) (ksEnv "Oversized.__init__" (L2.defScope K34.sInitO) s.heap.objs.size fI (.ref cda) cc)) _ _ _
  -- the first statement
  refine ks_wpAt_execs_cons (ks_wpAt_Expr_any (ks_wpAt_MethodCall ?_))
  have ID : InstAt h₁ x (excO C t0) C none := ⟨hx₁, rfl, rfl, trivial⟩
  refine ks_wpAt_super_base (env := ksEnv "Oversized.__init__" (L2.defScope K34.sInitO) s.heap.objs.size fI (.ref cda) cc) (by first | rfl | decide +kernel) (by first | rfl | decide +kernel) (by decide) rfl (X₁ _ _ ho) rfl rfl rfl (X₁ _ _ hcode) rfl hvs hfile T.top ?_
  refine ks_loadName_global rfl (by first | rfl | decide +kernel) (loadGlobal_builtin (hg.keeps k) T.mS (hb1.keeps k) ((hb2 _ (by decide)).trans (by first | boot_by_name | rfl | kernel_rfl)) ⟨rfl, ?_⟩)
  refine wpAny_loadName_free rfl (by first | rfl | decide +kernel) rfl ⟨_, X₁ _ _ hcell, rfl⟩ ?_
  refine wpAny_loadName_local rfl (by first | rfl | decide +kernel) hns (by first | rfl | (with_unfolding_all rfl) | kernel_rfl) ?_
  refine ks_wpAny_isType_cls (X₁ _ _ hC) rfl ⟨rfl, ?_⟩
  refine ks_wpAny_call_super (X₁ _ _ hC) rfl hx₁ rfl (fun c e => nomatch e) (looks_mroIn X₁ T.self) (fun h₂ hso k₂ => ?_)
  -- the bound __init__
  have X₂ : K.In h₂ := X₁.keeps k₂
  have hx₂ := k₂ _ _ hx₁
  have I₂ : InstAt h₂ x (excO C t0) C none := ⟨hx₂, rfl, rfl, trivial⟩
  have hsup := T.sup
  unfold ks_superIn at hsup
  rw [hcl] at hsup
  refine kxs_getMethod kxs_ValueError hso (looks_opaque X₂ T.opq) (l₀ := .ref C :: bm) (fun A Q E s k q => wpAny_bind ((looks_clsIn X₂ hcl) A _ E s k (wpAny_pure q))) rfl X₂ hsup (I₂.type.andThen (looks_subIn X₂ T.veC)) (ks_ne X₂ I₂ hcl) (by decide) ?_
  have k₃ : ∀ b o, h₂.get? b = some o → (h₂.push (kxs_mw "ValueError.__init__" x)).get? b = some o := fun b o e => Heap.get?_push_of_some _ e
  have hu : (h₂.push (kxs_mw "ValueError.__init__" x)).get? h₂.objs.size = some (kxs_mw "ValueError.__init__" x) := Heap.get?_push_at rfl rfl
  refine cw1 (i := "ValueError.__init__") (x := x) (spliced_cons ?_)
  -- its argument
  refine wpAny_Call_Name_kw (Name_function_global rfl (by first | rfl | decide +kernel) (loadGlobal_builtin (((hg.keeps k).keeps k₂).keeps k₃) T.mT (((hb1.keeps k).keeps k₂).keeps k₃) ((hb2 _ (by decide)).trans (by first | boot_by_name | rfl | kernel_rfl)) ?_) (by decide))
  refine PyProof.Rows.callWith_type1 (spliced_cons ?_)
  refine ldF (v := .str z tz) (((hns.keeps k₂).keeps k₃)) (by first | rfl | with_unfolding_all rfl | kernel_rfl) ?_ rfl (by first | rfl | decide +kernel)
  refine spliced_nil ?_
  refine PySem.P.str_of_str ?_
  refine spliced_nil ⟨hu, ?_⟩
  refine call_mw (k₃ _ _ (k₂ _ _ (X₁ _ _ hC))) (k₃ _ _ hx₂) hu (one_size _) (fun h₄ t1 k₄ hx₄ => ?_)
  -- the second statement
  have k14 : ∀ b o, b ≠ x → h₁.get? b = some o → h₄.get? b = some o := fun b o hb e => k₄ b o hb (k₃ _ _ (k₂ _ _ e))
  have hL : s.heap.objs.size ≠ x := Nat.ne_of_gt (Heap.lt_size hx)
  obtain ⟨oL, es, ep, e1, rL⟩ := hns
  have hns₄ : h₄.Ns s.heap.objs.size (fun y => ([("self", Value.ref x), ("limit", Value.str z tz)] : List (Str × Value)).reverse.lookup y) := ⟨oL, es, ep, k14 _ _ hL e1, rL⟩
  have X₄ : K.In h₄ := fun b o e => k14 b o (fun y => by rw [y, hnx] at e; cases e) (X₁ _ _ e)
  refine wpAt_of_wpAny ?_
  show wpAny _ _ (execs _ _) _ _ _
  refine wpAny_execs_cons (plainObj_wpAny_Assign_Attribute ?_)
  refine ldF (v := .str z tz) hns₄ (by first | rfl | with_unfolding_all rfl | kernel_rfl) (ldF (v := .ref x) hns₄ (by first | rfl | with_unfolding_all rfl | kernel_rfl) ?_ rfl (by first | rfl | decide +kernel)) rfl (by first | rfl | decide +kernel)
  refine set_plain X₄ (ox := excO C t1) (od := none) ⟨hx₄, rfl, rfl, trivial⟩ T.sa ?_
  refine exc_osa X₄ hx₄ hcl (show refsVE (.ref C :: bm) = true from hbm) rfl T.noN (fun h₅ tk₅ dx k₅ dn dne hx₅ hn₅ => ?_)
  show wpAny _ _ (execs _ _) _ _ _
  refine wpAny_execs_nil (hq h₅ tk₅ dx ⟨fun b o hb e => k₅ b o hb (k14 b o hb (k b o e)), ⟨t1, hx₅⟩, Nat.le_of_lt (Nat.lt_of_lt_of_le (Heap.Ns.lt hns₄) dn), dne, hn₅⟩)
theorem low_made (T : LowTxt prog K mg C fI) {z : Str} {tz : Tok} (X : K.In s.heap) (hlim : s.heap.NoLimit) (hg : s.heap.Ns mainGlobals mg) (hb : ∃ mb, s.heap.Ns builtinsNs mb ∧ ∀ y : Str, y ≠ "__name__" → mb y = bootBuiltins y) (hroom : A.depth + 1 < recursionLimit)
    (hq : ∀ h' tk e d, OwnMade s.heap h' e C d "limit" (.str z tz) → R (.ok (.ret (.ref e))) { s with heap := h', toks := tk }) :
    codeAny (model prog w) A (.call (.ref C) ⟨[.str z tz], []⟩) R s := by
  obtain ⟨nm, q, N, bs, bm, sn, sub, ab, col, dd, k0, k1, k2, k3, k5, hC, hbm⟩ := T.cls
  obtain ⟨hp, g, dr, tk, os⟩ := s
  have k : ∀ b o, hp.get? b = some o → ((hp.push (kdv_tup [Value.str z tz])).push (excO C hp.objs.size)).get? b = some o := fun b o e => Heap.get?_push_of_some _ (Heap.get?_push_of_some _ e)
  have hget : ((hp.push (kdv_tup [Value.str z tz])).push (excO C hp.objs.size)).get? (hp.objs.size + 1) = some (excO C hp.objs.size) := by heap_get
  have hnx : K.lookup (hp.objs.size + 1) = none := by
    cases e : K.lookup (hp.objs.size + 1) with
    | none => rfl
    | some o =>
      have z : hp.get? (hp.objs.size + 1) = some o := X _ _ e
      exact absurd (Nat.lt_of_succ_lt (Heap.lt_size z)) (Nat.lt_irrefl _)
  obtain ⟨mb, hb1, hb2⟩ := hb
  refine call_own F.excBase_ValueError (fun X => refsVE_contains X bm hbm) (X _ _ hC) (looks_findIn X T.iC) (fun self => bind_fn X self T.tC) (one_size _) ?_
  refine low_init (s := ⟨(hp.push (kdv_tup [Value.str z tz])).push (excO C hp.objs.size), g, dr, tk, os⟩) T (X.keeps k) (hlim.keeps k) (hg.keeps k) ⟨mb, hb1.keeps k, hb2⟩ hget hnx ?_ fun h' tk' dx ⟨k', hx, dn, dne, hns⟩ => ?_
  · show A.depth + 1 < recursionLimit
    exact hroom
  · obtain ⟨t1, hx⟩ := hx
    have old : ∀ b o, hp.get? b = some o → h'.get? b = some o := fun b o e => k' b o (Nat.ne_of_lt (Nat.lt_succ_of_lt (Heap.lt_size e))) (k b o e)
    have z : hp.objs.size + 1 + 1 ≤ dx := by
      first
        | (simpa only [Heap.size_push] using dn)
        | exact dn
        | (have q := dn; rw [Heap.size_push, Heap.size_push] at q; exact q)
    exact ⟨rfl, hq h' tk' (hp.objs.size + 1) dx ⟨old, Nat.le_succ _, ⟨_, _, hx, rfl, rfl, rfl, rfl⟩, Nat.le_trans (Nat.le_trans (Nat.le_succ _) (Nat.le_succ _)) z, dne, hns⟩⟩
end
end LowO
end PySem
namespace L2
open PySem PySem.Spec PyProof.Rows
section
variable {X : Cx} {C fI : Addr}
theorem pmk_lowO {a : Expr} {ta : TA} {p pos : Pos} {k : Nat} (T : PySem.LowO.LowTxt X.prog X.K X.mg C fI) (hr : Room k X.A) (ha : PA X [a] ta) (hg : Gl X "Oversized" := by rfl)
    (he : starEach (a :: []) X.env = (false, eval a X.env) :: starEach [] X.env := by rfl) (hpl : (backTo pos (starEach [] X.env)).any (·.1) = false := by rfl) :
    PMk X (.Call (.Name "Oversized" p) [a] [] pos) (tMkLow "limit" C ta) := by
  intro pins s σ H Q I h
  refine wpAny_Call_Name_kw (ld_glob I hg T.gC ?_)
  refine PySem.W.callWith_K (h₀ := X.base) I.ok.mod.kin T.kC (thn (ha.run pos pins s σ H _ I h) fun us s1 hh => ?_) he hpl
  obtain ⟨vs, H1, I1, r1, z, ev, q1⟩ := hh
  subst ev
  refine ⟨I1.kIn, ?_⟩
  cases r1 with
  | cons rv rn =>
    rename_i v' us'
    cases rn
    obtain ⟨tz, rfl⟩ := rv
    show wpAny _ _ (call (.ref C) [Value.str z tz]) _ _ _
    have hlim := I1.nolimit
    have hmod : s1.heap.Ns mainGlobals X.mg := I1.mod.glob.keeps I1.bk
    obtain ⟨mb, h1, h2⟩ := I1.mod.blt
    have hblt : ∃ mb, s1.heap.Ns builtinsNs mb ∧ ∀ y : Str, y ≠ "__name__" → mb y = bootBuiltins y := ⟨mb, h1.keeps I1.bk, h2⟩
    obtain ⟨hp, g, dr, tk, os⟩ := s1
    refine wpAny_call (PySem.LowO.low_made T I1.kIn hlim hmod hblt (by have := hr.dp; omega) fun h' tk' e d M => ?_)
    exact mkp_low (f := "limit") (v := V.str z) I1 M ⟨tz, rfl⟩ (raises_own T.exC T.tyC) (q1 d (I1.hok.fresh M.dbig))
end
end L2

set_option Elab.async false
set_option linter.all false
set_option maxRecDepth 100000
set_option maxHeartbeats 2000000
/-! # The small defs: is_output, is_row, whole, row, wide, take, pool -/
namespace K34
open PySem PySem.Spec PyProof.Rows L2
open C8 (pss_cut)
/-! ### plain functions -/
def win (lo hi v : Int) : Bool := decide (lo ≤ v) && decide (v ≤ hi)
def okR (n : Int) (r : List Int) : Bool := decide (r.length = 2) && r.all (win 0 (n - 1))
theorem win_lt {n v : Int} : win 0 (n - 1) v = (decide (0 ≤ v) && decide (v < n)) := by
  unfold win
  have e : (v ≤ n - 1) = (v < n) := propext ⟨fun h => by omega, fun h => by omega⟩
  simp only [e]
theorem nd_int {n m : Int} : (!decide (V.int n = V.int m)) = !decide (n = m) := congrArg (!·) (decide_eq_decide.mpr ⟨V.int.inj, congrArg V.int⟩)
theorem get_int {r : List Int} {i : Nat} {y : V} (h : (r.map V.int)[i]? = some y) : ∃ v, r[i]? = some v ∧ y = V.int v := by
  rw [List.getElem?_map] at h
  cases e : r[i]? with
  | none =>
    rw [e] at h
    cases h
  | some v =>
    rw [e] at h
    exact ⟨v, rfl, (Option.some.inj h).symm⟩
theorem all_bad {r : List Int} {i : Nat} {v : Int} {p : Int → Bool} (h : r[i]? = some v) (e : p v = false) : r.all p = false := by
  cases z : r.all p with
  | false => rfl
  | true =>
    have y := List.all_eq_true.mp z v (List.mem_of_getElem? h)
    rw [e] at y
    cases y
theorem all_step {r : List Int} {i : Nat} {v : Int} {p : Int → Bool} (h : r[i]? = some v) (a : ∀ v, v ∈ r.take i → p v = true) (e : p v = true) : ∀ v, v ∈ r.take (i + 1) → p v = true := fun x hx => by
  rw [List.take_add_one, h] at hx
  rcases List.mem_append.mp hx with hx | hx
  · exact a x hx
  · have z : x = v := by simpa using hx
    rw [z]
    exact e
/-! ### what the top has written: a def, under its name -/
structure Hd (K : PySem.W.Frag) (mg : Str → Option Value) (x : Str) (st : Stmt) (ps : List Str) (f : Addr) (fd : FuncData) : Prop where
  F : Fun K x x st f fd
  g : mg x = some (.ref f)
  b : Binds K fd ps []
/-- the built-in names that are not the module's; its two constants -/
structure Nm (mg : Str → Option Value) : Prop where
  isi : mg "isinstance" = none
  int : mg "int" = none
  bool : mg "bool" = none
  list : mg "list" = none
  len : mg "len" = none
  all : mg "all" = none
  range : mg "range" = none
  abs : mg "abs" = none
  min : mg "min" = none
  max : mg "max" = none
  most : ∃ t, mg "MOST" = some (.int 9 t)
  cap : ∃ t, mg "MAX_STATES" = some (.int 40 t)
theorem scIsOut : FnScope ["value"] ["value"] (defScope sIsOut) := ⟨rfl, rfl, rfl, by decide +kernel, rfl, by decide +kernel, by decide +kernel⟩
theorem scIsRow : FnScope ["row", "states", "state"] ["row", "states"] (defScope sIsRow) := ⟨rfl, rfl, rfl, by decide +kernel, rfl, by decide +kernel, by decide +kernel⟩
theorem scWhole : FnScope ["_law_value", "_law_least", "_law_most"] ["_law_value", "_law_least", "_law_most"] (defScope sWhole) := ⟨rfl, rfl, rfl, by decide +kernel, rfl, by decide +kernel, by decide +kernel⟩
theorem scRow : FnScope ["_law_row_here", "_law_size"] ["_law_row_here", "_law_size"] (defScope sRow) := ⟨rfl, rfl, rfl, by decide +kernel, rfl, by decide +kernel, by decide +kernel⟩
theorem scWide : FnScope ["_law_script", "_law_k", "_law_cell", "_law_mixed"] ["_law_script", "_law_k"] (defScope sWide) := ⟨rfl, rfl, rfl, by decide +kernel, rfl, by decide +kernel, by decide +kernel⟩
theorem scTake : FnScope ["_law_pool_here", "_law_most", "_law_taken"] ["_law_pool_here", "_law_most"] (defScope sTake) := ⟨rfl, rfl, rfl, by decide +kernel, rfl, by decide +kernel, by decide +kernel⟩
theorem scPool : FnScope ["_law_script"] ["_law_script"] (defScope sPool) := ⟨rfl, rfl, rfl, by decide +kernel, rfl, by decide +kernel, by decide +kernel⟩
/-! ### expressions -/
section
variable {X : Cx}
theorem boot_bool' : bootBuiltins "bool" = some (.type "bool") := by decide +kernel
theorem isI_int {K : PySem.W.Frag} : PySem.W.kitOne K (.type "int") (.type "int") = some true := kit_ty (by decide +kernel)
theorem isB_int {K : PySem.W.Frag} : PySem.W.kitOne K (.type "int") (.type "bool") = some false := kit_ty (by decide +kernel)
theorem isL_list {K : PySem.W.Frag} : PySem.W.kitOne K (.type "list") (.type "list") = some true := kit_ty (by decide +kernel)
end
section
variable {P : Program} {w : World} {K : PySem.W.Frag} {mg : Str → Option Value} {base : Heap}
/-! ### the promises -/
def spIsOut : Sp := fun vs H Q _ => ∃ v : Int, vs = [.int v] ∧ Q (.bl (win 0 9 v)) H
def spWhole : Sp := fun vs H Q _ => ∃ v lo hi : Int, vs = [.int v, .int lo, .int hi] ∧ Q (.bl (win lo hi v)) H
def spRowOk : Sp := fun vs H Q _ => ∃ (a : Addr) (r : List Int) (n : Int), vs = [.ref a, .int n] ∧ H a = some (.lst (r.map V.int)) ∧ Q (.bl (okR n r)) H
theorem ok_isOut {f : Addr} {fd : FuncData} (F : Hd K mg "is_output" sIsOut ["value"] f fd) (T : Nm mg) : FnOk P w K mg base CX0 1 f fd ["value"] spIsOut := by
  refine F.F.ok scIsOut (fun vs H Q E h => ?_) (fun cdv A outer s H vs Q E hr h => ?_)
  · obtain ⟨v, rfl, _⟩ := h
    rfl
  · obtain ⟨v, rfl, q⟩ := h
    obtain ⟨t9, h9⟩ := T.most
    refine ⟨_, pss_one (ps_ret (pe_and (pe_callB call_isi (by rfl) T.isi (by decide +kernel) (pa_cons (pv 0) (pa_cons (pe_bltn (v := .ty "int") (by rfl) T.int (by decide +kernel) rfl) pa_nil)))
      (pe_and (pe_not (pe_callB call_isi (by rfl) T.isi (by decide +kernel) (pa_cons (pv 0) (pa_cons (pe_bltn (v := .ty "bool") (by rfl) T.bool boot_bool' rfl) pa_nil))))
        (pe_one (pe_chain op_le op_le pe_int (pv 0) (pe_glob (v := .int 9) rfl h9 ⟨_, rfl⟩)))))), ?_⟩
    refine ⟨_, rfl, _, _, _, _, true, rfl, .ty _, .base (.int _), isI_int, true, rfl, iteT ?_⟩
    refine ⟨_, rfl, _, _, _, _, false, rfl, .ty _, .base (.int _), isB_int, false, rfl, true, rfl, iteT ?_⟩
    refine ⟨_, rfl, _, _, rfl, rfl, _, rfl, ite2 (fun h => ?_) (fun h => ?_)⟩
    · refine ⟨_, _, rfl, rfl, ?_⟩
      have e : win 0 9 v = decide (v ≤ 9) := by unfold win; rw [h, Bool.true_and]
      rw [e] at q
      exact q
    · have e : win 0 9 v = false := by unfold win; rw [Bool.eq_false_iff.mpr h, Bool.false_and]
      rw [e] at q
      exact q
theorem ok_whole {f : Addr} {fd : FuncData} (F : Hd K mg "_law_whole" sWhole ["_law_value", "_law_least", "_law_most"] f fd) (T : Nm mg) : FnOk P w K mg base CX0 1 f fd ["_law_value", "_law_least", "_law_most"] spWhole := by
  refine F.F.ok scWhole (fun vs H Q E h => ?_) (fun cdv A outer s H vs Q E hr h => ?_)
  · obtain ⟨v, lo, hi, rfl, _⟩ := h
    rfl
  · obtain ⟨v, lo, hi, rfl, q⟩ := h
    refine ⟨_, pss_one (ps_ret (pe_and (pe_callB call_isi (by rfl) T.isi (by decide +kernel) (pa_cons (pv 0) (pa_cons (pe_bltn (v := .ty "int") (by rfl) T.int (by decide +kernel) rfl) pa_nil)))
      (pe_and (pe_not (pe_callB call_isi (by rfl) T.isi (by decide +kernel) (pa_cons (pv 0) (pa_cons (pe_bltn (v := .ty "bool") (by rfl) T.bool boot_bool' rfl) pa_nil))))
        (pe_one (pe_chain op_le op_le (pv 1) (pv 0) (pv 2)))))), ?_⟩
    refine ⟨_, rfl, _, _, _, _, true, rfl, .ty _, .base (.int _), isI_int, true, rfl, iteT ?_⟩
    refine ⟨_, rfl, _, _, _, _, false, rfl, .ty _, .base (.int _), isB_int, false, rfl, true, rfl, iteT ?_⟩
    refine ⟨_, rfl, _, rfl, _, _, rfl, rfl, _, rfl, ite2 (fun h => ?_) (fun h => ?_)⟩
    · refine ⟨_, rfl, _, _, rfl, rfl, ?_⟩
      have e : win lo hi v = decide (v ≤ hi) := by unfold win; rw [h, Bool.true_and]
      rw [e] at q
      exact q
    · have e : win lo hi v = false := by unfold win; rw [Bool.eq_false_iff.mpr h, Bool.false_and]
      rw [e] at q
      exact q
theorem ok_isRow {f : Addr} {fd : FuncData} (F : Hd K mg "is_row" sIsRow ["row", "states"] f fd) (T : Nm mg) : FnOk P w K mg base CX0 1 f fd ["row", "states"] spRowOk := by
  refine F.F.ok scIsRow (fun vs H Q E h => ?_) (fun cdv A outer s H vs Q E hr h => ?_)
  · obtain ⟨a, r, n, rfl, _⟩ := h
    rfl
  · obtain ⟨a, r, n, rfl, hS, q⟩ := h
    refine ⟨_, pss_cons (ps_if (PW.pt (pw_or (pt_not (pt_val (pe_callB call_isi (by rfl) T.isi (by decide +kernel) (pa_cons (pv 0) (pa_cons (pe_bltn (v := .ty "list") (by rfl) T.list (by decide +kernel) rfl) pa_nil)))))
        (pw_or1 (pt_cmpR op_ne (pe_callB call_len_seq (by rfl) T.len PySem.boot_len (pa_cons (pv 0) pa_nil)) pe_int (nomark _))))) (pss_one (ps_ret pe_bl)) pss_nil)
      (pss_cons (ps_for PassesOwn.never rfl (pi_list (pv 0)) (pg_name (i := 2) scIsRow.nd rfl (Or.inl rfl))
        (pss_one (ps_if (PW.pt (pw_or (pt_not (pt_val (pe_callB call_isi (by rfl) T.isi (by decide +kernel) (pa_cons (pv 2) (pa_cons (pe_bltn (v := .ty "int") (by rfl) T.int (by decide +kernel) rfl) pa_nil)))))
          (pw_or (pt_val (pe_callB call_isi (by rfl) T.isi (by decide +kernel) (pa_cons (pv 2) (pa_cons (pe_bltn (v := .ty "bool") (by rfl) T.bool boot_bool' rfl) pa_nil))))
            (pw_or1 (pt_not (pt_chain op_le op_lt pe_int (pv 2) (pv 1))))))) (pss_one (ps_ret pe_bl)) pss_nil)))
      (pss_one (ps_ret pe_bl))), ?_⟩
    refine ⟨_, rfl, _, _, _, _, true, rfl, .ty _, .base (.lst hS), isL_list, true, rfl, iteF ?_⟩
    refine ⟨_, rfl, _, _, rfl, .inl (SqL.of hS), rfl, _, rfl, ite2 (fun h => ?_) (fun h => ?_)⟩
    · -- not of two
      rw [nd_int, List.length_map] at h
      have e : okR n r = false := by
        unfold okR
        have z : ¬ r.length = 2 := fun z => by rw [z] at h; exact absurd h (by decide)
        rw [decide_eq_false z, Bool.false_and]
      rw [e] at q
      exact q
    · rw [nd_int, List.length_map] at h
      have h2 : r.length = 2 := by
        by_cases z : ((r.length : Nat) : Int) = 2
        · omega
        · rw [decide_eq_false z] at h
          exact absurd rfl h
      have eo : okR n r = r.all (win 0 (n - 1)) := by
        unfold okR
        rw [decide_eq_true h2, Bool.true_and]
      refine ⟨_, rfl, a, rfl, ⟨_, SqL.of hS⟩, for_list (K := K) (a := a) (xs := r.map V.int) (fun i σ H' => ∃ y, σ = [some (.ref a), some (.int n), y] ∧ H' = H ∧ ∀ v, v ∈ r.take i → win 0 (n - 1) v = true)
        ⟨none, rfl, rfl, fun v hv => absurd hv (by simp)⟩ (fun i σ H' _ ⟨_, _, e, _⟩ => by rw [e]; exact SqL.of hS) ?_ ?_⟩
      · rintro i y σ H' hi ⟨y0, rfl, rfl, hall⟩
        obtain ⟨v, hv, rfl⟩ := get_int hi
        refine ⟨_, rfl, _, _, _, _, true, rfl, .ty _, .base (.int _), isI_int, true, rfl, iteF ?_⟩
        refine ⟨_, rfl, _, _, _, _, false, rfl, .ty _, .base (.int _), isB_int, false, rfl, iteF ?_⟩
        refine ⟨_, rfl, _, _, rfl, rfl, _, rfl, ite2 (fun h0 => ?_) (fun h0 => ?_)⟩
        · refine ⟨_, rfl, _, _, rfl, rfl, _, rfl, ite2 (fun h1 => ?_) (fun h1 => ?_)⟩
          · have e : win 0 (n - 1) v = false := by
              rw [win_lt, h0, Bool.true_and]
              exact Bool.not_eq_true' _ |>.mp h1
            rw [eo, all_bad hv e] at q
            exact q
          · have e : win 0 (n - 1) v = true := by
              rw [win_lt, h0, Bool.true_and]
              cases z : decide (v < n) with
              | true => rfl
              | false => rw [z] at h1; exact absurd rfl h1
            exact ⟨_, rfl, rfl, all_step hv hall e⟩
        · refine ⟨_, rfl, iteT ?_⟩
          have e : win 0 (n - 1) v = false := by
            rw [win_lt, Bool.eq_false_iff.mpr h0, Bool.false_and]
          rw [eo, all_bad hv e] at q
          exact q
      · rintro σ H' ⟨y0, rfl, rfl, hall⟩
        rw [List.length_map, List.take_length] at hall
        have e : r.all (win 0 (n - 1)) = true := List.all_eq_true.mpr hall
        rw [eo, e] at q
        exact q
theorem ok_row {f fW : Addr} {fd fdW : FuncData} (F : Hd K mg "_law_row" sRow ["_law_row_here", "_law_size"] f fd) (T : Nm mg) (W : Hd K mg "_law_whole" sWhole ["_law_value", "_law_least", "_law_most"] fW fdW) :
    FnOk P w K mg base CX0 2 f fd ["_law_row_here", "_law_size"] spRowOk := by
  have G : FnOk P w K mg base CX0 1 fW fdW ["_law_value", "_law_least", "_law_most"] spWhole := ok_whole W T
  refine F.F.ok scRow (fun vs H Q E h => ?_) (fun cdv A outer s H vs Q E hr h => ?_)
  · obtain ⟨a, r, n, rfl, _⟩ := h
    rfl
  · obtain ⟨a, r, n, rfl, hS, q⟩ := h
    refine ⟨_, pss_cons (ps_if (PW.pt (pw_or (pt_not (pt_val (pe_callB call_isi (by rfl) T.isi (by decide +kernel) (pa_cons (pv 0) (pa_cons (pe_bltn (v := .ty "list") (by rfl) T.list (by decide +kernel) rfl) pa_nil)))))
        (pw_or1 (pt_cmpR op_ne (pe_callB call_len_seq (by rfl) T.len PySem.boot_len (pa_cons (pv 0) pa_nil)) pe_int (nomark _))))) (pss_one (ps_ret pe_bl)) pss_nil)
      (pss_one (ps_ret (pe_and (pe_call G hr rfl W.g W.F.kp W.b .nil pass0 (pa_cons (pe_ix ix_list (pv 0) pe_int (fun _ _ => rfl)) (pa_cons pe_int (pa_cons (pe_op op_sub (pv 1) pe_int) pa_nil))))
        (pe_one (pe_call G hr rfl W.g W.F.kp W.b .nil pass0 (pa_cons (pe_ix ix_list (pv 0) pe_int (fun _ _ => rfl)) (pa_cons pe_int (pa_cons (pe_op op_sub (pv 1) pe_int) pa_nil)))))))), ?_⟩
    refine ⟨_, rfl, _, _, _, _, true, rfl, .ty _, .base (.lst hS), isL_list, true, rfl, iteF ?_⟩
    refine ⟨_, rfl, _, _, rfl, .inl (SqL.of hS), rfl, _, rfl, ite2 (fun h => ?_) (fun h => ?_)⟩
    · rw [nd_int, List.length_map] at h
      have e : okR n r = false := by
        unfold okR
        have z : ¬ r.length = 2 := fun z => by rw [z] at h; exact absurd h (by decide)
        rw [decide_eq_false z, Bool.false_and]
      rw [e] at q
      exact q
    · rw [nd_int, List.length_map] at h
      have h2 : r.length = 2 := by
        by_cases z : ((r.length : Nat) : Int) = 2
        · omega
        · rw [decide_eq_false z] at h
          exact absurd rfl h
      obtain ⟨x, y, rfl⟩ : ∃ x y, r = [x, y] := by
        match r, h2 with
        | [x, y], _ => exact ⟨x, y, rfl⟩
      have eo : okR n [x, y] = (win 0 (n - 1) x && win 0 (n - 1) y) := by
        show (true && (win 0 (n - 1) x && (win 0 (n - 1) y && true))) = _
        rw [Bool.true_and, Bool.and_true]
      refine ⟨_, rfl, a, _, _, _, rfl, rfl, SqL.of hS, atI_nat (j := 0) rfl, _, rfl, _, _, rfl, rfl, x, 0, n - 1, rfl, _, rfl, ite2 (fun h0 => ?_) (fun h0 => ?_)⟩
      · refine ⟨_, rfl, a, _, _, _, rfl, rfl, SqL.of hS, atI_nat (j := 1) rfl, _, rfl, _, _, rfl, rfl, y, 0, n - 1, rfl, ?_⟩
        rw [eo, h0, Bool.true_and] at q
        exact q
      · rw [eo, Bool.eq_false_iff.mpr h0, Bool.false_and] at q
        exact q
/-! ### the drawn numbers -/
/-- the pool: at p a list of a number, the script's copy (at sp), a place -/
structure Pool (H : Hp) (p sp : Addr) (ns : List Int) : Prop where
  at_ : ∃ a k : Int, H p = some (.lst [.int a, .ref sp, .int k]) ∧ -1 ≤ k
  src : H sp = some (.lst (ns.map V.int))
  ne : sp ≠ p
def spWide (K : PySem.W.Frag) : Sp := fun vs H Q _ => ∃ (a : Addr) (ns : List Int) (k : Int), vs = [.ref a, .int k] ∧ SqL K H a (ns.map V.int) ∧ 0 ≤ k ∧ ∀ r : Int, Q (.int r) H
def spTake : Sp := fun vs H Q _ => ∃ (p sp : Addr) (ns : List Int) (m : Int), vs = [.ref p, .int m] ∧ Pool H p sp ns ∧ 0 < m ∧ m ≤ 1000 ∧
  ∀ (H' : Hp) (r : Int), (∀ b, b ≠ p → H' b = H b) → Pool H' p sp ns → 0 ≤ r → r < m → Q (.int r) H'
def spPool (K : PySem.W.Frag) : Sp := fun vs H Q _ => ∃ (a : Addr) (ns : List Int), vs = [.ref a] ∧ SqL K H a (ns.map V.int) ∧
  ∀ (H' : Hp) (p sp : Addr), Same H H' → H p = none → H sp = none → Pool H' p sp ns → Q (.ref p) H'
theorem ok_wide {f : Addr} {fd : FuncData} (F : Hd K mg "_law_wide" sWide ["_law_script", "_law_k"] f fd) (T : Nm mg) : FnOk P w K mg base CX0 1 f fd ["_law_script", "_law_k"] (spWide K) := by
  refine F.F.ok scWide (fun vs H Q E h => ?_) (fun cdv A outer s H vs Q E hr h => ?_)
  · obtain ⟨a, ns, k, rfl, _⟩ := h
    rfl
  · obtain ⟨a, ns, k, rfl, hS, hk, q⟩ := h
    refine ⟨_, pss_cons (ps_set (i := 2) scWide.nd rfl (Or.inl rfl) pe_int)
      (pss_cut (ps_if (pt_cmpR op_lt (pv 1) (pe_callB call_len_seq (by rfl) T.len PySem.boot_len (pa_cons (pv 0) pa_nil)) (nomark _))
        (pss_one (ps_set (i := 2) scWide.nd rfl (Or.inl rfl) (pe_callB call_abs (by rfl) T.abs (by decide +kernel) (pa_cons (pe_ix ix_list (pv 0) (pv 1) (fun _ _ => rfl)) pa_nil)))) pss_nil)
      (pss_cons (ps_if (pt_cmpR op_ge (pv 2) pe_int (nomark _)) (pss_one (ps_ret (pv 2))) pss_nil)
      (pss_cons (ps_set (i := 3) scWide.nd rfl (Or.inl rfl) (pe_op op_mod (pe_callTy call_int1 (by rfl) T.int (by decide +kernel)
        (pa_cons (pe_op op_add (pe_op op_mul (pe_op op_add (pv 2) pe_int) pe_int) (pe_op op_mul (pe_op op_add (pv 1) pe_int) pe_int)) pa_nil)) pe_int))
      (pss_one (ps_ret (pe_op op_mod (pe_callTy call_int1 (by rfl) T.int (by decide +kernel)
        (pa_cons (pe_op op_add (pe_op op_mul (pv 3) pe_int) (pe_op op_fdiv (pv 3) pe_int)) pa_nil)) pe_int)))))), ?_⟩
    refine ⟨fun σ' H' => ∃ c : Int, σ' = [some (.ref a), some (.int k), some (.int c), none] ∧ H' = H, ?_, ?_⟩
    · refine ⟨_, rfl, _, rfl, _, _, rfl, .inl hS, _, _, rfl, rfl, _, rfl, ite2 (fun h => ?_) (fun h => ?_)⟩
      · have h := of_decide_eq_true h
        rw [List.length_map] at h
        obtain ⟨j, rfl⟩ : ∃ j : Nat, k = (j : Int) := ⟨k.toNat, by omega⟩
        have hj : j < ns.length := by omega
        have g : (ns.map V.int)[j]? = some (.int ns[j]) := by
          rw [List.getElem?_map, List.getElem?_eq_getElem hj]
          rfl
        refine ⟨_, rfl, _, rfl, a, _, _, _, rfl, rfl, hS, atI_nat g, _, rfl, ?_⟩
        exact ⟨_, rfl, rfl⟩
      · exact ⟨_, rfl, rfl⟩
    · rintro σ' H' ⟨c, rfl, rfl⟩
      refine ⟨_, rfl, _, _, rfl, rfl, _, rfl, ite2 (fun h => ?_) (fun h => ?_)⟩
      · exact ⟨_, rfl, q _⟩
      · refine ⟨_, rfl, _, _, rfl, rfl, _, _, rfl, rfl, .inr (by decide), _, rfl, _, _, rfl, rfl, _, _, rfl, rfl, .inr (by decide), _, _, rfl, rfl, .inl ⟨_, rfl, ?_⟩⟩
        refine ⟨_, _, rfl, rfl, (by show (0 : Int) < 2305843009213693951; decide), ?_⟩
        refine ⟨_, rfl, _, _, rfl, rfl, .inr (by decide), _, rfl, _, _, rfl, rfl, ⟨by decide, by decide⟩, _, _, rfl, rfl, .inl ⟨_, rfl, ?_⟩⟩
        exact ⟨_, _, rfl, rfl, (by show (0 : Int) < 2305843009213693951; decide), q _⟩
theorem ok_take {f fW : Addr} {fd fdW : FuncData} (F : Hd K mg "_law_take" sTake ["_law_pool_here", "_law_most"] f fd) (T : Nm mg) (W : Hd K mg "_law_wide" sWide ["_law_script", "_law_k"] fW fdW) :
    FnOk P w K mg base CX0 2 f fd ["_law_pool_here", "_law_most"] spTake := by
  have G : FnOk P w K mg base CX0 1 fW fdW ["_law_script", "_law_k"] (spWide K) := ok_wide W T
  refine F.F.ok scTake (fun vs H Q E h => ?_) (fun cdv A outer s H vs Q E hr h => ?_)
  · obtain ⟨p, sp, ns, m, rfl, _⟩ := h
    rfl
  · obtain ⟨p, sp, ns, m, rfl, hP, hm, hm2, q⟩ := h
    obtain ⟨a0, k0, hp, hk⟩ := hP.at_
    refine ⟨_, pss_cut (ps_if (pt_cmpR op_lt (pe_ix ix_list (pv 0) pe_int (fun _ _ => rfl)) pe_int (nomark _))
        (pss_cons (ps_asg (pe_op op_add (pe_ix ix_list (pv 0) pe_int (fun _ _ => rfl)) pe_int) (pg_sub (pv 0) pe_int set_list))
        (pss_one (ps_asg (pe_call G hr rfl W.g W.F.kp W.b .nil pass0 (pa_cons (pe_ix ix_list (pv 0) pe_int (fun _ _ => rfl)) (pa_cons (pe_ix ix_list (pv 0) pe_int (fun _ _ => rfl)) pa_nil))) (pg_sub (pv 0) pe_int set_list)))) pss_nil)
      (pss_cons (ps_set (i := 2) scTake.nd rfl (Or.inl rfl) (pe_op op_mod (pe_callTy call_int1 (by rfl) T.int (by decide +kernel) (pa_cons (pe_ix ix_list (pv 0) pe_int (fun _ _ => rfl)) pa_nil)) (pv 1)))
      (pss_cons (ps_asg (pe_op op_fdiv (pe_ix ix_list (pv 0) pe_int (fun _ _ => rfl)) (pv 1)) (pg_sub (pv 0) pe_int set_list))
      (pss_one (ps_ret (pv 2))))), ?_⟩
    refine ⟨fun σ' H' => ∃ a k : Int, σ' = [some (.ref p), some (.int m), none] ∧ (∀ b, b ≠ p → H' b = H b) ∧ H' p = some (.lst [.int a, .ref sp, .int k]) ∧ -1 ≤ k, ?_, ?_⟩
    · refine ⟨_, rfl, p, _, _, _, rfl, rfl, SqL.of hp, atI_nat (j := 0) rfl, _, _, rfl, rfl, _, rfl, ite2 (fun h => ?_) (fun h => ?_)⟩
      · -- the next place
        refine ⟨_, rfl, p, _, _, _, rfl, rfl, SqL.of hp, atI_nat (j := 2) rfl, _, _, rfl, rfl, ?_⟩
        refine ⟨_, rfl, p, _, _, 2, rfl, rfl, hp, rfl, ?_⟩
        have u1 : upd H p (.lst ([V.int a0, .ref sp, .int k0].set 2 (.int (k0 + 1)))) p = some (.lst [.int a0, .ref sp, .int (k0 + 1)]) := upd_same
        have hs : upd H p (.lst ([V.int a0, .ref sp, .int k0].set 2 (.int (k0 + 1)))) sp = some (.lst (ns.map V.int)) := by
          rw [upd_ne hP.ne]
          exact hP.src
        refine ⟨_, rfl, p, _, _, _, rfl, rfl, SqL.of u1, atI_nat (j := 1) rfl, _, rfl, p, _, _, _, rfl, rfl, SqL.of u1, atI_nat (j := 2) rfl, sp, ns, k0 + 1, rfl, SqL.of hs, by omega, fun r => ?_⟩
        refine ⟨_, rfl, p, _, _, 0, rfl, rfl, u1, rfl, ?_⟩
        refine ⟨r, k0 + 1, rfl, fun b hb => ?_, upd_same, by omega⟩
        rw [upd_ne hb, upd_ne hb]
      · exact ⟨a0, k0, rfl, fun _ _ => rfl, hp, hk⟩
    · rintro σ' H1 ⟨a, k, rfl, hn, h1, hk1⟩
      refine ⟨_, rfl, p, _, _, _, rfl, rfl, SqL.of h1, atI_nat (j := 0) rfl, .inl ⟨_, rfl, ?_⟩⟩
      refine ⟨_, rfl, _, _, rfl, rfl, hm, ?_⟩
      refine ⟨_, rfl, p, _, _, _, rfl, rfl, SqL.of h1, atI_nat (j := 0) rfl, _, rfl, _, _, rfl, rfl, ⟨hm, by omega⟩, ?_⟩
      refine ⟨_, rfl, p, _, _, 0, rfl, rfl, h1, rfl, ?_⟩
      refine ⟨_, rfl, q _ _ (fun b hb => by rw [upd_ne hb]; exact hn b hb) ⟨⟨_, _, upd_same, hk1⟩, ?_, hP.ne⟩ (Int.emod_nonneg _ (by omega)) (Int.emod_lt_of_pos _ hm)⟩
      rw [upd_ne hP.ne, hn _ hP.ne]
      exact hP.src
theorem ok_pool {f : Addr} {fd : FuncData} (F : Hd K mg "_law_pool" sPool ["_law_script"] f fd) (T : Nm mg) : FnOk P w K mg base CX0 1 f fd ["_law_script"] (spPool K) := by
  refine F.F.ok scPool (fun vs H Q E h => ?_) (fun cdv A outer s H vs Q E hr h => ?_)
  · obtain ⟨a, ns, rfl, _⟩ := h
    rfl
  · obtain ⟨a, ns, rfl, hS, q⟩ := h
    refine ⟨_, pss_one (ps_ret (pe_lst (pa_cons pe_int (pa_cons (pe_callTy call_list_of (by rfl) T.list (by decide +kernel) (pa_cons (pv 0) pa_nil)) (pa_cons (pe_un un_neg pe_int) pa_nil))))), ?_⟩
    refine ⟨_, rfl, a, _, rfl, .inl hS, fun sp nsp => ?_⟩
    refine ⟨_, rfl, (by show 3 ≤ sizeLine; decide), fun p np => ?_⟩
    have ne : sp ≠ p := fun e => by
      rw [← e, upd_same] at np
      cases np
    have np0 : H p = none := by
      rw [upd_ne ne.symm] at np
      exact np
    refine q _ p sp (fun b o e => ?_) np0 nsp ⟨⟨_, _, upd_same, by decide⟩, by rw [upd_ne ne, upd_same], ne⟩
    rw [upd_ne (ne_of_none e np0), upd_ne (ne_of_none e nsp)]
    exact e
end
end K34

set_option Elab.async false
set_option linter.all false
set_option maxRecDepth 100000
set_option maxHeartbeats 4000000
/-! # Three rules: isinstance of a caught error that has a dict; a class made whose __init__ may raise; a try with named clauses -/
namespace K34
open PySem PySem.Spec PySem.Calls PyProof.Rows PySem.W
section
variable {prog : Program} {w : World} {A : Around} {E : Value → Shared → Prop} {s : Shared} {K : Frag} {x D : Addr} {ox : Obj} {od : Option Obj}
theorem found_data {C : Addr} {name : Str} {a g : Value} (hc : (clsIn K C).isSome = true) (ha : findIn K (.ref C) name = some (some a)) (hg : specialIn K a "__get__" = some (some g)) (ht : takesIn K a = some true) :
    findObj K C od name = some (.bind g a) := by
  obtain ⟨cd, hc⟩ := Option.isSome_iff_exists.mp hc
  unfold findObj
  rw [hc, Option.bind_some, ha, Option.bind_some]
  simp [hg, ht]
/-- e.__class__, e an own exception, whatever its dict holds -/
theorem class_of_exc {Q : Option Value → Shared → Prop} (c : L2.ExcC K D) (X : K.In s.heap) (I : InstAt s.heap x ox D od) (h : Q (some (.ref D)) { s with toks := s.toks + 1 }) :
    wpAny (model prog w) A (getAttr? (.ref x) "__class__") Q E s := by
  have hf : findObj K D od "__class__" = some (.bind (.builtin "getset_descriptor.__get__") (.builtin "object.__class__")) :=
    found_data (by obtain ⟨cd, hc, _⟩ := any_some c.hd; rw [hc]; rfl) c.ha c.hn c.ht
  obtain ⟨hp, g, d, t, os⟩ := s
  have A0 := I.type (M := model prog w)
  have A1 := looks_findIn (M := model prog w) X c.hg
  have A2 := looks_findIn (M := model prog w) X c.hk
  have A3 := looks_find (M := model prog w) X I hf
  have sub : Looks (model prog w) hp (isInstance (.ref x) (.type "BaseException")) true := A0.andThen (looks_subIn X c.hs)
  have n2 : (Value.builtin "BaseException.__getattribute__" == Value.builtin "object.__getattribute__") = false := by decide +kernel
  have n1 : (onTheHeap (Value.ref D) && Value.builtin "BaseException.__getattribute__" == Value.builtin "object.__getattribute__") = false := by rw [n2]; rfl
  unfold getAttr? getAttrBy? getAttrBy
  refine wpAny_bind (wpAny_mkText (wpAny_bind (wpAny_attempt (wpAny_holding (wpAny_bind (A0.at (wpAny_bind (A1.at ?_))))))))
  show wpAny _ _ (if (onTheHeap (Value.ref D) && Value.builtin "BaseException.__getattribute__" == Value.builtin "object.__getattribute__") = true then _ else _) _ _ _
  rw [n1, if_neg Bool.false_ne_true]
  unfold getAttrByItsOwn hookBefore
  refine wpAny_bind ?_
  rw [if_pos (show onTheHeap (Value.ref D) = true from rfl)]
  refine A2.at (wpAny_bind (wpAny_attempt (wpAny_holding ?_)))
  unfold callGetattribute
  rw [show (false && onTheHeap (Value.builtin "BaseException.__getattribute__")) = false from rfl, if_neg Bool.false_ne_true]
  unfold boundAndCalled
  rw [PySem.F.excAttr_ValueError.ga.bind (.ref x)]
  refine wpAny_bind (wpAny_pure ?_)
  show wpAny _ _ (call (.builtin "BaseException.__getattribute__") [.ref x, .str "__class__" t]) _ _ _
  refine wpAny_call (codeAny_call_builtin PySem.F.excAttr_ValueError.ga.plain PySem.F.entry_bexc_ga ?_)
  refine @check_slot (model prog w) _ _ ⟨hp, g, d, t + 1, os⟩ "BaseException.__getattribute__" "BaseException" "__getattribute__" (.ref x) [.str "__class__" t] [] _ (by decide +kernel) (by decide +kernel) sub (PySem.F.args_bexc_ga (.ref x) (.str "__class__" t)) ?_
  unfold Builtin.«object.__getattribute__»
  refine wpAny_bind (wpAny_of_eq (a := ((Value.ref x : Value), [Value.str "__class__" t])) (by first | rfl | (simp only [slotArgs]; rfl)) ?_)
  refine wpAny_bind (wpAny_pure (wpAny_bind (A0.at (wpAny_bind (A3.at ?_)))))
  show wpAny _ _ (holding [Value.builtin "object.__class__"] (call (.builtin "getset_descriptor.__get__") [.builtin "object.__class__", .ref x, .ref D]) >>= ret) _ _ _
  refine wpAny_bind (wpAny_holding (wpAny_call (class_get (s := ⟨hp, g, d, t + 1, os⟩) (ox := ox) (od := od) X I c.hm ?_)))
  refine wpAny_pure ?_
  show wpAny _ _ (handedOut (.ref D)) _ _ _
  rw [handedOut_of (v := .ref D) rfl]
  first
    | exact wpAny_pure (wpAny_pure h)
    | exact wpAny_pure h
    | exact wpAny_pure (wpAny_bind (wpAny_pure (wpAny_pure h)))
theorem kit_exc (c : L2.ExcC K D) : KitX K (.ref x) (.ref D) (fun h => InstAt h x ox D od) where
  ty := fun _ _ _ I => I.type
  it := fun _ _ X _ => by
    obtain ⟨cdD, hcD, _⟩ := any_some c.hd
    unfold clsIn at hcD
    split at hcD
    · rename_i c' d' cd' sl' ho
      intro A' Q' E' s' k q
      unfold isType loadHead
      exact wpAny_bind (wpAny_loadPart (k _ _ (X _ _ ho)) (wpAny_pure q))
    · cases hcD
  ne := fun h tp dd its n sl X htp => by
    obtain ⟨cdD, hcD, _⟩ := any_some c.hd
    refine Bool.eq_false_iff.mpr fun q => ?_
    have e : D = tp := Value.ref.inj (beq_iff_eq.mp q)
    subst e
    unfold clsIn at hcD
    split at hcD
    · rename_i c' d' cd' sl' ho
      have z := (X _ _ ho).symm.trans htp
      cases z
    · cases hcD
  ca := fun X I k => class_of_exc c X I k
end
end K34
namespace K34
open PySem PySem.Spec L2
open PyProof.Rows hiding St
/-- isinstance(e, c), e the exception that the suite holds (at a, its class at D, its dict at dx) -/
def rIsX (K : PySem.W.Frag) (D a : Addr) (cls : Value) (d : Option Addr) : List V → Hp → VK → Prop := fun xs H Q => ∃ (c : V) (cv : Value) (b : Bool) (dx : Addr) (fs : List (Str × V)), xs = [.ref a, c] ∧ cls = .ref D ∧ d = some dx ∧ (∀ u, RelV c u → u = cv) ∧ PySem.W.kitOne K (.ref D) cv = some b ∧ H dx = some (.xd fs) ∧ Q (.bl b) H
theorem call_isX {X : Cx} {a D : Addr} {oe : Obj} {cls : Value} {d : Option Addr} {pn : List (Addr × Obj)} (C : ExcC X.K D) (hz : Zc cls d oe) (hf : ∃ vs, oe.data = .fields vs) : CallR (X.suite a ((a, oe) :: pn)) (.builtin "isinstance") (rIsX X.K D a cls d) := by
  intro pins s σ H xs us Q I r h
  obtain ⟨c, cv, b, dx, fs, rfl, rfl, rfl, hcv, e, hd, q⟩ := h
  cases r with
  | cons rx rr =>
    cases rr with
    | cons rt rr =>
      cases rr
      cases rx
      have ec := hcv _ rt
      subst ec
      obtain ⟨hget, _⟩ := I.pin (a, oe) (List.mem_append.mpr (.inl List.mem_cons_self))
      obtain ⟨vs, hv⟩ := hf
      have hx : ObjOk X.prog X.w H s.heap dx (.xd fs) := I.hok dx _ hd
      obtain ⟨mA, hns, _⟩ := hx
      obtain ⟨o, es, ep, ho, _⟩ := hns
      have J : PySem.W.InstAt s.heap a oe D (some o) := by
        obtain ⟨oc, od, oda, osl⟩ := oe
        obtain ⟨h1, h2⟩ := hz
        dsimp only at h1 h2 hv
        subst h1 h2 hv
        exact ⟨hget, rfl, rfl, ho⟩
      exact PySem.W.kia_one (kit_exc C) I.kIn J e (fun z => nomatch z) fun tk => ⟨.bl b, H, I.kept (t' := tk) fun _ _ z => z, rfl, q⟩
/-! ### C(e, ..) where C.__init__ may raise -/
section
variable {X : Cx} {CX : CXT} {k : Nat} {f C : Addr} {fd : FuncData} {ps : List Str} {sp : Sp} {E : St → XK} {x : Str} {p pos : Pos} {e : Expr} {es : List Expr} {t : TA}
def tMakeS (C : Addr) (sp : Sp) (E : St → XK) (t : TA) : TE := fun σ H Q => t σ H fun vs H1 => ∀ x dx, H1 x = none → H1 dx = none → dx ≠ x →
  sp (.ref x :: vs) (upd (upd H1 dx (.own x)) x (.ins C dx [])) (fun v H2 => v = .non ∧ Q (.ref x) H2) (E σ)
theorem pe_makeS (M : Mk X.K C f) (F : FnOk X.prog X.w X.K X.mg X.base CX k f fd ps sp) (hr : Room (k + 1) X.A) (hg : Gl X x) (hm : X.mg x = some (.ref C)) (hb : Binds X.K fd ps []) (hx : ∀ σ, PassesAt CX X σ (E σ))
    (ha : PA X (e :: es) t) (hdb : (x == ("__debug__" : Str)) = false := by decide) (he : starEach (e :: es) X.env = (false, eval e X.env) :: starEach es X.env := by rfl) (hpl : (backTo pos (starEach es X.env)).any (·.1) = false := by rfl) :
    PE X (.Call (.Name x p) (e :: es) [] pos) (tMakeS C sp E t) := by
  refine ⟨fun pins s σ H Q I h => wpAny_Call_Name_kw (ld_glob I hg hm (PySem.W.callWith_K (h₀ := X.base) I.ok.mod.kin M.kp (thn (ha.run pos pins s σ H _ I h) fun us s1 hh => ?_) he hpl) hdb)⟩
  obtain ⟨vs, H1, I1, r, q⟩ := hh
  refine ⟨I1.kIn, ?_⟩
  have hq := q (s1.heap.objs.size + 1) s1.heap.objs.size (I1.hok.fresh (Nat.le_succ _)) (I1.hok.fresh (Nat.le_refl _)) (Nat.ne_of_lt (Nat.lt_succ_self _))
  have I2 := Inv.made (C := C) I1
  have r2 : Vals (V.ref (s1.heap.objs.size + 1) :: vs) (Value.ref (s1.heap.objs.size + 1) :: us) := .cons rfl r
  have hl : (Value.ref (s1.heap.objs.size + 1) :: us).length = ps.length := r2.length.symm.trans (F.len _ _ _ _ hq)
  have bd := hb _ (Value.ref (s1.heap.objs.size + 1) :: us) I2.kIn (by rw [List.append_nil]; exact hl)
  rw [List.append_nil] at bd
  show wpAny _ _ (call (.ref C) us) _ _ _
  refine wpAny_call (make_map (f := f) I1.kIn M.makes M.init (beq_iff_eq.mp M.fn) (codeAny_mono (F.run _ X.stack _ _ ⟨Value.ref (s1.heap.objs.size + 1) :: us, []⟩ _ _ _ (E σ) (hr.make C us []) (I2.env0.make C us []) bd r2 hq) fun r s' hq' => ?_))
  match r, hq' with
  | .error er, hq' => exact hx σ pins _ _ er s' I2 hq'
  | .ok (.ret u), hq' =>
    obtain ⟨v, H', I3, rv, ev, q3⟩ := I2.after hq'
    subst ev
    exact ⟨rv, V.ref (s1.heap.objs.size + 1), H', I3, rfl, q3⟩
end
/-! ### try: .. except X as n: .. except Y as n: .. (one name in all clauses) -/
/-- what the clauses wish of an exception, one after the other; slot i is the name's -/
def wNamed (K : PySem.W.Frag) (i : Nat) (Wout : WX) (D : Ends) : List (Value × (Addr → Value → Option Addr → TS)) → WX
  | [] => Wout
  | (c, ts) :: r => fun cls d σ H => ∃ b, PySem.W.exmOne K cls c = some b ∧
      (b = true → ∀ a, H a = none → ts a cls d { nx := fun σ' H' => D.nx (σ'.set i none) H', rt := D.rt, bk := fun σ' H' => D.bk (σ'.set i none) H', ct := fun σ' H' => D.ct (σ'.set i none) H' } (σ.set i (some (.ref a))) H) ∧
      (b = false → wNamed K i Wout D r cls d σ H)
inductive NamedOk (X : Cx) (n : Str) : List ExceptHandler → List (Value × (Addr → Value → Option Addr → TS)) → Prop
  | nil : NamedOk X n [] []
  | cons {x : Str} {c : Value} {ts : Addr → Value → Option Addr → TS} {b₀ : Stmt} {suite : List Stmt} {np hp : Pos} {hds : List ExceptHandler} {l : List (Value × (Addr → Value → Option Addr → TS))} (hc : Names X x c)
      (hsu : ∀ (a : Addr) (oe : Obj) (cls : Value) (d : Option Addr) (pn : List (Addr × Obj)), Zc cls d oe → (∃ vs, oe.data = .fields vs) → PSs (X.suite a ((a, oe) :: pn)) (b₀ :: suite) (ts a cls d)) (r : NamedOk X n hds l) :
      NamedOk X n (.ExceptHandler (some (.Name x np)) (some n) (b₀ :: suite) hp :: hds) ((c, ts) :: l)
section
variable {X : Cx} {n : Str} {i : Nat} {body : List Stmt} {h₀ : ExceptHandler} {hds : List ExceptHandler} {l : List (Value × (Addr → Value → Option Addr → TS))} {pos : Pos} {tb : WX → TS} {Wout : WX}
theorem ps_try_named (hs : X.stack = X.env :: X.outer) (hf : X.env.frame = some X.env.locals) (hN : X.N.Nodup) (hi : X.N[i]? = some n) (hln : X.env.kindOf n = some .local) (tk : Takes X Wout)
    (hb : ∀ (W : WX) (pn : List (Addr × Obj)) (xe : Value → Shared → Prop), Takes (X.tr pn xe) W → PassesOwn (model X.prog X.w) X.A X.env xe → PSs (X.tr pn xe) body (tb W))
    (hh : NamedOk X n (h₀ :: hds) l) : PS X (.Try body (h₀ :: hds) [] [] pos) (fun D σ H => tb (wNamed X.K i Wout D l) D σ H) := by
  refine ⟨fun pins s σ H D I h => wpAny_Try_except ?_⟩
  have ok := I.ok
  have hfr : X.A.frames = some (X.env :: X.outer) := by rw [ok.frames, hs]
  have hloc : Loc X.env.scope n := .inl hln
  refine wpAny_mono ((hb (wNamed X.K i Wout D l) (X.pn ++ pins) (fun e s₁ => wpAny (model X.prog X.w) X.A (noteFrame e X.env) (fun _ s₂ => wpAny (model X.prog X.w) X.A (setFlight e none) (fun _ s₃ =>
    wpAny (model X.prog X.w) X.A (handleBy e X.env (h₀ :: hds)) (SP X pins D) X.xe s₃) X.xe s₂) X.xe s₁) (fun u s' xx => ?_) PassesOwn.looking).run [] s σ H D (I.toTry _) h) (fun f s1 hsp => ?_) (fun e s1 he => he)
  · obtain ⟨a, B, sI, pins', σ', H', cls, d, rfl, J', nb, up, sky, na, os, ag, w⟩ := xx
    have J : Inv X pins σ' H' sI := J'.ofTry ok
    rw [show (X.tr (X.pn ++ pins) _).stack = X.env :: X.outer from hs] at sky
    show wpAny (model X.prog X.w) X.A (noteFrame (.ref a) X.env) _ _ _
    refine Sky.land Zc.steady hfr hf sky fun h3 fl3 up3 => ?_
    have J3 : Inv X pins σ' H' { s' with heap := h3 } := J.landed nb fl3.1 (up.trans up3) os ag
    obtain ⟨oe3, vs3, he3, hz3, hd3⟩ := fl3.there
    have nfr : a ∉ frs (X.env :: X.outer) := fun hm => by
      obtain ⟨_, o', e', hnf⟩ := fl3.2.2.1.mem hm
      rw [he3] at e'; cases e'
      exact hnf _ hd3
    have nL : a ≠ X.env.locals := fun z => nfr (List.mem_filterMap.mpr ⟨X.env, List.mem_cons_self, by rw [hf, z]⟩)
    have nF : a ∉ X.fs := fun hm => by
      obtain ⟨e, he, q⟩ := List.mem_filterMap.mp hm
      exact nfr (List.mem_filterMap.mpr ⟨e, List.mem_cons_of_mem _ he, q⟩)
    have S3 := J3.suite he3 hd3 na nL nF
    have LT : PySem.W.Looks (model X.prog X.w) h3 (typeOf (.ref a)) cls := fun A Q E s k q => wpAny_typeOf_ref (k _ _ he3) (by rw [hz3.1]; exact q)
    have go : ∀ {hds' : List ExceptHandler} {l' : List (Value × (Addr → Value → Option Addr → TS))}, NamedOk X n hds' l' → wNamed X.K i Wout D l' cls d σ' H' →
        wpAny (model X.prog X.w) X.A (handleBy (.ref a) X.env hds') (SP X pins D) X.xe { s' with heap := h3 } := by
      intro hds' l' hk
      induction hk with
      | nil =>
        intro w
        obtain ⟨k1, k2, k3, oe, vs, T, oT, ts', he, hz, hd, h1, hr⟩ := id fl3
        refine wpAny_handleBy_nil ?_
        unfold PySem.passOn
        refine wpAny_bind (wpAny_field he hd h1 ?_)
        rw [if_neg (show ¬ ((Value.ref T == Value.none) = true) from by simp)]
        have fin : wpAny (model X.prog X.w) X.A (setFlight (.ref a) X.env.frame) (fun _ s4 => wpAny (model X.prog X.w) X.A (throw (.ref a) : Sem Flow) (SP X pins D) X.xe s4) X.xe { s' with heap := h3 } := by
          rw [hf]
          refine HandSPX.setFlight_upZ fl3 fun h4 hh4 up4 => wpAny_throw (tk _ _ ⟨a, B, sI, pins, σ', H', cls, d, rfl, J, nb, (up.trans up3).trans up4, .inr (.inr (by rw [hs]; exact hh4)), na, os, ag, w⟩)
        first
          | exact wpAny_bind (wpAny_pure (wpAny_bind fin))
          | exact wpAny_bind fin
      | @cons x c ts b₀ suite np hp hds2 l2 hc hsu r ih =>
        intro w
        obtain ⟨b, hb1, hyes, hno⟩ := w
        have LM := PySem.W.exm_one (M := model X.prog X.w) (J3.kIn) LT hb1
        have test : ∀ {Q : Value → Shared → Prop} {E : Value → Shared → Prop}, Q c { s' with heap := h3 } → wpAny (model X.prog X.w) (X.A.mark (some (.ref a))) (eval (.Name x np) X.env) Q E { s' with heap := h3 } := fun {Q E} q => by
          obtain ⟨hg, hdbg, hm | ⟨hm, hv, hnn⟩⟩ := hc
          · exact ld_glob (X := X.suite a ((a, oe3) :: (X.pn ++ pins))) S3 hg hm q hdbg
          · exact ld_blt (X := X.suite a ((a, oe3) :: (X.pn ++ pins))) S3 hg hm hv q hnn hdbg
        refine wpAny_handleBy_cons (codeAny_handlers_test (test (LM.here ?_))) (by intro q; cases q)
        cases b with
        | false => exact ih (hno rfl)
        | true =>
          refine codeAny_handlers_suite_as (HandSPX.lands_againZ fl3 fun h4 fl4 up4 => ?_)
          have J4 : Inv X pins σ' H' { s' with heap := h4 } := J.landed nb fl4.1 ((up.trans up3).trans up4) os ag
          obtain ⟨oe4, vs4, he4, hz4, hd4⟩ := fl4.there
          have S4 := J4.suite he4 hd4 na nL nF
          refine store_ok (X := X.suite a ((a, oe4) :: (X.pn ++ pins))) (v := .ref a) S4 hN hi hloc rfl (fun s5 S5 => ?_) (.inr hln)
          refine wpAny_mono ((hsu a oe4 cls d (X.pn ++ pins) hz4 ⟨_, hd4⟩).run [] s5 _ H' _ S5 (hyes rfl a na)) (fun f s6 hsp => ?_) (fun _ _ z => False.elim z)
          have out : ∀ {σ6 : St} {H6 : Hp} {Q : Shared → Prop}, Inv (X.suite a ((a, oe4) :: (X.pn ++ pins))) [] σ6 H6 s6 → (∀ s7, Inv X pins (σ6.set i none) H6 s7 → Q s7) →
              wpAny (model X.prog X.w) X.A (do bindName X.env n .none; unbindBehindTheSuite X.env n hp) (fun _ s7 => Q s7) X.xe s6 := fun {σ6 H6 Q} S6 hq => gone_ok (S6.unsuite ok) hN hi hln hq
          cases f with
          | ret u =>
            obtain ⟨v6, σ6, H6, S6, r6, q6⟩ := hsp
            exact out S6 fun s7 J7 => ⟨_, _, _, J7, r6, q6⟩
          | next =>
            obtain ⟨σ6, H6, S6, q6⟩ := hsp
            exact out S6 fun s7 J7 => ⟨_, _, J7, q6⟩
          | brk =>
            obtain ⟨σ6, H6, S6, q6⟩ := hsp
            exact out S6 fun s7 J7 => ⟨_, _, J7, q6⟩
          | cont =>
            obtain ⟨σ6, H6, S6, q6⟩ := hsp
            exact out S6 fun s7 J7 => ⟨_, _, J7, q6⟩
    exact go hh w
  · cases f with
    | ret u =>
      obtain ⟨v, σ', H', J', r, q⟩ := hsp
      exact ⟨v, σ', H', J'.ofTry ok, r, q⟩
    | next =>
      obtain ⟨σ', H', J', q⟩ := hsp
      exact wpAny_execs_nil ⟨σ', H', J'.ofTry ok, q⟩
    | brk =>
      obtain ⟨σ', H', J', q⟩ := hsp
      exact ⟨σ', H', J'.ofTry ok, q⟩
    | cont =>
      obtain ⟨σ', H', J', q⟩ := hsp
      exact ⟨σ', H', J'.ofTry ok, q⟩
end
end K34

set_option Elab.async false
set_option linter.all false
set_option maxRecDepth 100000
set_option maxHeartbeats 4000000
/-! # The verdict; Told.__init__ -/
namespace K34
open PySem PySem.Spec L2
open PyProof.Rows hiding St
open C8 (pss_cut)
/-! ### the verdict, in plain Lean -/
/-- the output of the state i is that of its successor by 0 -/
def Calm (os : List Int) (rows : List (List Int)) (i : Nat) : Prop := os.getD ((rows.getD i []).getD 0 0).toNat 0 = os.getD i 0
open Classical in
noncomputable def verdict (os : List Int) (rows : List (List Int)) : Option (Str × Str) :=
  if os = [] ∨ os.all (win 0 9) = false then some (("misused" : Str), ("outputs" : Str))
  else if rows.length ≠ os.length ∨ rows.all (okR os.length) = false then some (("misused" : Str), ("table" : Str))
  else if 40 < os.length then some (("oversized" : Str), ("states" : Str))
  else if ∀ i, i < os.length → Calm os rows i then none else some (("misused" : Str), ("settled" : Str))
section
variable {os : List Int} {rows : List (List Int)}
theorem vd1 (h : os = [] ∨ os.all (win 0 9) = false) : verdict os rows = some (("misused" : Str), ("outputs" : Str)) := if_pos h
theorem vd2 (h1 : os ≠ []) (h1' : os.all (win 0 9) = true) (h : rows.length ≠ os.length ∨ rows.all (okR os.length) = false) : verdict os rows = some (("misused" : Str), ("table" : Str)) := by
  unfold verdict
  rw [if_neg (by rintro (z | z); exact h1 z; rw [z] at h1'; cases h1'), if_pos h]
theorem vd3 (h1 : os ≠ []) (h1' : os.all (win 0 9) = true) (h2 : rows.length = os.length) (h2' : rows.all (okR os.length) = true) (h : 40 < os.length) : verdict os rows = some (("oversized" : Str), ("states" : Str)) := by
  unfold verdict
  rw [if_neg (by rintro (z | z); exact h1 z; rw [z] at h1'; cases h1'), if_neg (by rintro (z | z); exact z h2; rw [z] at h2'; cases h2'), if_pos h]
theorem vd4 (h1 : os ≠ []) (h1' : os.all (win 0 9) = true) (h2 : rows.length = os.length) (h2' : rows.all (okR os.length) = true) (h3 : ¬ 40 < os.length) {i : Nat} (hi : i < os.length) (h : ¬ Calm os rows i) : verdict os rows = some (("misused" : Str), ("settled" : Str)) := by
  unfold verdict
  rw [if_neg (by rintro (z | z); exact h1 z; rw [z] at h1'; cases h1'), if_neg (by rintro (z | z); exact z h2; rw [z] at h2'; cases h2'), if_neg h3, if_neg (fun z => h (z i hi))]
theorem vd5 (h1 : os ≠ []) (h1' : os.all (win 0 9) = true) (h2 : rows.length = os.length) (h2' : rows.all (okR os.length) = true) (h3 : ¬ 40 < os.length) (h : ∀ i, i < os.length → Calm os rows i) : verdict os rows = none := by
  unfold verdict
  rw [if_neg (by rintro (z | z); exact h1 z; rw [z] at h1'; cases h1'), if_neg (by rintro (z | z); exact z h2; rw [z] at h2'; cases h2'), if_neg h3, if_pos h]
end
/-! ### the heap: a word's two lists -/
def RowsAt (H : Hp) (as : List Addr) (rows : List (List Int)) : Prop := as.length = rows.length ∧ ∀ (i : Nat) (r : List Int), rows[i]? = some r → ∃ a, as[i]? = some a ∧ H a = some (.lst (r.map V.int))
structure Tab (H : Hp) (o t : Addr) (as : List Addr) (os : List Int) (rows : List (List Int)) : Prop where
  o : H o = some (.lst (os.map V.int))
  t : H t = some (.lst (as.map V.ref))
  rs : RowsAt H as rows
  so : os.length ≤ 100
  st : rows.length ≤ 100
theorem RowsAt.same {H H' : Hp} {as : List Addr} {rows : List (List Int)} (R : RowsAt H as rows) (s : Same H H') : RowsAt H' as rows := ⟨R.1, fun i r e => let ⟨a, h1, h2⟩ := R.2 i r e; ⟨a, h1, s _ _ h2⟩⟩
theorem Tab.same {H H' : Hp} {o t : Addr} {as : List Addr} {os : List Int} {rows : List (List Int)} (T : Tab H o t as os rows) (s : Same H H') : Tab H' o t as os rows := ⟨s _ _ T.o, s _ _ T.t, T.rs.same s, T.so, T.st⟩
theorem same_new {H : Hp} {p : Addr} {ob : HO} (h : H p = none) : Same H (upd H p ob) := fun b x e => by
  rw [upd_ne (ne_of_none e h)]
  exact e
/-- the place i of a word's table -/
theorem RowsAt.get {H : Hp} {as : List Addr} {rows : List (List Int)} (R : RowsAt H as rows) {i : Nat} {y : V} (h : (as.map V.ref)[i]? = some y) : ∃ a r, y = V.ref a ∧ as[i]? = some a ∧ rows[i]? = some r ∧ H a = some (.lst (r.map V.int)) := by
  rw [List.getElem?_map] at h
  cases e : as[i]? with
  | none =>
    rw [e] at h
    cases h
  | some a =>
    rw [e] at h
    have hi : i < rows.length := by
      rw [← R.1]
      exact (List.getElem?_eq_some_iff.mp e).1
    obtain ⟨a', h1, h2⟩ := R.2 i rows[i] (List.getElem?_eq_getElem hi)
    rw [e] at h1
    cases h1
    exact ⟨a, rows[i], (Option.some.inj h).symm, rfl, List.getElem?_eq_getElem hi, h2⟩
theorem map_more {α β : Type} {l : List α} {i : Nat} {x : α} (f : α → β) (h : l[i]? = some x) : (l.take (i + 1)).map f = (l.take i).map f ++ [f x] := by
  rw [List.take_add_one, h, List.map_append]
  rfl
theorem upd2 {H : Hp} {D : Addr} {o u : HO} : upd (upd H D o) D u = upd H D u := upd_upd
/-- a kept row: two states -/
theorem row_two {rows : List (List Int)} {n : Int} (h : rows.all (okR n) = true) {i : Nat} {r : List Int} (e : rows[i]? = some r) : ∃ x y : Int, r = [x, y] ∧ 0 ≤ x ∧ x < n ∧ 0 ≤ y ∧ y < n := by
  have z := List.all_eq_true.mp h r (List.mem_of_getElem? e)
  unfold okR at z
  obtain ⟨z1, z2⟩ := Bool.and_eq_true_iff.mp z
  have l2 : r.length = 2 := of_decide_eq_true z1
  match r, l2, z2 with
  | [x, y], _, z2 =>
    have hx := List.all_eq_true.mp z2 x (by simp)
    have hy := List.all_eq_true.mp z2 y (by simp)
    rw [win_lt] at hx hy
    obtain ⟨a1, a2⟩ := Bool.and_eq_true_iff.mp hx
    obtain ⟨b1, b2⟩ := Bool.and_eq_true_iff.mp hy
    exact ⟨x, y, rfl, of_decide_eq_true a1, of_decide_eq_true a2, of_decide_eq_true b1, of_decide_eq_true b2⟩
/-- list(x), len(x), x[i] within a comprehension's block: the written part by its own name -/
theorem list_in {X : Cx} {K : PySem.W.Frag} (h : X.K = K) : CallR X (.type "list") (fun xs H Q => ∃ p ys, xs = [.ref p] ∧ (SqL K H p ys ∨ SqT K H p ys) ∧ ∀ l, H l = none → Q (.ref l) (upd H l (.lst ys))) := by
  subst h
  exact call_list_of
theorem len_in {X : Cx} {K : PySem.W.Frag} (h : X.K = K) : CallR X (.builtin "len") (fun xs H Q => ∃ p ys, xs = [.ref p] ∧ (SqL K H p ys ∨ SqT K H p ys) ∧ Q (.int ys.length) H) := by
  subst h
  exact call_len_seq
theorem ix_in {X : Cx} {K : PySem.W.Frag} (h : X.K = K) : IxR X (rIxL K) := by
  subst h
  exact ix_list
theorem calm_iff {os : List Int} {rows : List (List Int)} {i : Nat} {x y u v : Int} (hr : rows[i]? = some [x, y]) (hx : os[x.toNat]? = some u) (hi : os[i]? = some v) : Calm os rows i ↔ u = v := by
  unfold Calm
  simp [List.getD_eq_getElem?_getD, hr, hx, hi]
theorem all_id {os : List Int} {p : Int → Bool} {n : Nat} (h : n = os.length) : (((os.take n).map p).all id) = os.all p := by
  rw [h, List.take_length, List.all_map]
  rfl
theorem all_idR {rows : List (List Int)} {p : List Int → Bool} {n : Nat} (h : n = rows.length) : (((rows.take n).map p).all id) = rows.all p := by
  rw [h, List.take_length, List.all_map]
  rfl
theorem scInitT : FnScope ["self", "outputs", "table", "state", "output", "row"] ["self", "outputs", "table"] (defScope sInitT) := ⟨rfl, rfl, rfl, by decide +kernel, rfl, by decide +kernel, by decide +kernel⟩
/-- what the top has written of the errors and of Told -/
structure Txt (P : Program) (K : PySem.W.Frag) (mg : Str → Option Value) (CM fM CO fO CC CT : Addr) : Prop where
  nm : Nm mg
  mi : PySem.LowM.LowTxt P K mg CM fM
  ov : PySem.LowO.LowTxt P K mg CO fO
  gC : mg "Clashing" = some (.ref CC)
  exM : ExcC K CM
  xfM : XfC K CM
  xfO : XfC K CO
  mm : PySem.W.exmOne K (.ref CM) (.ref CM) = some true
  om : PySem.W.exmOne K (.ref CO) (.ref CM) = some false
  oo : PySem.W.exmOne K (.ref CO) (.ref CO) = some true
  mc : PySem.W.kitOne K (.ref CM) (.ref CC) = some false
  gT : mg "Told" = some (.ref CT)
  clT : Cls K CT
  nO : NoAttr K CT "outputs"
  nT : NoAttr K CT "table"
def spInit (CM CO CT : Addr) : Sp := fun vs H Q E => ∃ (x o t dx : Addr) (as : List Addr) (os : List Int) (rows : List (List Int)), vs = [.ref x, .ref o, .ref t] ∧ H x = some (.ins CT dx []) ∧ Tab H o t as os rows ∧
  (∀ (why : Str) (d : Addr) (H' : Hp), verdict os rows = some (("misused" : Str), why) → Same H H' → H' d = some (.xd [("why", .str why)]) → E (.ref CM) (some d) H') ∧
  (∀ (lim : Str) (d : Addr) (H' : Hp), verdict os rows = some (("oversized" : Str), lim) → Same H H' → H' d = some (.xd [("limit", .str lim)]) → E (.ref CO) (some d) H') ∧
  (∀ H' : Hp, verdict os rows = none → (∀ b ob, H b = some ob → b ≠ x → H' b = some ob) → Q .non H')
section
variable {P : Program} {w : World} {K : PySem.W.Frag} {mg : Str → Option Value} {base : Heap} {CM fM CO fO CC CT : Addr}
theorem ok_init {f fA fB : Addr} {fd fdA fdB : FuncData} (F : Fun K "__init__" "Told.__init__" sInitT f fd) (T : Txt P K mg CM fM CO fO CC CT) (A1 : Hd K mg "is_output" sIsOut ["value"] fA fdA) (A2 : Hd K mg "is_row" sIsRow ["row", "states"] fB fdB) :
    FnOk P w K mg base (L2.CX P w) 3 f fd ["self", "outputs", "table"] (spInit CM CO CT) := by
  have G1 : FnOk P w K mg base CX0 1 fA fdA ["value"] spIsOut := ok_isOut A1 T.nm
  have G2 : FnOk P w K mg base CX0 1 fB fdB ["row", "states"] spRowOk := ok_isRow A2 T.nm
  refine F.okX scInitT (fun vs H Q E h => ?_) (fun cdv A outer s H vs Q E hr h => ?_)
  · obtain ⟨x, o, t, dx, as, os, rows, rfl, _⟩ := h
    rfl
  · obtain ⟨x, o, t, dx, as, os, rows, rfl, hX, hT, eM, eO, q⟩ := h
    have hr1 : Room 1 _ := hr.mono (by decide)
    obtain ⟨t40, h40⟩ := T.nm.cap
    refine ⟨_, pss_cons (ps_if (PW.pt (pw_or (pt_not (pt_truth (pv 1) (by intro _; rfl))) (pw_or1 (pt_not (pt_val (pe_callB (cr_all rfl) (by rfl) T.nm.all (by decide +kernel) (pa_cons
          (pe_lc (own := [("output", 4)]) (g := gName 4) (tt := tYes) rfl scInitT.nd (pi_list (pv 1)) (blkOk_by (N := ["self", "outputs", "table", "state", "output", "row"]) (sc := defScope sInitT) (by decide +kernel)) (fun _ _ _ _ _ => pg_name (i := 4) scInitT.nd rfl (Or.inl rfl)) (fun _ _ _ _ _ => pts_nil)
            (fun _ _ _ _ _ => pe_call G1 hr1 rfl A1.g A1.F.kp A1.b .nil pass0 (pa_cons (pv 4) pa_nil))) pa_nil)))))))
        (pss_one (ps_raise rfl (takes_of rfl rfl rfl rfl) (pmk_lowM T.mi hr (by exact (pa_cons pe_str pa_nil))))) pss_nil)
      (pss_cons (ps_if (PW.pt (pw_or (pt_cmpR op_ne (pe_callB call_len_seq (by rfl) T.nm.len PySem.boot_len (pa_cons (pv 2) pa_nil)) (pe_callB call_len_seq (by rfl) T.nm.len PySem.boot_len (pa_cons (pv 1) pa_nil)) (nomark _))
          (pw_or1 (pt_not (pt_val (pe_callB (cr_all rfl) (by rfl) T.nm.all (by decide +kernel) (pa_cons
          (pe_lc (own := [("row", 5)]) (g := gName 5) (tt := tYes) rfl scInitT.nd (pi_list (pv 2)) (blkOk_by (N := ["self", "outputs", "table", "state", "output", "row"]) (sc := defScope sInitT) (by decide +kernel)) (fun _ _ _ _ _ => pg_name (i := 5) scInitT.nd rfl (Or.inl rfl)) (fun _ _ _ _ _ => pts_nil)
            (fun _ _ _ _ _ => pe_call G2 hr1 rfl A2.g A2.F.kp A2.b .nil pass0 (pa_cons (pv 5) (pa_cons (pe_callB (len_in (K := K) rfl) (by rfl) T.nm.len PySem.boot_len (pa_cons (pv 1) pa_nil)) pa_nil)))) pa_nil)))))))
        (pss_one (ps_raise rfl (takes_of rfl rfl rfl rfl) (pmk_lowM T.mi hr (by exact (pa_cons pe_str pa_nil))))) pss_nil)
      (pss_cons (ps_if (pt_cmpR op_gt (pe_callB call_len_seq (by rfl) T.nm.len PySem.boot_len (pa_cons (pv 1) pa_nil)) (pe_glob (v := .int 40) rfl h40 ⟨_, rfl⟩) (nomark _))
        (pss_one (ps_raise rfl (takes_of rfl rfl rfl rfl) (pmk_lowO T.ov hr (by exact (pa_cons pe_str pa_nil))))) pss_nil)
      (pss_cons (ps_for (passes_of rfl) rfl (pi_range1 rfl T.nm.range (pa_cons (pe_callB call_len_seq (by rfl) T.nm.len PySem.boot_len (pa_cons (pv 1) pa_nil)) pa_nil)) (pg_name (i := 3) scInitT.nd rfl (Or.inl rfl))
        (pss_one (ps_if (pt_cmpR op_ne (pe_ix ix_list (pv 1) (pe_ix ix_list (pe_ix ix_list (pv 2) (pv 3) (fun _ _ => rfl)) pe_int (fun _ _ => rfl)) (fun _ _ => rfl)) (pe_ix ix_list (pv 1) (pv 3) (fun _ _ => rfl)) (nomark _))
          (pss_one (ps_raise rfl (takes_of rfl rfl rfl rfl) (pmk_lowM T.mi hr (by exact (pa_cons pe_str pa_nil))))) pss_nil)))
      (pss_cons (ps_fld (pv 0) (pe_callTy (T := "list") call_list_of (by rfl) T.nm.list (by decide +kernel) (pa_cons (pv 1) pa_nil)) rfl)
      (pss_one (ps_fld (pv 0) (pe_lc (own := [("row", 5)]) (g := gName 5) (tt := tYes) rfl scInitT.nd (pi_list (pv 2)) (blkOk_by (N := ["self", "outputs", "table", "state", "output", "row"]) (sc := defScope sInitT) (by decide +kernel)) (fun _ _ _ _ _ => pg_name (i := 5) scInitT.nd rfl (Or.inl rfl)) (fun _ _ _ _ _ => pts_nil)
            (fun _ _ _ _ _ => pe_callTy (T := "list") (list_in (K := K) rfl) (by rfl) T.nm.list (by decide +kernel) (pa_cons (pv 5) pa_nil))) rfl)))))), ?_⟩
    have L0 : (os.map V.int).length = os.length := List.length_map ..
    have L1 : (as.map V.ref).length = rows.length := (List.length_map ..).trans hT.rs.1
    have hso := hT.so
    have hst := hT.st
    -- the first test
    refine ⟨_, rfl, _, .inl ⟨_, SqL.of hT.o, rfl⟩, ite2 (fun h => ?_) (fun h => ?_)⟩
    · have e : os = [] := by
        cases os with
        | nil => rfl
        | cons a r => exact absurd h (by simp)
      exact ⟨_, rfl, fun d hd => eM _ d _ (vd1 (.inl e)) (same_new hd) upd_same⟩
    have ne : os ≠ [] := fun e => by
      rw [e] at h
      exact h rfl
    refine ⟨_, rfl, o, rfl, ⟨_, SqL.of hT.o⟩, fun D hD => lc_list (K := K) (a := o) (xs := os.map V.int) (fun i H' => H' = upd H D (.lst (((os.take i).map (win 0 9)).map V.bl))) rfl
      (fun i H' _ e => by rw [e]; exact SqL.of (by rw [upd_ne (ne_of_none hT.o hD)]; exact hT.o)) ?_ ?_⟩
    · rintro i y H' hi rfl
      obtain ⟨v, hv, rfl⟩ := get_int hi
      refine ⟨rfl, _, rfl, v, rfl, _, upd_same, small1000 (by rw [List.length_map, List.length_map, List.length_take]; omega), ?_⟩
      rw [upd_upd, map_more (win 0 9) hv, List.map_append]
      rfl
    rintro H1 e1
    have s1 : Same H H1 := by
      rw [e1]
      exact same_new hD
    refine ⟨D, _, rfl, SqL.of (by rw [e1]; exact upd_same), _, rfl, ite2 (fun h => ?_) (fun h => ?_)⟩
    · rw [all_id L0] at h
      have z : os.all (win 0 9) = false := by
        cases q : os.all (win 0 9) with
        | false => rfl
        | true => rw [q] at h; exact absurd h (by decide)
      exact ⟨_, rfl, fun d hd => eM _ d _ (vd1 (.inr z)) (s1.trans (same_new hd)) upd_same⟩
    rw [all_id L0] at h
    have ha : os.all (win 0 9) = true := by
      cases q : os.all (win 0 9) with
      | true => rfl
      | false => rw [q] at h; exact absurd rfl h
    clear h e1
    -- the second test
    have T1 := hT.same s1
    refine ⟨_, rfl, t, _, rfl, .inl (SqL.of T1.t), _, rfl, o, _, rfl, .inl (SqL.of T1.o), rfl, _, rfl, ite2 (fun h => ?_) (fun h => ?_)⟩
    · rw [nd_int, L0, L1] at h
      have z : rows.length ≠ os.length := fun z => by
        rw [z] at h
        simp at h
      exact ⟨_, rfl, fun d hd => eM _ d _ (vd2 ne ha (.inl z)) (s1.trans (same_new hd)) upd_same⟩
    have hl : rows.length = os.length := by
      rw [nd_int, L0, L1] at h
      by_cases z : ((rows.length : Nat) : Int) = (os.length : Nat)
      · omega
      · rw [decide_eq_false z] at h
        exact absurd rfl h
    clear h
    refine ⟨_, rfl, t, rfl, ⟨_, SqL.of T1.t⟩, fun D2 hD2 => lc_list (K := K) (a := t) (xs := as.map V.ref) (fun i H' => H' = upd H1 D2 (.lst (((rows.take i).map (okR os.length)).map V.bl))) rfl
      (fun i H' _ e => by rw [e]; exact SqL.of (by rw [upd_ne (ne_of_none T1.t hD2)]; exact T1.t)) ?_ ?_⟩
    · rintro i y H' hi rfl
      obtain ⟨a, r, rfl, haa, hrr, hra⟩ := T1.rs.get hi
      have s2 : Same H1 (upd H1 D2 (.lst (((rows.take i).map (okR os.length)).map V.bl))) := same_new hD2
      refine ⟨rfl, _, rfl, _, rfl, o, _, rfl, .inl (SqL.of (s2 _ _ T1.o)), a, r, os.length, by rw [L0]; rfl, s2 _ _ hra, _, upd_same, small1000 (by rw [List.length_map, List.length_map, List.length_take]; omega), ?_⟩
      rw [upd_upd, map_more (okR os.length) hrr, List.map_append]
      rfl
    rintro H2 e2
    have s2 : Same H H2 := by
      rw [e2]
      exact s1.trans (same_new hD2)
    refine ⟨D2, _, rfl, SqL.of (by rw [e2]; exact upd_same), _, rfl, ite2 (fun h => ?_) (fun h => ?_)⟩
    · rw [all_idR L1] at h
      have z : rows.all (okR os.length) = false := by
        cases q : rows.all (okR os.length) with
        | false => rfl
        | true => rw [q] at h; exact absurd h (by decide)
      exact ⟨_, rfl, fun d hd => eM _ d _ (vd2 ne ha (.inr z)) (s2.trans (same_new hd)) upd_same⟩
    rw [all_idR L1] at h
    have hb : rows.all (okR os.length) = true := by
      cases q : rows.all (okR os.length) with
      | true => rfl
      | false => rw [q] at h; exact absurd rfl h
    clear h e2 T1
    -- the third test
    have T2 := hT.same s2
    refine ⟨_, rfl, o, _, rfl, .inl (SqL.of T2.o), _, _, rfl, rfl, _, rfl, ite2 (fun h => ?_) (fun h => ?_)⟩
    · have z : 40 < os.length := by
        have h := of_decide_eq_true h
        rw [L0] at h
        omega
      exact ⟨_, rfl, fun d hd => eO _ d _ (vd3 ne ha hl hb z) (s2.trans (same_new hd)) upd_same⟩
    have h3 : ¬ 40 < os.length := fun z => h (decide_eq_true (by rw [L0]; omega))
    clear h
    -- the loop over the states
    refine ⟨_, rfl, o, _, rfl, .inl (SqL.of T2.o), _, rfl, by rw [L0]; omega, by rw [L0]; omega, for_range (lo := 0) (fun i σ H' => ∃ y, σ = [some (.ref x), some (.ref o), some (.ref t), y, none, none] ∧ H' = H2 ∧ ∀ j, j < i → Calm os rows j)
      ⟨none, rfl, rfl, fun j hj => absurd hj (Nat.not_lt_zero _)⟩ ?_ ?_⟩
    · rintro i σ H' hi ⟨y0, rfl, rfl, hc⟩
      have hi' : i < os.length := by
        rw [L0] at hi
        omega
      have hir : i < rows.length := by omega
      obtain ⟨a, haa, hra⟩ := T2.rs.2 i rows[i] (List.getElem?_eq_getElem hir)
      obtain ⟨u, v, eu, u0, u1, _, _⟩ := row_two hb (List.getElem?_eq_getElem hir)
      rw [eu] at hra
      have hu : u.toNat < os.length := by omega
      have g1 : (os.map V.int)[u.toNat]? = some (.int os[u.toNat]) := by
        rw [List.getElem?_map, List.getElem?_eq_getElem hu]
        rfl
      have g2 : (os.map V.int)[i]? = some (.int os[i]) := by
        rw [List.getElem?_map, List.getElem?_eq_getElem hi']
        rfl
      have g3 : (as.map V.ref)[i]? = some (.ref a) := by
        rw [List.getElem?_map, haa]
        rfl
      have ci := calm_iff (os := os) (rows := rows) (i := i) (x := u) (y := v) (by rw [List.getElem?_eq_getElem hir, eu]) (List.getElem?_eq_getElem hu) (List.getElem?_eq_getElem hi')
      refine ⟨_, rfl, _, rfl, _, rfl, t, _, _, _, rfl, rfl, SqL.of T2.t, at_of (j := i) (by omega) g3, a, _, _, _, rfl, rfl, SqL.of hra, atI_nat (j := 0) rfl, o, _, _, _, rfl, rfl, SqL.of T2.o, at_of (j := u.toNat) (by omega) g1,
        _, rfl, _, rfl, o, _, _, _, rfl, rfl, SqL.of T2.o, at_of (j := i) (by omega) g2, rfl, _, rfl, ite2 (fun h => ?_) (fun h => ?_)⟩
      · rw [nd_int] at h
        have z : ¬ Calm os rows i := fun z => by
          rw [decide_eq_true (ci.mp z)] at h
          exact absurd h (by decide)
        exact ⟨_, rfl, fun d hd => eM _ d _ (vd4 ne ha hl hb h3 hi' z) (s2.trans (same_new hd)) upd_same⟩
      · rw [nd_int] at h
        have z : Calm os rows i := ci.mpr (by
          by_cases z : os[u.toNat] = os[i]
          · exact z
          · rw [decide_eq_false z] at h
            exact absurd rfl h)
        refine ⟨_, rfl, rfl, fun j hj => ?_⟩
        by_cases e : j = i
        · rw [e]
          exact z
        · exact hc j (by omega)
    rintro σ H' ⟨y0, rfl, rfl, hc⟩
    have hv : verdict os rows = none := vd5 ne ha hl hb h3 fun i hi => hc i (by rw [L0]; omega)
    -- the first field
    have x2 : H' x = some (.ins CT dx []) := s2 _ _ hX
    refine ⟨_, rfl, o, _, rfl, .inl (SqL.of T2.o), fun l hl' => ⟨_, rfl, x, CT, dx, _, rfl, same_new hl' _ _ x2, T.clT, T.nO, (by decide), ?_⟩⟩
    -- the second field
    have ox : o ≠ x := ne_of hT.o hX (by intro z; cases z)
    have tx : t ≠ x := ne_of hT.t hX (by intro z; cases z)
    have k3 : ∀ b ob, H b = some ob → b ≠ x → (upd (upd H' l (.lst (os.map V.int))) x (.ins CT dx (putF "outputs" (.ref l) []))) b = some ob := fun b ob e nb => by
      rw [upd_ne nb, upd_ne (ne_of_none (s2 _ _ e) hl')]
      exact s2 _ _ e
    have x3 : (upd (upd H' l (.lst (os.map V.int))) x (.ins CT dx (putF "outputs" (.ref l) []))) x = some (.ins CT dx (putF "outputs" (.ref l) [])) := upd_same
    generalize (upd (upd H' l (.lst (os.map V.int))) x (.ins CT dx (putF "outputs" (.ref l) []))) = H3 at k3 x3 ⊢
    have t3 := k3 _ _ hT.t tx
    refine ⟨_, rfl, t, rfl, ⟨_, SqL.of t3⟩, fun D3 hD3 => lc_list (K := K) (a := t) (xs := as.map V.ref) (fun i H' => Same H3 H' ∧ ∃ acc, H' D3 = some (.lst acc) ∧ acc.length = i)
      ⟨same_new hD3, _, upd_same, rfl⟩ (fun i H' _ e => SqL.of (e.1 _ _ t3)) ?_ ?_⟩
    · rintro i y H4 hi ⟨s4, acc, hacc, lacc⟩
      obtain ⟨a, r, rfl, haa, hrr, hra⟩ := hT.rs.get hi
      have ax : a ≠ x := ne_of hra hX (by intro z; cases z)
      have hi2 : i < rows.length := (List.getElem?_eq_some_iff.mp hrr).1
      refine ⟨rfl, _, rfl, a, _, rfl, .inl (SqL.of (s4 _ _ (k3 _ _ hra ax))), fun l2 hl2 => ⟨acc, same_new hl2 _ _ hacc, small1000 (by omega), fun b ob e => ?_, _, upd_same, by rw [List.length_append, lacc]; rfl⟩⟩
      rw [upd_ne (ne_of_none e hD3)]
      exact same_new hl2 _ _ (s4 _ _ e)
    rintro H4 ⟨s4, _⟩
    refine ⟨_, rfl, x, CT, dx, _, rfl, s4 _ _ x3, T.clT, T.nT, (by show 1 < 1000; decide), q _ hv fun b ob e nb => ?_⟩
    rw [upd_ne nb]
    exact s4 _ _ (k3 _ _ e nb)
end
end K34

set_option Elab.async false
set_option linter.all false
set_option maxRecDepth 100000
set_option maxHeartbeats 4000000
/-! # The law's own verdict; the program's, as the law tells it -/
namespace K34
open PySem PySem.Spec L2
open PyProof.Rows hiding St
open C8 (pss_cut)
theorem scDue : FnScope ["_law_outputs", "_law_table", "_law_good", "_law_rows", "_law_state", "_law_output", "_law_row_here"] ["_law_outputs", "_law_table"] (defScope sDue) := ⟨rfl, rfl, rfl, by decide +kernel, rfl, by decide +kernel, by decide +kernel⟩
theorem scTold : FnScope ["_law_outputs", "_law_table", "e"] ["_law_outputs", "_law_table"] (defScope sTold) := ⟨rfl, rfl, rfl, by decide +kernel, rfl, by decide +kernel, by decide +kernel⟩
/-- the answer as a value -/
def Ans (H : Hp) (v : V) : Option (Str × Str) → Prop
  | none => v = .non
  | some (a, b) => ∃ p, v = .ref p ∧ H p = some (.tup [.str a, .str b])
def spAns : Sp := fun vs H Q _ => ∃ (o t : Addr) (as : List Addr) (os : List Int) (rows : List (List Int)), vs = [.ref o, .ref t] ∧ Tab H o t as os rows ∧
  ∀ (v : V) (H' : Hp), Same H H' → Ans H' v (verdict os rows) → Q v H'
theorem filter_lt {α : Type} {p : α → Bool} {l : List α} : (l.filter p).length < l.length ↔ l.all p = false := by
  rw [List.length_filter_lt_length_iff_exists]
  constructor
  · rintro ⟨x, hx, hp⟩
    cases q : l.all p with
    | false => rfl
    | true => exact absurd (List.all_eq_true.mp q x hx) hp
  · intro h
    cases q : l.all p with
    | true => rw [q] at h; cases h
    | false =>
      rw [List.all_eq_false] at q
      obtain ⟨x, hx, hp⟩ := q
      exact ⟨x, hx, hp⟩
theorem filter_more {α : Type} {p : α → Bool} {l : List α} {i : Nat} {x : α} (h : l[i]? = some x) : (l.take (i + 1)).filter p = (l.take i).filter p ++ (if p x = true then [x] else []) := by
  rw [List.take_add_one, h, List.filter_append]
  cases q : p x <;> simp [q]
theorem filter_take_le {α : Type} {p : α → Bool} {l : List α} {i : Nat} : ((l.take i).filter p).length ≤ l.length := by
  have h1 := List.length_filter_le p (l.take i)
  have h2 : (l.take i).length ≤ l.length := by rw [List.length_take]; omega
  omega
section
variable {P : Program} {w : World} {K : PySem.W.Frag} {mg : Str → Option Value} {base : Heap} {CM fM CO fO CC CT : Addr}
theorem ok_due {f fA fB : Addr} {fd fdA fdB : FuncData} (F : Hd K mg "_law_due" sDue ["_law_outputs", "_law_table"] f fd) (T : Nm mg) (A1 : Hd K mg "_law_whole" sWhole ["_law_value", "_law_least", "_law_most"] fA fdA)
    (A2 : Hd K mg "_law_row" sRow ["_law_row_here", "_law_size"] fB fdB) : FnOk P w K mg base CX0 3 f fd ["_law_outputs", "_law_table"] spAns := by
  have G1 : FnOk P w K mg base CX0 1 fA fdA ["_law_value", "_law_least", "_law_most"] spWhole := ok_whole A1 T
  have G2 : FnOk P w K mg base CX0 2 fB fdB ["_law_row_here", "_law_size"] spRowOk := ok_row A2 T A1
  refine F.F.ok scDue (fun vs H Q E h => ?_) (fun cdv A outer s H vs Q E hr h => ?_)
  · obtain ⟨o, t, as, os, rows, rfl, _⟩ := h
    rfl
  · obtain ⟨o, t, as, os, rows, rfl, hT, q⟩ := h
    have hr1 : Room 1 _ := hr.mono (by decide)
    refine ⟨_, pss_cons (ps_setLc (i := 2) (own := [("_law_output", 5)]) (g := gName 5) rfl scDue.nd rfl rfl (sw_true rfl rfl rfl (by decide +kernel)) (pi_list (pv 0))
        (blkOk_by (N := ["_law_outputs", "_law_table", "_law_good", "_law_rows", "_law_state", "_law_output", "_law_row_here"]) (sc := defScope sDue) (by decide +kernel)) (fun _ _ _ _ _ => pg_name (i := 5) scDue.nd rfl (Or.inl rfl))
        (fun _ _ _ _ _ => pts_one (pt_val (pe_call G1 hr1 rfl A1.g A1.F.kp A1.b .nil pass0 (pa_cons (pv 5) (pa_cons pe_int (pa_cons pe_int pa_nil)))))) (fun _ _ _ _ _ => pv 5))
      (pss_cons (ps_if (PW.pt (pw_or (pt_not (pt_truth (pv 0) (by intro _; rfl))) (pw_or1 (pt_cmpR op_lt (pe_callB call_len_seq (by rfl) T.len PySem.boot_len (pa_cons (pv 2) pa_nil)) (pe_callB call_len_seq (by rfl) T.len PySem.boot_len (pa_cons (pv 0) pa_nil)) (nomark _)))))
        (pss_one (ps_ret (pe_tup (pa_cons pe_str (pa_cons pe_str pa_nil))))) pss_nil)
      (pss_cons (ps_setLc (i := 3) (own := [("_law_row_here", 6)]) (g := gName 6) rfl scDue.nd rfl rfl (sw_true rfl rfl rfl (by decide +kernel)) (pi_list (pv 1))
        (blkOk_by (N := ["_law_outputs", "_law_table", "_law_good", "_law_rows", "_law_state", "_law_output", "_law_row_here"]) (sc := defScope sDue) (by decide +kernel)) (fun _ _ _ _ _ => pg_name (i := 6) scDue.nd rfl (Or.inl rfl))
        (fun _ _ _ _ _ => pts_one (pt_val (pe_call G2 hr rfl A2.g A2.F.kp A2.b .nil pass0 (pa_cons (pv 6) (pa_cons (pe_callB (len_in (K := K) rfl) (by rfl) T.len PySem.boot_len (pa_cons (pv 0) pa_nil)) pa_nil))))) (fun _ _ _ _ _ => pv 6))
      (pss_cons (ps_if (PW.pt (pw_or (pt_cmpR op_ne (pe_callB call_len_seq (by rfl) T.len PySem.boot_len (pa_cons (pv 1) pa_nil)) (pe_callB call_len_seq (by rfl) T.len PySem.boot_len (pa_cons (pv 0) pa_nil)) (nomark _))
          (pw_or1 (pt_cmpR op_lt (pe_callB call_len_seq (by rfl) T.len PySem.boot_len (pa_cons (pv 3) pa_nil)) (pe_callB call_len_seq (by rfl) T.len PySem.boot_len (pa_cons (pv 1) pa_nil)) (nomark _)))))
        (pss_one (ps_ret (pe_tup (pa_cons pe_str (pa_cons pe_str pa_nil))))) pss_nil)
      (pss_cons (ps_if (pt_cmpR op_gt (pe_callB call_len_seq (by rfl) T.len PySem.boot_len (pa_cons (pv 0) pa_nil)) pe_int (nomark _))
        (pss_one (ps_ret (pe_tup (pa_cons pe_str (pa_cons pe_str pa_nil))))) pss_nil)
      (pss_cons (ps_for PassesOwn.never rfl (pi_range1 rfl T.range (pa_cons (pe_callB call_len_seq (by rfl) T.len PySem.boot_len (pa_cons (pv 0) pa_nil)) pa_nil)) (pg_name (i := 4) scDue.nd rfl (Or.inl rfl))
        (pss_one (ps_if (pt_cmpR op_ne (pe_ix ix_list (pv 0) (pe_ix ix_list (pe_ix ix_list (pv 1) (pv 4) (fun _ _ => rfl)) pe_int (fun _ _ => rfl)) (fun _ _ => rfl)) (pe_ix ix_list (pv 0) (pv 4) (fun _ _ => rfl)) (nomark _))
          (pss_one (ps_ret (pe_tup (pa_cons pe_str (pa_cons pe_str pa_nil))))) pss_nil)))
      (pss_one (ps_ret pe_non))))))), ?_⟩
    have L0 : (os.map V.int).length = os.length := List.length_map ..
    have L1 : (as.map V.ref).length = rows.length := (List.length_map ..).trans hT.rs.1
    have hso := hT.so
    have hst := hT.st
    -- the first comprehension
    refine ⟨_, rfl, o, rfl, ⟨_, SqL.of hT.o⟩, fun D hD => lc_list (K := K) (a := o) (xs := os.map V.int) (fun i H' => H' = upd H D (.lst (((os.take i).filter (win 0 9)).map V.int))) rfl
      (fun i H' _ e => by rw [e]; exact SqL.of (by rw [upd_ne (ne_of_none hT.o hD)]; exact hT.o)) ?_ ?_⟩
    · rintro i y H' hi rfl
      obtain ⟨v, hv, rfl⟩ := get_int hi
      have fm := filter_more (p := win 0 9) hv
      refine ⟨rfl, _, rfl, v, 0, 9, rfl, _, rfl, ite2 (fun h => ?_) (fun h => ?_)⟩
      · refine ⟨_, rfl, _, upd_same, small1000 (by rw [List.length_map]; have := filter_take_le (p := win 0 9) (l := os) (i := i); omega), ?_⟩
        rw [upd_upd, fm, if_pos h, List.map_append]
        rfl
      · rw [fm, if_neg h, List.append_nil]
    rintro H1 e1
    have s1 : Same H H1 := by
      rw [e1]
      exact same_new hD
    have d1 : H1 D = some (.lst ((os.filter (win 0 9)).map V.int)) := by
      rw [e1, upd_same, L0, List.take_length]
    clear e1
    have T1 := hT.same s1
    -- the first test
    refine ⟨_, rfl, _, .inl ⟨_, SqL.of T1.o, rfl⟩, ite2 (fun h => ?_) (fun h => ?_)⟩
    · have e : os = [] := by
        cases os with
        | nil => rfl
        | cons a r => exact absurd h (by simp)
      refine ⟨(by show 2 ≤ sizeLine; decide), fun p hp => q _ _ (s1.trans (same_new hp)) ?_⟩
      rw [vd1 (.inl e)]
      exact ⟨p, rfl, upd_same⟩
    have ne : os ≠ [] := fun e => by
      rw [e] at h
      exact h rfl
    clear h
    refine ⟨_, rfl, D, _, rfl, .inl (SqL.of d1), _, rfl, o, _, rfl, .inl (SqL.of T1.o), _, _, rfl, rfl, _, rfl, ite2 (fun h => ?_) (fun h => ?_)⟩
    · have h := of_decide_eq_true h
      rw [L0, List.length_map] at h
      have z : os.all (win 0 9) = false := filter_lt.mp (by omega)
      refine ⟨(by show 2 ≤ sizeLine; decide), fun p hp => q _ _ (s1.trans (same_new hp)) ?_⟩
      rw [vd1 (.inr z)]
      exact ⟨p, rfl, upd_same⟩
    have ha : os.all (win 0 9) = true := by
      cases z : os.all (win 0 9) with
      | true => rfl
      | false =>
        have y := filter_lt.mpr z
        exact absurd (decide_eq_true (by rw [L0, List.length_map]; omega)) h
    clear h
    -- the second comprehension
    refine ⟨_, rfl, t, rfl, ⟨_, SqL.of T1.t⟩, fun D2 hD2 => lc_list (K := K) (a := t) (xs := as.map V.ref) (fun i H' => ∃ acc, H' = upd H1 D2 (.lst acc) ∧ acc.length = ((rows.take i).filter (okR os.length)).length) ⟨_, rfl, rfl⟩
      (fun i H' _ ⟨acc, e, _⟩ => by rw [e]; exact SqL.of (by rw [upd_ne (ne_of_none T1.t hD2)]; exact T1.t)) ?_ ?_⟩
    · rintro i y H' hi ⟨acc, rfl, hacc⟩
      obtain ⟨a, r, rfl, haa, hrr, hra⟩ := T1.rs.get hi
      have s2 : Same H1 (upd H1 D2 (.lst acc)) := same_new hD2
      have fm := congrArg List.length (filter_more (p := okR os.length) hrr)
      have fl := filter_take_le (p := okR os.length) (l := rows) (i := i)
      refine ⟨rfl, _, rfl, _, rfl, o, _, rfl, .inl (SqL.of (s2 _ _ T1.o)), a, r, os.length, by rw [L0]; rfl, s2 _ _ hra, _, rfl, ite2 (fun h => ?_) (fun h => ?_)⟩
      · refine ⟨_, rfl, _, upd_same, small1000 (by omega), _, upd_upd, ?_⟩
        rw [fm, if_pos h, List.length_append, List.length_append, hacc]
        rfl
      · refine ⟨acc, rfl, ?_⟩
        rw [fm, if_neg h, List.append_nil]
        exact hacc
    rintro H2 ⟨acc, e2, hacc⟩
    have s2 : Same H H2 := by
      rw [e2]
      exact s1.trans (same_new hD2)
    have d2 : H2 D2 = some (.lst acc) := by
      rw [e2]
      exact upd_same
    rw [L1, List.take_length] at hacc
    clear e2
    have T2 := hT.same s2
    -- the second test
    refine ⟨_, rfl, t, _, rfl, .inl (SqL.of T2.t), _, rfl, o, _, rfl, .inl (SqL.of T2.o), rfl, _, rfl, ite2 (fun h => ?_) (fun h => ?_)⟩
    · rw [nd_int, L0, L1] at h
      have z : rows.length ≠ os.length := fun z => by
        rw [z] at h
        simp at h
      refine ⟨(by show 2 ≤ sizeLine; decide), fun p hp => q _ _ (s2.trans (same_new hp)) ?_⟩
      rw [vd2 ne ha (.inl z)]
      exact ⟨p, rfl, upd_same⟩
    have hl : rows.length = os.length := by
      rw [nd_int, L0, L1] at h
      by_cases z : ((rows.length : Nat) : Int) = (os.length : Nat)
      · omega
      · rw [decide_eq_false z] at h
        exact absurd rfl h
    clear h
    refine ⟨_, rfl, D2, _, rfl, .inl (SqL.of d2), _, rfl, t, _, rfl, .inl (SqL.of T2.t), _, _, rfl, rfl, _, rfl, ite2 (fun h => ?_) (fun h => ?_)⟩
    · have h := of_decide_eq_true h
      rw [L1, hacc] at h
      have z : rows.all (okR os.length) = false := filter_lt.mp (by omega)
      refine ⟨(by show 2 ≤ sizeLine; decide), fun p hp => q _ _ (s2.trans (same_new hp)) ?_⟩
      rw [vd2 ne ha (.inr z)]
      exact ⟨p, rfl, upd_same⟩
    have hb : rows.all (okR os.length) = true := by
      cases z : rows.all (okR os.length) with
      | true => rfl
      | false =>
        have y := filter_lt.mpr z
        exact absurd (decide_eq_true (by rw [L1, hacc]; omega)) h
    clear h
    -- the third test
    refine ⟨_, rfl, o, _, rfl, .inl (SqL.of T2.o), _, _, rfl, rfl, _, rfl, ite2 (fun h => ?_) (fun h => ?_)⟩
    · have z : 40 < os.length := by
        have h := of_decide_eq_true h
        rw [L0] at h
        omega
      refine ⟨(by show 2 ≤ sizeLine; decide), fun p hp => q _ _ (s2.trans (same_new hp)) ?_⟩
      rw [vd3 ne ha hl hb z]
      exact ⟨p, rfl, upd_same⟩
    have h3 : ¬ 40 < os.length := fun z => h (decide_eq_true (by rw [L0]; omega))
    clear h
    -- the states
    refine ⟨_, rfl, o, _, rfl, .inl (SqL.of T2.o), _, rfl, by rw [L0]; omega, by rw [L0]; omega, for_range (lo := 0) (fun i σ H' => ∃ y, σ = [some (.ref o), some (.ref t), some (.ref D), some (.ref D2), y, none, none] ∧ H' = H2 ∧ ∀ j, j < i → Calm os rows j)
      ⟨none, rfl, rfl, fun j hj => absurd hj (Nat.not_lt_zero _)⟩ ?_ ?_⟩
    · rintro i σ H' hi ⟨y0, rfl, rfl, hc⟩
      have hi' : i < os.length := by
        rw [L0] at hi
        omega
      have hir : i < rows.length := by omega
      obtain ⟨a, haa, hra⟩ := T2.rs.2 i rows[i] (List.getElem?_eq_getElem hir)
      obtain ⟨u, v, eu, u0, u1, _, _⟩ := row_two hb (List.getElem?_eq_getElem hir)
      rw [eu] at hra
      have hu : u.toNat < os.length := by omega
      have g1 : (os.map V.int)[u.toNat]? = some (.int os[u.toNat]) := by
        rw [List.getElem?_map, List.getElem?_eq_getElem hu]
        rfl
      have g2 : (os.map V.int)[i]? = some (.int os[i]) := by
        rw [List.getElem?_map, List.getElem?_eq_getElem hi']
        rfl
      have g3 : (as.map V.ref)[i]? = some (.ref a) := by
        rw [List.getElem?_map, haa]
        rfl
      have ci := calm_iff (os := os) (rows := rows) (i := i) (x := u) (y := v) (by rw [List.getElem?_eq_getElem hir, eu]) (List.getElem?_eq_getElem hu) (List.getElem?_eq_getElem hi')
      refine ⟨_, rfl, _, rfl, _, rfl, t, _, _, _, rfl, rfl, SqL.of T2.t, at_of (j := i) (by omega) g3, a, _, _, _, rfl, rfl, SqL.of hra, atI_nat (j := 0) rfl, o, _, _, _, rfl, rfl, SqL.of T2.o, at_of (j := u.toNat) (by omega) g1,
        _, rfl, _, rfl, o, _, _, _, rfl, rfl, SqL.of T2.o, at_of (j := i) (by omega) g2, rfl, _, rfl, ite2 (fun h => ?_) (fun h => ?_)⟩
      · rw [nd_int] at h
        have z : ¬ Calm os rows i := fun z => by
          rw [decide_eq_true (ci.mp z)] at h
          exact absurd h (by decide)
        refine ⟨(by show 2 ≤ sizeLine; decide), fun p hp => q _ _ (s2.trans (same_new hp)) ?_⟩
        rw [vd4 ne ha hl hb h3 hi' z]
        exact ⟨p, rfl, upd_same⟩
      · rw [nd_int] at h
        have z : Calm os rows i := ci.mpr (by
          by_cases z : os[u.toNat] = os[i]
          · exact z
          · rw [decide_eq_false z] at h
            exact absurd rfl h)
        refine ⟨_, rfl, rfl, fun j hj => ?_⟩
        by_cases e : j = i
        · rw [e]
          exact z
        · exact hc j (by omega)
    rintro σ H' ⟨y0, rfl, rfl, hc⟩
    refine q _ _ s2 ?_
    rw [vd5 ne ha hl hb h3 fun i hi => hc i (by rw [L0]; omega)]
    exact rfl

/-! ### the program asked within a try of two named clauses -/
def tBody (CM CO CT : Addr) (W : WX) : TS := tSeq (tDrop (tMakeS CT (spInit CM CO CT) (WE W) (tCons (tVar 0) (tCons (tVar 1) tNil)))) (tRet (tC .non))
def tSuiteM (K : PySem.W.Frag) (CM CC a : Addr) (cls : Value) (d : Option Addr) : TS :=
  tSeq (tIfS (tB (tCB (rIsX K CM a cls d) (tCons (tVar 2) (tCons (tC (.ref CC)) tNil)))) (tRet (tTup (tCons (tC (.str "clashing")) (tCons (tC (.str "")) tNil)))) tNext)
    (tRet (tTup (tCons (tC (.str "misused")) (tCons (tXf a cls d CM "why" (tVar 2)) tNil))))
def tSuiteO (CO a : Addr) (cls : Value) (d : Option Addr) : TS := tRet (tTup (tCons (tC (.str "oversized")) (tCons (tXf a cls d CO "limit" (tVar 2)) tNil)))
theorem ok_told {f fI fA fB : Addr} {fd fdI fdA fdB : FuncData} (F : Hd K mg "_law_told" sTold ["_law_outputs", "_law_table"] f fd) (T : Txt P K mg CM fM CO fO CC CT) (FI : Fun K "__init__" "Told.__init__" sInitT fI fdI) (MK : Mk K CT fI)
    (bI : Binds K fdI ["self", "outputs", "table"] []) (A1 : Hd K mg "is_output" sIsOut ["value"] fA fdA) (A2 : Hd K mg "is_row" sIsRow ["row", "states"] fB fdB) : FnOk P w K mg base CX0 5 f fd ["_law_outputs", "_law_table"] spAns := by
  have GI : FnOk P w K mg base (L2.CX P w) 3 fI fdI ["self", "outputs", "table"] (spInit CM CO CT) := ok_init FI T A1 A2
  refine F.F.ok scTold (fun vs H Q E h => ?_) (fun cdv A outer s H vs Q E hr h => ?_)
  · obtain ⟨o, t, as, os, rows, rfl, _⟩ := h
    rfl
  · obtain ⟨o, t, as, os, rows, rfl, hT, q⟩ := h
    refine ⟨_, pss_one (ps_try_named (i := 2) (n := "e") (tb := tBody CM CO CT) (Wout := fun _ _ _ _ => False) (l := [(.ref CM, tSuiteM K CM CC), (.ref CO, tSuiteO CO)]) rfl rfl scTold.nd rfl rfl takes0
      (fun W pn xe tk _ => pss_cons (ps_expr (by exact (pe_makeS MK GI hr rfl T.gT bI (fun σ => passAt tk σ) (by exact (pa_cons (pv 0) (pa_cons (pv 1) pa_nil)))))) (pss_one (ps_ret pe_non)))
      (.cons ⟨rfl, by decide, .inl T.mi.gC⟩ (fun a oe cls d pn hz hf => pss_cons (ps_if (pt_val (pe_callB (call_isX T.exM hz hf) (by rfl) T.nm.isi (by decide +kernel) (by exact (pa_cons (pv 2) (pa_cons (pe_glob (v := .ref CC) rfl T.gC rfl) pa_nil)))))
          (pss_one (ps_ret (pe_tup (pa_cons pe_str (pa_cons pe_str pa_nil))))) pss_nil)
          (pss_one (ps_ret (pe_tup (by exact (pa_cons pe_str (pa_cons (pe_xf T.xfM T.mi.noN hz hf (pv 2)) pa_nil)))))))
        (.cons ⟨rfl, by decide, .inl T.ov.gC⟩ (fun a oe cls d pn hz hf => pss_one (ps_ret (pe_tup (by exact (pa_cons pe_str (pa_cons (pe_xf T.xfO T.ov.noN hz hf (pv 2)) pa_nil)))))) .nil))), ?_⟩
    refine ⟨_, rfl, _, rfl, fun x dx hx hdx hne => ?_⟩
    have s0 : Same H (upd (upd H dx (.own x)) x (.ins CT dx [])) := fun b ob e => by
      rw [upd_ne (ne_of_none e hx), upd_ne (ne_of_none e hdx)]
      exact e
    refine ⟨x, o, t, dx, as, os, rows, rfl, upd_same, hT.same s0, fun why d H' hv sm hd => ?_, fun lim d H' hv sm hd => ?_, fun H' hv kp => ?_⟩
    · refine ⟨true, T.mm, fun _ a ha => ?_, fun z => Bool.noConfusion z⟩
      refine ⟨_, rfl, _, _, false, d, _, rfl, rfl, rfl, fun u r => r, T.mc, hd, _, rfl, iteF ?_⟩
      refine ⟨_, rfl, rfl, rfl, d, _, _, rfl, hd, rfl, (by show 2 ≤ sizeLine; decide), fun p hp => q _ _ ((s0.trans sm).trans (same_new hp)) ?_⟩
      rw [hv]
      exact ⟨p, rfl, upd_same⟩
    · refine ⟨false, T.om, fun z => Bool.noConfusion z, fun _ => ⟨true, T.oo, fun _ a ha => ?_, fun z => Bool.noConfusion z⟩⟩
      refine ⟨_, rfl, rfl, rfl, d, _, _, rfl, hd, rfl, (by show 2 ≤ sizeLine; decide), fun p hp => q _ _ ((s0.trans sm).trans (same_new hp)) ?_⟩
      rw [hv]
      exact ⟨p, rfl, upd_same⟩
    · refine ⟨rfl, q _ _ (fun b ob e => kp b ob (s0 b ob e) (ne_of_none e hx)) ?_⟩
      rw [hv]
      exact rfl
end
end K34

set_option Elab.async false
set_option linter.all false
set_option maxRecDepth 100000
set_option maxHeartbeats 4000000
/-! # The law's words: how they are drawn -/
namespace K34
open PySem PySem.Spec L2
open PyProof.Rows hiding St
open C8 (pss_cut)
theorem RowsAt.keep {H H' : Hp} {as : List Addr} {rows : List (List Int)} (R : RowsAt H as rows) (k : ∀ a, a ∈ as → ∀ ob, H a = some ob → H' a = some ob) : RowsAt H' as rows :=
  ⟨R.1, fun i r e => let ⟨a, h1, h2⟩ := R.2 i r e; ⟨a, h1, k a (List.mem_of_getElem? h1) _ h2⟩⟩
theorem RowsAt.has {H : Hp} {as : List Addr} {rows : List (List Int)} (R : RowsAt H as rows) {a : Addr} (h : a ∈ as) : ∃ ob, H a = some ob := by
  obtain ⟨i, hi, e⟩ := List.mem_iff_getElem.mp h
  have hr : i < rows.length := by
    rw [← R.1]
    exact hi
  obtain ⟨a', h1, h2⟩ := R.2 i rows[i] (List.getElem?_eq_getElem hr)
  rw [List.getElem?_eq_getElem hi, e] at h1
  cases h1
  exact ⟨_, h2⟩
theorem RowsAt.nil {H : Hp} : RowsAt H [] [] := ⟨rfl, fun i r e => by simp at e⟩
theorem RowsAt.push {H : Hp} {as : List Addr} {rows : List (List Int)} (R : RowsAt H as rows) {a : Addr} {r : List Int} (h : H a = some (.lst (r.map V.int))) : RowsAt H (as ++ [a]) (rows ++ [r]) := by
  refine ⟨by rw [List.length_append, List.length_append, R.1]; rfl, fun i r' e => ?_⟩
  by_cases hi : i < rows.length
  · rw [List.getElem?_append_left hi] at e
    obtain ⟨a', h1, h2⟩ := R.2 i r' e
    exact ⟨a', by rw [List.getElem?_append_left (by rw [R.1]; exact hi)]; exact h1, h2⟩
  · rw [List.getElem?_append_right (by omega)] at e
    have hz : i - rows.length = 0 := by
      have q := (List.getElem?_eq_some_iff.mp e).1
      simp at q
      omega
    rw [hz] at e
    have er : r = r' := Option.some.inj e
    refine ⟨a, ?_, by rw [← er]; exact h⟩
    rw [List.getElem?_append_right (by rw [R.1]; omega), R.1, hz]
    rfl
theorem RowsAt.set {H : Hp} {as : List Addr} {rows : List (List Int)} (R : RowsAt H as rows) {j : Nat} {a : Addr} {r : List Int} (hj : j < rows.length) (h : H a = some (.lst (r.map V.int))) : RowsAt H (as.set j a) (rows.set j r) := by
  refine ⟨by rw [List.length_set, List.length_set, R.1], fun i r' e => ?_⟩
  by_cases hi : j = i
  · subst hi
    rw [List.getElem?_set_self hj] at e
    have er : r = r' := Option.some.inj e
    exact ⟨a, List.getElem?_set_self (by rw [R.1]; exact hj), by rw [← er]; exact h⟩
  · rw [List.getElem?_set_ne hi] at e
    obtain ⟨a', h1, h2⟩ := R.2 i r' e
    exact ⟨a', by rw [List.getElem?_set_ne hi]; exact h1, h2⟩
theorem RowsAt.drop {H : Hp} {as : List Addr} {rows : List (List Int)} (R : RowsAt H as rows) : RowsAt H as.dropLast rows.dropLast := by
  refine ⟨by rw [List.length_dropLast, List.length_dropLast, R.1], fun i r e => ?_⟩
  have hi : i < rows.dropLast.length := (List.getElem?_eq_some_iff.mp e).1
  rw [List.length_dropLast] at hi
  rw [List.getElem?_dropLast, if_pos hi] at e
  obtain ⟨a, h1, h2⟩ := R.2 i r e
  exact ⟨a, by rw [List.getElem?_dropLast, if_pos (by rw [R.1]; exact hi)]; exact h1, h2⟩
/-- the law's objects: the pool, the word [outputs, table] at l -/
structure Wd (H : Hp) (p sp l o t : Addr) (ns : List Int) (as : List Addr) (os : List Int) (rows : List (List Int)) : Prop where
  pool : Pool H p sp ns
  hl : H l = some (.lst [.ref o, .ref t])
  tab : Tab H o t as os rows
  nlp : l ≠ p
  nlo : l ≠ o
  nlt : l ≠ t
  nop : o ≠ p
  ntp : t ≠ p
  nto : o ≠ t
  nso : sp ≠ o
  nst : sp ≠ t
  nap : ∀ a, a ∈ as → a ≠ p ∧ a ≠ o ∧ a ≠ t
section
variable {H H' : Hp} {p sp l o t : Addr} {ns : List Int} {as : List Addr} {os : List Int} {rows : List (List Int)}
theorem Pool.keep (P : Pool H p sp ns) (s : Same H H') : Pool H' p sp ns := by
  obtain ⟨a, k, h, hk⟩ := P.at_
  exact ⟨⟨a, k, s _ _ h, hk⟩, s _ _ P.src, P.ne⟩
theorem Wd.grow (W : Wd H p sp l o t ns as os rows) (s : Same H H') : Wd H' p sp l o t ns as os rows :=
  ⟨W.pool.keep s, s _ _ W.hl, W.tab.same s, W.nlp, W.nlo, W.nlt, W.nop, W.ntp, W.nto, W.nso, W.nst, W.nap⟩
theorem Wd.took (W : Wd H p sp l o t ns as os rows) (k : ∀ b, b ≠ p → H' b = H b) (P : Pool H' p sp ns) : Wd H' p sp l o t ns as os rows :=
  ⟨P, by rw [k _ W.nlp]; exact W.hl, ⟨by rw [k _ W.nop]; exact W.tab.o, by rw [k _ W.ntp]; exact W.tab.t, W.tab.rs.keep fun a h ob e => by rw [k _ (W.nap a h).1]; exact e, W.tab.so, W.tab.st⟩, W.nlp, W.nlo, W.nlt, W.nop, W.ntp, W.nto, W.nso, W.nst, W.nap⟩
theorem Wd.outs (W : Wd H p sp l o t ns as os rows) {os' : List Int} {xs : List V} (e : xs = os'.map V.int) (h : os'.length ≤ 100) : Wd (upd H o (.lst xs)) p sp l o t ns as os' rows := by
  obtain ⟨a, k, hp, hk⟩ := W.pool.at_
  subst e
  exact ⟨⟨⟨a, k, by rw [upd_ne W.nop.symm]; exact hp, hk⟩, by rw [upd_ne W.nso]; exact W.pool.src, W.pool.ne⟩, by rw [upd_ne W.nlo]; exact W.hl,
    ⟨upd_same, by rw [upd_ne W.nto.symm]; exact W.tab.t, W.tab.rs.keep fun a h ob e => by rw [upd_ne (W.nap a h).2.1]; exact e, h, W.tab.st⟩, W.nlp, W.nlo, W.nlt, W.nop, W.ntp, W.nto, W.nso, W.nst, W.nap⟩
theorem Wd.tabs (W : Wd H p sp l o t ns as os rows) {as' : List Addr} {rows' : List (List Int)} {xs : List V} (e : xs = as'.map V.ref) (R : RowsAt H as' rows') (ha : ∀ a, a ∈ as' → a ≠ p ∧ a ≠ o ∧ a ≠ t) (h : rows'.length ≤ 100) :
    Wd (upd H t (.lst xs)) p sp l o t ns as' os rows' := by
  obtain ⟨a, k, hp, hk⟩ := W.pool.at_
  subst e
  exact ⟨⟨⟨a, k, by rw [upd_ne W.ntp.symm]; exact hp, hk⟩, by rw [upd_ne W.nst]; exact W.pool.src, W.pool.ne⟩, by rw [upd_ne W.nlt]; exact W.hl,
    ⟨by rw [upd_ne W.nto]; exact W.tab.o, upd_same, R.keep fun a h ob e => by rw [upd_ne (ha a h).2.2]; exact e, W.tab.so, h⟩, W.nlp, W.nlo, W.nlt, W.nop, W.ntp, W.nto, W.nso, W.nst, ha⟩
/-- a new object is none of the law's -/
theorem Wd.new (W : Wd H p sp l o t ns as os rows) {a : Addr} (h : H a = none) : a ≠ p ∧ a ≠ o ∧ a ≠ t := by
  obtain ⟨x, k, hp, hk⟩ := W.pool.at_
  exact ⟨(ne_of_none hp h).symm, (ne_of_none W.tab.o h).symm, (ne_of_none W.tab.t h).symm⟩
end
theorem eq_int {a b : Int} : decide (V.int a = V.int b) = true ↔ a = b := ⟨fun h => V.int.inj (of_decide_eq_true h), fun h => decide_eq_true (congrArg V.int h)⟩
theorem ixN_at {n : Nat} {i : Int} (h0 : 0 ≤ i) (h1 : i < n) : ixN n i = some i.toNat := by
  unfold ixN
  rw [if_pos h0, if_pos h1]
/-- between two of the spoiling ifs: from the k-th on nothing is spoilt yet, if the choice is k or more -/
def MidS (p sp l o t : Addr) (ns os : List Int) (rows : List (List Int)) (c j k : Int) : L2.St → Hp → Prop := fun σ H => σ = [some (.ref p), some (.ref o), some (.ref t), some (.int c), some (.int j)] ∧
  ∃ (as' : List Addr) (os' : List Int) (rows' : List (List Int)), Wd H p sp l o t ns as' os' rows' ∧ os'.length ≤ os.length ∧ rows'.length ≤ rows.length + 1 ∧ (k ≤ c → os' = os ∧ rows' = rows)
theorem scSpoil : FnScope ["_law_pool_here", "_law_outputs", "_law_table", "_law_choice", "_law_at"] ["_law_pool_here", "_law_outputs", "_law_table"] (defScope sSpoil) := ⟨rfl, rfl, rfl, by decide +kernel, rfl, by decide +kernel, by decide +kernel⟩
def spSpoil : Sp := fun vs H Q _ => ∃ (p sp l o t : Addr) (ns : List Int) (as : List Addr) (os : List Int) (rows : List (List Int)), vs = [.ref p, .ref o, .ref t] ∧ Wd H p sp l o t ns as os rows ∧ os.length ≤ 50 ∧ rows.length ≤ 50 ∧
  ∀ (H' : Hp) (as' : List Addr) (os' : List Int) (rows' : List (List Int)), Wd H' p sp l o t ns as' os' rows' → os'.length ≤ os.length → rows'.length ≤ rows.length + 1 → Q .non H'
section
variable {P : Program} {w : World} {K : PySem.W.Frag} {mg : Str → Option Value} {base : Heap}
theorem ok_spoil {f fT fW : Addr} {fd fdT fdW : FuncData} (F : Hd K mg "_law_spoil" sSpoil ["_law_pool_here", "_law_outputs", "_law_table"] f fd) (T : Nm mg) (A : Hd K mg "_law_take" sTake ["_law_pool_here", "_law_most"] fT fdT)
    (AW : Hd K mg "_law_wide" sWide ["_law_script", "_law_k"] fW fdW) : FnOk P w K mg base CX0 3 f fd ["_law_pool_here", "_law_outputs", "_law_table"] spSpoil := by
  have G : FnOk P w K mg base CX0 2 fT fdT ["_law_pool_here", "_law_most"] spTake := ok_take A T AW
  refine F.F.ok scSpoil (fun vs H Q E h => ?_) (fun cdv A' outer s H vs Q E hr h => ?_)
  · obtain ⟨p, sp, l, o, t, ns, as, os, rows, rfl, _⟩ := h
    rfl
  · obtain ⟨p, sp, l, o, t, ns, as, os, rows, rfl, hW, ho, ht, q⟩ := h
    refine ⟨_, pss_cons (ps_set (i := 3) scSpoil.nd rfl (Or.inl rfl) (pe_call G hr rfl A.g A.F.kp A.b .nil pass0 (pa_cons (pv 0) (pa_cons pe_int pa_nil))))
      (pss_cons (ps_set (i := 4) scSpoil.nd rfl (Or.inl rfl) (pe_call G hr rfl A.g A.F.kp A.b .nil pass0 (pa_cons (pv 0) (pa_cons (pe_callB (call_max2 rfl) (by rfl) T.max (by decide +kernel)
        (pa_cons pe_int (pa_cons (pe_callB call_len_seq (by rfl) T.len PySem.boot_len (pa_cons (pv 1) pa_nil)) pa_nil))) pa_nil))))
      (pss_cons (ps_if (PW.pt (pw_or (pt_not (pt_truth (pv 1) (by intro _; rfl))) (pw_or (pt_not (pt_truth (pv 2) (by intro _; rfl))) (pw_or1 (pt_cmpR op_ge (pv 4) (pe_callB call_len_seq (by rfl) T.len PySem.boot_len (pa_cons (pv 2) pa_nil)) (nomark _))))))
        (pss_one ps_retN) pss_nil)
      (pss_cut (ps_if (pt_cmpR op_eq (pv 3) pe_int (nomark _)) (pss_one (ps_asg (pe_ix ix_list (pe_lst (pa_cons pe_int (pa_cons (pe_un un_neg pe_int) (pa_cons pe_int (pa_cons pe_int pa_nil)))))
          (pe_call G hr rfl A.g A.F.kp A.b .nil pass0 (pa_cons (pv 0) (pa_cons pe_int pa_nil))) (fun _ _ => rfl)) (pg_sub (pv 1) (pv 4) set_list))) pss_nil)
      (pss_cut (ps_if (pt_cmpR op_eq (pv 3) pe_int (nomark _)) (pss_one (ps_asg (pe_callTy call_int1 (by rfl) T.int (by decide +kernel) (pa_cons (pe_cmpR op_eq (pe_ix ix_list (pv 1) (pv 4) (fun _ _ => rfl)) pe_int (nomark _)) pa_nil)) (pg_sub (pv 1) (pv 4) set_list))) pss_nil)
      (pss_cut (ps_if (pt_cmpR op_eq (pv 3) pe_int (nomark _)) (pss_one (ps_asg (pe_ix ix_list (pe_lst (pa_cons (pe_lst (pa_cons pe_int pa_nil)) (pa_cons (pe_lst (pa_cons pe_int (pa_cons pe_int (pa_cons pe_int pa_nil)))) (pa_cons (pe_lst pa_nil)
            (pa_cons (pe_lst (pa_cons pe_int (pa_cons (pe_un un_neg pe_int) pa_nil))) (pa_cons (pe_lst (pa_cons pe_int (pa_cons (pe_callB call_len_seq (by rfl) T.len PySem.boot_len (pa_cons (pv 1) pa_nil)) pa_nil))) (pa_cons (pe_lst (pa_cons (pe_un un_neg pe_int) (pa_cons pe_int pa_nil))) pa_nil)))))))
          (pe_call G hr rfl A.g A.F.kp A.b .nil pass0 (pa_cons (pv 0) (pa_cons pe_int pa_nil))) (fun _ _ => rfl)) (pg_sub (pv 2) (pv 4) set_list))) pss_nil)
      (pss_cut (ps_if (pt_cmpR op_eq (pv 3) pe_int (nomark _)) (pss_one (ps_expr (pe_bm PySem.F.plainAttrs_list PySem.F.slot_list_append PySem.F.type_list_append mt_append (pv 2) (pa_cons (pe_lst (pa_cons pe_int (pa_cons pe_int pa_nil))) pa_nil)))) pss_nil)
      (pss_cut (ps_if (pt_cmpR op_eq (pv 3) pe_int (nomark _)) (pss_one (ps_expr (pe_bm0 PySem.F.plainAttrs_list PySem.F.slot_list_pop PySem.F.type_list_pop mt_pop (pv 2)))) pss_nil)
      (pss_cut (ps_if (pt_cmpR op_eq (pv 3) pe_int (nomark _)) (pss_one (ps_expr (pe_bm0 PySem.F.plainAttrs_list PySem.F.slot_list_pop PySem.F.type_list_pop mt_pop (pv 1)))) pss_nil)
      (pss_one (ps_if (pt_cmpR op_eq (pv 3) pe_int (nomark _)) (pss_one (ps_expr (pe_bm0 PySem.F.plainAttrs_list PySem.F.slot_list_clear PySem.F.type_list_clear mt_clear (pv 1)))) pss_nil)))))))))), ?_⟩
    have L0 : (os.map V.int).length = os.length := List.length_map ..
    -- the choice, the place
    refine ⟨_, rfl, p, sp, ns, 9, rfl, hW.pool, by decide, by decide, fun H1 c k1 P1 c0 c9 => ?_⟩
    have W1 := hW.took k1 P1
    refine ⟨_, rfl, _, rfl, o, _, rfl, .inl (SqL.of W1.tab.o), _, _, rfl, p, sp, ns, _, rfl, W1.pool, by rw [L0]; split <;> omega, by rw [L0]; split <;> omega, fun H2 j k2 P2 j0 jm => ?_⟩
    rw [L0] at jm
    have W2 := W1.took k2 P2
    have L1 : (as.map V.ref).length = rows.length := (List.length_map ..).trans W2.tab.rs.1
    -- the early way out
    refine ⟨_, rfl, _, .inl ⟨_, SqL.of W2.tab.o, rfl⟩, ite2 (fun h => q _ _ _ _ W2 (Nat.le_refl _) (by omega)) (fun hne => ?_)⟩
    refine ⟨_, rfl, _, .inl ⟨_, SqL.of W2.tab.t, rfl⟩, ite2 (fun h => q _ _ _ _ W2 (Nat.le_refl _) (by omega)) (fun hne2 => ?_)⟩
    refine ⟨_, rfl, _, rfl, t, _, rfl, .inl (SqL.of W2.tab.t), _, _, rfl, rfl, _, rfl, ite2 (fun h => q _ _ _ _ W2 (Nat.le_refl _) (by omega)) (fun hjt => ?_)⟩
    have hop : 0 < os.length := by
      cases os with
      | nil => exact absurd rfl hne
      | cons a r => simp
    have hjr : j < rows.length := by
      by_cases z : j < rows.length
      · exact z
      · exact absurd (decide_eq_true (by rw [L1]; omega)) hjt
    have hjo : j < os.length := by
      split at jm <;> omega
    have htp : 0 < rows.length := by omega
    clear hne hne2 hjt jm
    -- 0: an output from a list
    refine ⟨MidS p sp l o t ns os rows c j 1, ?_, ?_⟩
    · refine ⟨_, rfl, rfl, _, rfl, ite2 (fun h => ?_) (fun h => ?_)⟩
      · have ec := eq_int.mp h
        refine ⟨_, rfl, (by show 4 ≤ sizeLine; decide), fun L hL => ?_⟩
        have W3 := W2.grow (same_new (ob := .lst [.int 10, .int (-1), .int 255, .int 11]) hL)
        refine ⟨_, rfl, p, sp, ns, 4, rfl, W3.pool, by decide, by decide, fun H4 r k4 P4 r0 r4 => ?_⟩
        have W4 := W3.took k4 P4
        obtain ⟨z, hz⟩ : ∃ z : Int, atI [V.int 10, .int (-1), .int 255, .int 11] r = some (.int z) := by
          rcases (show r = 0 ∨ r = 1 ∨ r = 2 ∨ r = 3 by omega) with rfl | rfl | rfl | rfl
          · exact ⟨10, rfl⟩
          · exact ⟨-1, rfl⟩
          · exact ⟨255, rfl⟩
          · exact ⟨11, rfl⟩
        have hL4 : H4 L = some (.lst [.int 10, .int (-1), .int 255, .int 11]) := by
          rw [k4 L (W2.new hL).1]
          exact upd_same
        refine ⟨L, _, r, .int z, rfl, rfl, SqL.of hL4, hz, _, rfl, _, rfl, o, _, j, _, rfl, rfl, W4.tab.o, ixN_at j0 (by rw [L0]; exact hjo), ?_⟩
        exact ⟨rfl, as, os.set j.toNat z, rows, W4.outs (List.map_set ..).symm (by rw [List.length_set]; omega), by rw [List.length_set]; exact Nat.le_refl _, by omega, fun z => by omega⟩
      · exact ⟨rfl, as, os, rows, W2, Nat.le_refl _, by omega, fun _ => ⟨rfl, rfl⟩⟩
    -- 1: an output that is 0 or 1
    rintro σ1 H3 ⟨rfl, as1, os1, rows1, W3, lo1, lr1, un1⟩
    refine ⟨MidS p sp l o t ns os rows c j 2, ?_, ?_⟩
    · refine ⟨_, rfl, rfl, _, rfl, ite2 (fun h => ?_) (fun h => ?_)⟩
      · have ec := eq_int.mp h
        obtain ⟨rfl, rfl⟩ := un1 (by omega)
        have hj : j.toNat < os1.length := by omega
        have g1 : (os1.map V.int)[j.toNat]? = some (.int os1[j.toNat]) := by
          rw [List.getElem?_map, List.getElem?_eq_getElem hj]
          rfl
        refine ⟨_, rfl, _, rfl, o, _, j, _, rfl, rfl, SqL.of W3.tab.o, at_of (j := j.toNat) (by omega) g1, rfl, .inr ⟨_, rfl, ?_⟩⟩
        refine ⟨_, rfl, _, rfl, o, _, j, _, rfl, rfl, W3.tab.o, ixN_at j0 (by rw [L0]; exact hjo), ?_⟩
        exact ⟨rfl, as1, os1.set j.toNat _, rows1, W3.outs (List.map_set ..).symm (by rw [List.length_set]; omega), by rw [List.length_set]; exact Nat.le_refl _, by omega, fun z => by omega⟩
      · exact ⟨rfl, as1, os1, rows1, W3, lo1, lr1, fun z => un1 (by omega)⟩
    -- 2: a row
    clear W3 un1 lo1 lr1
    rintro σ1 H3 ⟨rfl, as1, os1, rows1, W3, lo1, lr1, un1⟩
    refine ⟨MidS p sp l o t ns os rows c j 3, ?_, ?_⟩
    · refine ⟨_, rfl, rfl, _, rfl, ite2 (fun h => ?_) (fun h => ?_)⟩
      · have ec := eq_int.mp h
        obtain ⟨rfl, rfl⟩ := un1 (by omega)
        refine ⟨(by show 1 ≤ sizeLine; decide), fun a1 h1 => ⟨(by show 3 ≤ sizeLine; decide), fun a2 h2 => ⟨(by show 0 ≤ sizeLine; decide), fun a3 h3 => ⟨_, rfl, (by show 2 ≤ sizeLine; decide), fun a4 h4 => ?_⟩⟩⟩⟩
        have c1 := same_new (ob := .lst [.int 0]) h1
        have c2 := same_new (ob := .lst [.int 0, .int 0, .int 0]) h2
        have c3 := same_new (ob := .lst []) h3
        have c4 := same_new (ob := .lst [.int 0, .int (-1)]) h4
        have Z4 := (((W3.grow c1).grow c2).grow c3).grow c4
        refine ⟨_, rfl, o, _, rfl, .inl (SqL.of Z4.tab.o), (by show 2 ≤ sizeLine; decide), fun a5 h5 => ⟨_, rfl, (by show 2 ≤ sizeLine; decide), fun a6 h6 => ⟨(by show 6 ≤ sizeLine; decide), fun L hL => ?_⟩⟩⟩
        have c5 := same_new (ob := .lst [.int 0, .int ((os1.map V.int).length : Int)]) h5
        have c6 := same_new (ob := .lst [.int (-1), .int 0]) h6
        have c7 := same_new (ob := .lst [.ref a1, .ref a2, .ref a3, .ref a4, .ref a5, .ref a6]) hL
        have Z7 := ((Z4.grow c5).grow c6).grow c7
        refine ⟨_, rfl, p, sp, ns, 6, rfl, Z7.pool, by decide, by decide, fun H8 r k8 P8 r0 r6 => ?_⟩
        have Z8 := Z7.took k8 P8
        obtain ⟨a, r', ha, hra, hna⟩ : ∃ (a : Addr) (r' : List Int), atI [V.ref a1, .ref a2, .ref a3, .ref a4, .ref a5, .ref a6] r = some (.ref a) ∧
            (upd (upd (upd (upd (upd (upd (upd H3 a1 (.lst [.int 0])) a2 (.lst [.int 0, .int 0, .int 0])) a3 (.lst [])) a4 (.lst [.int 0, .int (-1)])) a5 (.lst [.int 0, .int ((os1.map V.int).length : Int)])) a6 (.lst [.int (-1), .int 0]))
              L (.lst [.ref a1, .ref a2, .ref a3, .ref a4, .ref a5, .ref a6])) a = some (.lst (r'.map V.int)) ∧ H3 a = none := by
          rcases (show r = 0 ∨ r = 1 ∨ r = 2 ∨ r = 3 ∨ r = 4 ∨ r = 5 by omega) with rfl | rfl | rfl | rfl | rfl | rfl
          · exact ⟨a1, [0], rfl, c7 _ _ (c6 _ _ (c5 _ _ (c4 _ _ (c3 _ _ (c2 _ _ upd_same))))), h1⟩
          · exact ⟨a2, [0, 0, 0], rfl, c7 _ _ (c6 _ _ (c5 _ _ (c4 _ _ (c3 _ _ upd_same)))), c1.free h2⟩
          · exact ⟨a3, [], rfl, c7 _ _ (c6 _ _ (c5 _ _ (c4 _ _ upd_same))), c1.free (c2.free h3)⟩
          · exact ⟨a4, [0, -1], rfl, c7 _ _ (c6 _ _ (c5 _ _ upd_same)), c1.free (c2.free (c3.free h4))⟩
          · exact ⟨a5, [0, ((os1.map V.int).length : Int)], rfl, c7 _ _ (c6 _ _ upd_same), c1.free (c2.free (c3.free (c4.free h5)))⟩
          · exact ⟨a6, [-1, 0], rfl, c7 _ _ upd_same, c1.free (c2.free (c3.free (c4.free (c5.free h6))))⟩
        have na := W3.new hna
        have hL8 : H8 L = some (.lst [.ref a1, .ref a2, .ref a3, .ref a4, .ref a5, .ref a6]) := by
          rw [k8 L (W3.new (c1.free (c2.free (c3.free (c4.free (c5.free (c6.free hL))))))).1]
          exact upd_same
        have ha8 : H8 a = some (.lst (r'.map V.int)) := by
          rw [k8 a na.1]
          exact hra
        refine ⟨L, _, r, .ref a, rfl, rfl, SqL.of hL8, ha, _, rfl, _, rfl, t, _, j, _, rfl, rfl, Z8.tab.t, ixN_at j0 (by rw [List.length_map, Z8.tab.rs.1]; exact hjr), ?_⟩
        refine ⟨rfl, as1.set j.toNat a, os1, rows1.set j.toNat r', Z8.tabs (List.map_set ..).symm (Z8.tab.rs.set (by omega) ha8) (fun x hx => ?_) (by rw [List.length_set]; omega), Nat.le_refl _, by rw [List.length_set]; omega, fun z => by omega⟩
        rcases List.mem_or_eq_of_mem_set hx with hx | hx
        · exact Z8.nap x hx
        · rw [hx]
          exact na
      · exact ⟨rfl, as1, os1, rows1, W3, lo1, lr1, fun z => un1 (by omega)⟩
    -- 3: one more row
    clear W3 un1 lo1 lr1
    rintro σ1 H3 ⟨rfl, as1, os1, rows1, W3, lo1, lr1, un1⟩
    refine ⟨MidS p sp l o t ns os rows c j 4, ?_, ?_⟩
    · refine ⟨_, rfl, rfl, _, rfl, ite2 (fun h => ?_) (fun h => ?_)⟩
      · have ec := eq_int.mp h
        obtain ⟨rfl, rfl⟩ := un1 (by omega)
        refine ⟨_, rfl, .inl ⟨rfl, _, SqL.of W3.tab.t⟩, (by show 2 ≤ sizeLine; decide), fun a ha => ?_⟩
        have Z := W3.grow (same_new (ob := .lst [.int 0, .int 0]) ha)
        refine ⟨t, _, _, rfl, rfl, Z.tab.t, small1000 (by rw [List.length_map, Z.tab.rs.1]; omega), ?_⟩
        refine ⟨rfl, as1 ++ [a], os1, rows1 ++ [[0, 0]], Z.tabs (by rw [List.map_append]; rfl) (Z.tab.rs.push upd_same) (fun x hx => ?_) (by rw [List.length_append]; show _ + 1 ≤ 100; omega), Nat.le_refl _, by rw [List.length_append]; exact Nat.le_refl _, fun z => by omega⟩
        rcases List.mem_append.mp hx with hx | hx
        · exact Z.nap x hx
        · have e : x = a := by simpa using hx
          rw [e]
          exact W3.new ha
      · exact ⟨rfl, as1, os1, rows1, W3, lo1, lr1, fun z => un1 (by omega)⟩
    -- 4: one row less
    clear W3 un1 lo1 lr1
    rintro σ1 H3 ⟨rfl, as1, os1, rows1, W3, lo1, lr1, un1⟩
    refine ⟨MidS p sp l o t ns os rows c j 5, ?_, ?_⟩
    · refine ⟨_, rfl, rfl, _, rfl, ite2 (fun h => ?_) (fun h => ?_)⟩
      · have ec := eq_int.mp h
        obtain ⟨rfl, rfl⟩ := un1 (by omega)
        have hla : (as1.map V.ref).length - 1 < (as1.map V.ref).length := by rw [List.length_map, W3.tab.rs.1]; omega
        refine ⟨_, rfl, .inl ⟨rfl, _, SqL.of W3.tab.t⟩, t, _, _, rfl, rfl, W3.tab.t, List.getElem?_eq_getElem hla, ?_⟩
        exact ⟨rfl, as1.dropLast, os1, rows1.dropLast, W3.tabs (List.map_dropLast ..).symm W3.tab.rs.drop (fun x hx => W3.nap x ((List.dropLast_sublist as1).subset hx)) (by rw [List.length_dropLast]; omega), Nat.le_refl _, by rw [List.length_dropLast]; omega, fun z => by omega⟩
      · exact ⟨rfl, as1, os1, rows1, W3, lo1, lr1, fun z => un1 (by omega)⟩
    -- 5: one output less
    clear W3 un1 lo1 lr1
    rintro σ1 H3 ⟨rfl, as1, os1, rows1, W3, lo1, lr1, un1⟩
    refine ⟨MidS p sp l o t ns os rows c j 6, ?_, ?_⟩
    · refine ⟨_, rfl, rfl, _, rfl, ite2 (fun h => ?_) (fun h => ?_)⟩
      · have ec := eq_int.mp h
        obtain ⟨rfl, rfl⟩ := un1 (by omega)
        have hla : (os1.map V.int).length - 1 < (os1.map V.int).length := by rw [List.length_map]; omega
        refine ⟨_, rfl, .inl ⟨rfl, _, SqL.of W3.tab.o⟩, o, _, _, rfl, rfl, W3.tab.o, List.getElem?_eq_getElem hla, ?_⟩
        exact ⟨rfl, as1, os1.dropLast, rows1, W3.outs (List.map_dropLast ..).symm (by rw [List.length_dropLast]; omega), by rw [List.length_dropLast]; omega, by omega, fun z => by omega⟩
      · exact ⟨rfl, as1, os1, rows1, W3, lo1, lr1, fun z => un1 (by omega)⟩
    -- 6: no output
    clear W3 un1 lo1 lr1
    rintro σ1 H3 ⟨rfl, as1, os1, rows1, W3, lo1, lr1, un1⟩
    refine ⟨_, rfl, rfl, _, rfl, ite2 (fun h => ?_) (fun h => ?_)⟩
    · refine ⟨_, rfl, .inl ⟨rfl, _, SqL.of W3.tab.o⟩, o, _, rfl, rfl, W3.tab.o, ?_⟩
      exact q _ as1 [] rows1 (W3.outs rfl (by decide)) (Nat.zero_le _) lr1
    · exact q _ _ _ _ W3 lo1 lr1
end
end K34

set_option Elab.async false
set_option linter.all false
set_option maxRecDepth 100000
set_option maxHeartbeats 4000000
/-! # The first word -/
namespace K34
open PySem PySem.Spec L2
open PyProof.Rows hiding St
open C8 (pss_cut)
theorem scStates : FnScope ["_law_pool_here", "_law_size", "_law_k", "_law_table", "_law_outputs", "_law_state", "_law_seen", "_law_ring"] ["_law_pool_here"] (defScope sStates) := ⟨rfl, rfl, rfl, by decide +kernel, rfl, by decide +kernel, by decide +kernel⟩
def spStates : Sp := fun vs H Q _ => ∃ (p sp : Addr) (ns : List Int), vs = [.ref p] ∧ Pool H p sp ns ∧
  ∀ (H' : Hp) (l o t : Addr) (as : List Addr) (os : List Int) (rows : List (List Int)), Wd H' p sp l o t ns as os rows → os.length ≤ 5 → rows.length ≤ 5 → Q (.ref l) H'
theorem pool_new {H : Hp} {p sp a : Addr} {ns : List Int} (P : Pool H p sp ns) (h : H a = none) : a ≠ p ∧ a ≠ sp := by
  obtain ⟨x, k, hp, _⟩ := P.at_
  exact ⟨(ne_of_none hp h).symm, (ne_of_none P.src h).symm⟩
/-- what the table's comprehension has made so far, at D -/
structure Grown (H : Hp) (p sp D : Addr) (ns : List Int) (n : Int) (as : List Addr) (rows : List (List Int)) : Prop where
  pool : Pool H p sp ns
  tb : H D = some (.lst (as.map V.ref))
  rs : RowsAt H as rows
  ok : ∀ r, r ∈ rows → ∃ x y : Int, r = [x, y] ∧ 0 ≤ x ∧ x < n
  na : ∀ a, a ∈ as → a ≠ p ∧ a ≠ D
  dp : D ≠ p
  ds : sp ≠ D
theorem Grown.took {H H' : Hp} {p sp D : Addr} {ns : List Int} {n : Int} {as : List Addr} {rows : List (List Int)} (g : Grown H p sp D ns n as rows) (k : ∀ b, b ≠ p → H' b = H b) (P : Pool H' p sp ns) : Grown H' p sp D ns n as rows :=
  ⟨P, by rw [k _ g.dp]; exact g.tb, g.rs.keep fun a h ob e => by rw [k _ (g.na a h).1]; exact e, g.ok, g.na, g.dp, g.ds⟩
theorem Grown.grow {H H' : Hp} {p sp D : Addr} {ns : List Int} {n : Int} {as : List Addr} {rows : List (List Int)} (g : Grown H p sp D ns n as rows) (s : Same H H') : Grown H' p sp D ns n as rows :=
  ⟨g.pool.keep s, s _ _ g.tb, g.rs.same s, g.ok, g.na, g.dp, g.ds⟩
theorem Grown.more {H : Hp} {p sp D a : Addr} {ns : List Int} {n x y : Int} {as : List Addr} {rows : List (List Int)} (g : Grown H p sp D ns n as rows) (ha : H a = some (.lst [.int x, .int y])) (nap : a ≠ p) (naD : a ≠ D) (x0 : 0 ≤ x) (x1 : x < n) :
    Grown (upd H D (.lst (as.map V.ref ++ [.ref a]))) p sp D ns n (as ++ [a]) (rows ++ [[x, y]]) := by
  obtain ⟨u, k, hp, hk⟩ := g.pool.at_
  have hm : ∀ b, b ∈ as ++ [a] → b ≠ p ∧ b ≠ D := fun b hb => by
    rcases List.mem_append.mp hb with hb | hb
    · exact g.na b hb
    · have e : b = a := by simpa using hb
      rw [e]
      exact ⟨nap, naD⟩
  refine ⟨⟨⟨u, k, by rw [upd_ne g.dp.symm]; exact hp, hk⟩, by rw [upd_ne g.ds]; exact g.pool.src, g.pool.ne⟩, by rw [upd_same, List.map_append]; rfl, (g.rs.push (r := [x, y]) ha).keep fun b hb ob e => by rw [upd_ne (hm b hb).2]; exact e, fun r hr => ?_, hm, g.dp, g.ds⟩
  rcases List.mem_append.mp hr with hr | hr
  · exact g.ok r hr
  · have e : r = [x, y] := by simpa using hr
    exact ⟨x, y, e, x0, x1⟩
section
variable {P : Program} {w : World} {K : PySem.W.Frag} {mg : Str → Option Value} {base : Heap}
theorem ok_states {f fT fW : Addr} {fd fdT fdW : FuncData} (F : Hd K mg "_law_told_states" sStates ["_law_pool_here"] f fd) (T : Nm mg) (A : Hd K mg "_law_take" sTake ["_law_pool_here", "_law_most"] fT fdT)
    (AW : Hd K mg "_law_wide" sWide ["_law_script", "_law_k"] fW fdW) : FnOk P w K mg base CX0 3 f fd ["_law_pool_here"] spStates := by
  have G : FnOk P w K mg base CX0 2 fT fdT ["_law_pool_here", "_law_most"] spTake := ok_take A T AW
  refine F.F.ok scStates (fun vs H Q E h => ?_) (fun cdv A' outer s H vs Q E hr h => ?_)
  · obtain ⟨p, sp, ns, rfl, _⟩ := h
    rfl
  · obtain ⟨p, sp, ns, rfl, hP, q⟩ := h
    refine ⟨_, pss_cons (ps_set (i := 1) scStates.nd rfl (Or.inr rfl) (pe_op op_add pe_int (pe_call G hr rfl A.g A.F.kp A.b .nil pass0 (pa_cons (pv 0) (pa_cons pe_int pa_nil)))))
      (pss_cons (ps_setLc (i := 3) (own := [("_law_k", 2)]) (g := gName 2) (tt := tYes) rfl scStates.nd rfl rfl (sw_true rfl rfl rfl (by decide +kernel)) (pi_range1 rfl T.range (pa_cons (pv 1) pa_nil))
        (blkOk_by (N := ["_law_pool_here", "_law_size", "_law_k", "_law_table", "_law_outputs", "_law_state", "_law_seen", "_law_ring"]) (sc := defScope sStates) (by decide +kernel)) (fun _ _ _ _ _ => pg_name (i := 2) scStates.nd rfl (Or.inl rfl)) (fun _ _ _ _ _ => pts_nil)
        (fun _ _ _ _ _ => pe_lst (pa_cons (pe_call G hr rfl A.g A.F.kp A.b .nil pass0 (pa_cons (pv 0) (pa_cons (pv 1) pa_nil))) (pa_cons (pe_call G hr rfl A.g A.F.kp A.b .nil pass0 (pa_cons (pv 0) (pa_cons (pv 1) pa_nil))) pa_nil))))
      (pss_cons (ps_set (i := 4) scStates.nd rfl (Or.inl rfl) (pe_lst pa_nil))
      (pss_cons (ps_for PassesOwn.never rfl (pi_range1 rfl T.range (pa_cons (pv 1) pa_nil)) (pg_name (i := 5) scStates.nd rfl (Or.inl rfl))
        (pss_cons (ps_set (i := 6) scStates.nd rfl (Or.inl rfl) (pv 5))
        (pss_cons (ps_for PassesOwn.never rfl (pi_range1 rfl T.range (pa_cons (pv 1) pa_nil)) (pg_name (i := 2) scStates.nd rfl (Or.inl rfl))
          (pss_one (ps_set (i := 6) scStates.nd rfl (Or.inl rfl) (pe_ix ix_list (pe_ix ix_list (pv 3) (pv 6) (fun _ _ => rfl)) pe_int (fun _ _ => rfl)))))
        (pss_cons (ps_set (i := 7) scStates.nd rfl (Or.inl rfl) (pe_lst (pa_cons (pv 6) pa_nil)))
        (pss_cons (ps_for PassesOwn.never rfl (pi_range1 rfl T.range (pa_cons (pv 1) pa_nil)) (pg_name (i := 2) scStates.nd rfl (Or.inl rfl))
          (pss_cons (ps_set (i := 6) scStates.nd rfl (Or.inl rfl) (pe_ix ix_list (pe_ix ix_list (pv 3) (pv 6) (fun _ _ => rfl)) pe_int (fun _ _ => rfl)))
          (pss_one (ps_expr (pe_bm PySem.F.plainAttrs_list PySem.F.slot_list_append PySem.F.type_list_append mt_append (pv 7) (pa_cons (pv 6) pa_nil))))))
        (pss_one (ps_expr (pe_bm PySem.F.plainAttrs_list PySem.F.slot_list_append PySem.F.type_list_append mt_append (pv 4)
          (pa_cons (pe_op op_mod (pe_op op_mul (pe_callB (cr_min rfl) (by rfl) T.min (by decide +kernel) (pa_cons (pv 7) pa_nil)) pe_int) pe_int) pa_nil)))))))))
      (pss_one (ps_ret (pe_lst (pa_cons (pv 4) (pa_cons (pv 3) pa_nil)))))))), ?_⟩
    -- the size
    refine ⟨_, rfl, p, sp, ns, 5, rfl, hP, by decide, by decide, fun H1 n0 k1 P1 n00 n05 => ⟨_, _, rfl, rfl, ?_⟩⟩
    obtain ⟨n, hn⟩ : ∃ n, 1 + n0 = n := ⟨_, rfl⟩
    have n1 : 1 ≤ n := by omega
    have n5 : n ≤ 5 := by omega
    -- the table
    refine ⟨_, rfl, _, rfl, by omega, by omega, fun D hD => lc_range (lo := 0) (fun i H' => ∃ as rows, Grown H' p sp D ns n as rows ∧ rows.length = i) ?_ ?_ ?_⟩
    · have nD := pool_new P1 hD
      exact ⟨[], [], ⟨P1.keep (same_new hD), upd_same, RowsAt.nil, fun r hr => by simp at hr, fun a ha => by simp at ha, nD.1, nD.2.symm⟩, rfl⟩
    · rintro i H2 hi ⟨as, rows, g, hl⟩
      refine ⟨rfl, _, rfl, _, rfl, p, sp, ns, n, (by rw [← hn]; rfl), g.pool, by omega, by omega, fun H3 x k3 P3 x0 x1 => ?_⟩
      have g3 := g.took k3 P3
      refine ⟨_, rfl, _, rfl, p, sp, ns, n, (by rw [← hn]; rfl), g3.pool, by omega, by omega, fun H4 y k4 P4 y0 y1 => ⟨(by show 2 ≤ sizeLine; decide), fun a ha => ?_⟩⟩
      have g4 := g3.took k4 P4
      have g5 := g4.grow (same_new (ob := .lst [.int x, .int y]) ha)
      refine ⟨_, g5.tb, small1000 (by rw [List.length_map, g.rs.1]; omega), as ++ [a], rows ++ [[x, y]], g5.more upd_same (pool_new g4.pool ha).1 (ne_of_none g4.tb ha).symm x0 x1, by rw [List.length_append, hl]; rfl⟩
    rintro H2 ⟨as, rows, g, hl⟩
    have hrn : (rows.length : Int) = n := by omega
    -- the list of outputs, empty
    refine ⟨Nat.zero_le _, fun O hO => ?_⟩
    have g3 := g.grow (same_new (ob := .lst []) hO)
    have nO := pool_new g.pool hO
    have nOD : O ≠ D := (ne_of_none g.tb hO).symm
    have nOa : ∀ a, a ∈ as → a ≠ O := fun a ha => by
      obtain ⟨ob, e⟩ := g.rs.has ha
      exact ne_of_none e hO
    -- the outputs' loop
    refine ⟨_, rfl, _, rfl, by omega, by omega, for_range (lo := 0) (fun i σ H' => ∃ (y2 y5 y6 y7 : Option V) (os : List Int), σ = [some (.ref p), some (.int n), y2, some (.ref D), some (.ref O), y5, y6, y7] ∧
      (∀ b ob, H2 b = some ob → H' b = some ob) ∧ H' O = some (.lst (os.map V.int)) ∧ os.length = i) ⟨none, none, none, none, [], (by rw [← hn]; rfl), same_new hO, upd_same, rfl⟩ ?_ ?_⟩
    · rintro i σ H3 hi ⟨y2, y5, y6, y7, os, rfl, k3, hO3, hl3⟩
      have gt : H3 D = some (.lst (as.map V.ref)) := k3 _ _ g.tb
      have gr : RowsAt H3 as rows := g.rs.same k3
      have step : ∀ v : Int, 0 ≤ v → v < n → ∃ (a : Addr) (x y : Int), (as.map V.ref)[v.toNat]? = some (.ref a) ∧ (∀ H', Same H3 H' → H' a = some (.lst [.int x, .int y])) ∧ 0 ≤ x ∧ x < n := fun v v0 v1 => by
        have hv : v.toNat < rows.length := by omega
        obtain ⟨a, ha, hra⟩ := gr.2 v.toNat rows[v.toNat] (List.getElem?_eq_getElem hv)
        obtain ⟨x, y, e, x0, x1⟩ := g.ok rows[v.toNat] (List.getElem_mem hv)
        refine ⟨a, x, y, by rw [List.getElem?_map, ha]; rfl, fun H' sm => ?_, x0, x1⟩
        rw [e] at hra
        exact sm _ _ hra
      -- n steps by the digit 0
      refine ⟨_, rfl, _, rfl, _, rfl, by omega, by omega, for_range (lo := 0) (fun j σ H' => ∃ (y2 : Option V) (v : Int), σ = [some (.ref p), some (.int n), y2, some (.ref D), some (.ref O), some (.int (0 + (i : Int))), some (.int v), y7] ∧ H' = H3 ∧ 0 ≤ v ∧ v < n) ⟨y2, 0 + (i : Int), rfl, rfl, by omega, by omega⟩ ?_ ?_⟩
      · rintro j σ H' hj ⟨z2, v, rfl, rfl, v0, v1⟩
        obtain ⟨a, x, y, ha, hra, x0, x1⟩ := step v v0 v1
        refine ⟨_, rfl, _, rfl, D, _, v, _, rfl, rfl, SqL.of gt, at_of (j := v.toNat) (by omega) ha, a, _, 0, _, rfl, rfl, SqL.of (hra _ (Same.refl _)), atI_nat (j := 0) rfl, ?_⟩
        exact ⟨_, x, rfl, rfl, x0, x1⟩
      rintro σ H' ⟨z2, v, rfl, rfl, v0, v1⟩
      -- the ring begins
      refine ⟨_, rfl, (by show 1 ≤ sizeLine; decide), fun R hR => ?_⟩
      have nRO : O ≠ R := ne_of_none hO3 hR
      refine ⟨_, rfl, _, rfl, by omega, by omega, for_range (lo := 0) (fun j σ H4 => ∃ (y2 : Option V) (v : Int) (ring : List Int), σ = [some (.ref p), some (.int n), y2, some (.ref D), some (.ref O), some (.int (0 + (i : Int))), some (.int v), some (.ref R)] ∧
        H4 = upd H' R (.lst (ring.map V.int)) ∧ 0 ≤ v ∧ v < n ∧ ring.length = j + 1) ⟨z2, v, [v], rfl, rfl, v0, v1, rfl⟩ ?_ ?_⟩
      · rintro j σ H4 hj ⟨w2, u, ring, rfl, rfl, u0, u1, hlr⟩
        have sR : Same H' (upd H' R (.lst (ring.map V.int))) := same_new hR
        obtain ⟨a, x, y, ha, hra, x0, x1⟩ := step u u0 u1
        refine ⟨_, rfl, _, rfl, D, _, u, _, rfl, rfl, SqL.of (sR _ _ gt), at_of (j := u.toNat) (by omega) ha, a, _, 0, _, rfl, rfl, SqL.of (hra _ sR), atI_nat (j := 0) rfl, ?_⟩
        refine ⟨_, rfl, .inl ⟨rfl, _, SqL.of upd_same⟩, _, rfl, R, _, _, rfl, rfl, upd_same, small1000 (by rw [List.length_map]; omega), ?_⟩
        exact ⟨_, x, ring ++ [x], rfl, by rw [upd_upd, List.map_append]; rfl, x0, x1, by rw [List.length_append, hlr]; rfl⟩
      rintro σ H4 ⟨w2, u, ring, rfl, rfl, u0, u1, hlr⟩
      have sR : Same H' (upd H' R (.lst (ring.map V.int))) := same_new hR
      -- an output more
      refine ⟨_, rfl, .inl ⟨rfl, _, SqL.of (sR _ _ hO3)⟩, _, rfl, R, ring, rfl, SqL.of upd_same, by omega, fun m hm hle => ?_⟩
      refine ⟨_, _, rfl, rfl, .inr (by decide), _, _, rfl, rfl, (by show (0 : Int) < 10; decide), O, _, _, rfl, rfl, sR _ _ hO3, small1000 (by rw [List.length_map]; omega), ?_⟩
      refine ⟨_, _, _, _, os ++ [m * 3 % 10], rfl, fun b ob e => ?_, by rw [upd_same, List.map_append]; rfl, by rw [List.length_append, hl3]; rfl⟩
      rw [upd_ne (ne_of_none e hO)]
      exact sR _ _ (k3 _ _ e)
    rintro σ H3 ⟨y2, y5, y6, y7, os, rfl, k3, hO3, hl3⟩
    have gF := g.grow k3
    -- the answer
    refine ⟨_, rfl, _, rfl, (by show 2 ≤ sizeLine; decide), fun l hL => ?_⟩
    have gL := gF.grow (same_new (ob := .lst [.ref O, .ref D]) hL)
    have nl := pool_new gF.pool hL
    refine q _ l O D as os rows ⟨gL.pool, upd_same, ⟨same_new hL _ _ hO3, gL.tb, gL.rs, by omega, by omega⟩, nl.1, (ne_of_none hO3 hL).symm, (ne_of_none gF.tb hL).symm, nO.1, g.dp, nOD, nO.2.symm, g.ds, fun a ha => ⟨(g.na a ha).1, nOa a ha, (g.na a ha).2⟩⟩ (by omega) (by omega)
end
end K34

set_option Elab.async false
set_option linter.all false
set_option maxRecDepth 100000
set_option maxHeartbeats 4000000
/-! # The law -/
namespace K34
open PySem PySem.Spec L2
open PyProof.Rows hiding St
open C8 (pss_cut)
/-! ### answers and words as data -/
def vData : Option (Str × Str) → PyData
  | none => .none
  | some (a, b) => .tuple [.str a, .str b]
theorem Ans.dp {K : PySem.W.Frag} {H : Hp} {v : V} : ∀ {r : Option (Str × Str)}, Ans H v r → Dp K H v (vData r)
  | none, h => by
    have e : v = .non := h
    rw [e]
    exact .non
  | some (a, b), h => by
    obtain ⟨p, rfl, hp⟩ := h
    exact .tup (SqT.of hp) (.cons (.str a) (.cons (.str b) .nil))
theorem Ans.same {H H' : Hp} {v : V} (s : Same H H') : ∀ {r : Option (Str × Str)}, Ans H v r → Ans H' v r
  | none, h => h
  | some (a, b), h => by
    obtain ⟨p, e, hp⟩ := h
    exact ⟨p, e, s _ _ hp⟩
theorem verdict_is (os : List Int) (rows : List (List Int)) : verdict os rows = none ∨ verdict os rows = some (("misused" : Str), ("outputs" : Str)) ∨ verdict os rows = some (("misused" : Str), ("table" : Str)) ∨
    verdict os rows = some (("oversized" : Str), ("states" : Str)) ∨ verdict os rows = some (("misused" : Str), ("settled" : Str)) := by
  unfold verdict
  split
  · exact .inr (.inl rfl)
  · split
    · exact .inr (.inr (.inl rfl))
    · split
      · exact .inr (.inr (.inr (.inl rfl)))
      · split
        · exact .inl rfl
        · exact .inr (.inr (.inr (.inr rfl)))
theorem verdict_data (os : List Int) (rows : List (List Int)) : SeqAt.shaped (vData (verdict os rows)) = true ∧ PyData.eqv (vData (verdict os rows)) (vData (verdict os rows)) = true := by
  have h : SeqAt.shaped (vData (verdict os rows)) = true := by
    rcases verdict_is os rows with e | e | e | e | e <;> rw [e] <;> decide +kernel
  exact ⟨h, SeqAt.eqv_refl _ (SeqAt.canLay_of_shaped h)⟩
def intsD (r : List Int) : PyData := .list (r.map PyData.int)
def wordD (os : List Int) (rows : List (List Int)) : PyData := .list [intsD os, .list (rows.map intsD)]
theorem dp_ints {K : PySem.W.Frag} {H : Hp} : ∀ r : List Int, DpAll K H (r.map V.int) (r.map PyData.int)
  | [] => .nil
  | x :: r => .cons (.int x) (dp_ints r)
theorem dp_rows {K : PySem.W.Frag} {H : Hp} : ∀ {as : List Addr} {rows : List (List Int)}, RowsAt H as rows → DpAll K H (as.map V.ref) (rows.map intsD)
  | [], [], _ => .nil
  | [], r :: rows, R => by have := R.1; simp at this
  | a :: as, [], R => by have := R.1; simp at this
  | a :: as, r :: rows, R => by
    obtain ⟨a', h1, h2⟩ := R.2 0 r rfl
    have e : a = a' := Option.some.inj h1
    subst e
    refine .cons (.lst (SqL.of h2) (dp_ints r)) (dp_rows ⟨by have := R.1; simp at this; exact this, fun i r' e => ?_⟩)
    obtain ⟨b, q1, q2⟩ := R.2 (i + 1) r' e
    exact ⟨b, q1, q2⟩
theorem lay_ints : ∀ r : List Int, PyData.canLayAll0 (r.map PyData.int) = true ∧ PyData.depthAll (r.map PyData.int) = 0
  | [] => by simp [PyData.canLayAll0, PyData.depthAll]
  | x :: r => by
    have ih := lay_ints r
    simp [PyData.canLayAll0, PyData.depthAll, PyData.canLay0, PyData.depth, ih.1, ih.2]
theorem lay_intsD (r : List Int) : (intsD r).canLay0 = true ∧ (intsD r).depth = 1 := by
  have h := lay_ints r
  simp [intsD, PyData.canLay0, PyData.depth, h.1, h.2]
theorem lay_rows : ∀ rows : List (List Int), PyData.canLayAll0 (rows.map intsD) = true ∧ PyData.depthAll (rows.map intsD) ≤ 1
  | [] => by simp [PyData.canLayAll0, PyData.depthAll]
  | r :: rows => by
    have ih := lay_rows rows
    have h := lay_intsD r
    simp only [List.map_cons, PyData.canLayAll0, PyData.depthAll, h.1, h.2, ih.1, Bool.and_self, true_and]
    omega
theorem word_data (os : List Int) (rows : List (List Int)) : SeqAt.shaped (wordD os rows) = true ∧ PyData.eqv (wordD os rows) (wordD os rows) = true := by
  have h1 := lay_intsD os
  have h2 := lay_rows rows
  have hc : (wordD os rows).canLay0 = true := by
    simp [wordD, PyData.canLay0, PyData.canLayAll0, h1.1, h2.1]
  have hd : (wordD os rows).depth ≤ 64 := by
    simp only [wordD, PyData.depth, PyData.depthAll, h1.2]
    omega
  have h : SeqAt.shaped (wordD os rows) = true := by
    unfold SeqAt.shaped
    rw [hc, decide_eq_true hd]
    rfl
  exact ⟨h, SeqAt.eqv_refl _ hc⟩
theorem dp_word {K : PySem.W.Frag} {H : Hp} {l o t : Addr} {as : List Addr} {os : List Int} {rows : List (List Int)} (hl : H l = some (.lst [.ref o, .ref t])) (T : Tab H o t as os rows) : Dp K H (.ref l) (wordD os rows) :=
  .lst (SqL.of hl) (.cons (.lst (SqL.of T.o) (dp_ints os)) (.cons (.lst (SqL.of T.t) (dp_rows T.rs)) .nil))
theorem flat_three (n : Nat) : (List.replicate n [V.int 3]).flatten = (List.replicate n (3 : Int)).map V.int := by
  induction n with
  | zero => rfl
  | succ n ih =>
    rw [List.replicate_succ, List.flatten_cons, ih, List.replicate_succ, List.map_cons]
    rfl
theorem scLaw : FnScope ["_law_script", "_law_pool_here", "_law_told_here", "_law_size", "_law_k", "_law_numbers", "_law_rows", "_law_given", "_law_output", "_law_row_here"] ["_law_script"] (defScope sLaw) := ⟨rfl, rfl, rfl, by decide +kernel, rfl, by decide +kernel, by decide +kernel⟩
def spLaw (K : PySem.W.Frag) : Sp := fun vs H Q _ => ∃ (a : Addr) (ns : List Int), vs = [.ref a] ∧ SqL K H a (ns.map V.int) ∧ ns.length ≤ 63 ∧ ∀ H', Q (.bl true) H'
/-- the state of the law's body: the pool, a word; b bounds the lengths -/
def MidL (a p sp : Addr) (ns : List Int) (b : Nat) : L2.St → Hp → Prop := fun σ H => ∃ (y3 y4 y5 y6 : Option V) (l o t : Addr) (as : List Addr) (os : List Int) (rows : List (List Int)),
  σ = [some (.ref a), some (.ref p), some (.ref l), y3, y4, y5, y6, none, none, none] ∧ Wd H p sp l o t ns as os rows ∧ os.length ≤ 42 ∧ rows.length ≤ b
section
variable {P : Program} {w : World} {K : PySem.W.Frag} {mg : Str → Option Value} {base : Heap} {CM fM CO fO CC CT : Addr}
theorem ok_law {f fI fA fB f1 f2 f3 f4 f5 f6 f7 f8 f9 : Addr} {fd fdI fdA fdB d1 d2 d3 d4 d5 d6 d7 d8 d9 : FuncData} (F : Hd K mg "law" sLaw ["_law_script"] f fd) (T : Txt P K mg CM fM CO fO CC CT)
    (FI : Fun K "__init__" "Told.__init__" sInitT fI fdI) (MK : Mk K CT fI) (bI : Binds K fdI ["self", "outputs", "table"] []) (A1 : Hd K mg "is_output" sIsOut ["value"] fA fdA) (A2 : Hd K mg "is_row" sIsRow ["row", "states"] fB fdB)
    (B1 : Hd K mg "_law_wide" sWide ["_law_script", "_law_k"] f1 d1) (B2 : Hd K mg "_law_take" sTake ["_law_pool_here", "_law_most"] f2 d2) (B3 : Hd K mg "_law_pool" sPool ["_law_script"] f3 d3) (B4 : Hd K mg "_law_told_states" sStates ["_law_pool_here"] f4 d4)
    (B5 : Hd K mg "_law_whole" sWhole ["_law_value", "_law_least", "_law_most"] f5 d5) (B6 : Hd K mg "_law_row" sRow ["_law_row_here", "_law_size"] f6 d6) (B7 : Hd K mg "_law_due" sDue ["_law_outputs", "_law_table"] f7 d7)
    (B8 : Hd K mg "_law_told" sTold ["_law_outputs", "_law_table"] f8 d8) (B9 : Hd K mg "_law_spoil" sSpoil ["_law_pool_here", "_law_outputs", "_law_table"] f9 d9) : FnOk P w K mg base CX0 6 f fd ["_law_script"] (spLaw K) := by
  have N := T.nm
  have G2 : FnOk P w K mg base CX0 2 f2 d2 ["_law_pool_here", "_law_most"] spTake := ok_take B2 N B1
  have G3 : FnOk P w K mg base CX0 1 f3 d3 ["_law_script"] (spPool K) := ok_pool B3 N
  have G4 : FnOk P w K mg base CX0 3 f4 d4 ["_law_pool_here"] spStates := ok_states B4 N B2 B1
  have G5 : FnOk P w K mg base CX0 1 f5 d5 ["_law_value", "_law_least", "_law_most"] spWhole := ok_whole B5 N
  have G6 : FnOk P w K mg base CX0 2 f6 d6 ["_law_row_here", "_law_size"] spRowOk := ok_row B6 N B5
  have G7 : FnOk P w K mg base CX0 3 f7 d7 ["_law_outputs", "_law_table"] spAns := ok_due B7 N B5 B6
  have G8 : FnOk P w K mg base CX0 5 f8 d8 ["_law_outputs", "_law_table"] spAns := ok_told B8 T FI MK bI A1 A2
  have G9 : FnOk P w K mg base CX0 3 f9 d9 ["_law_pool_here", "_law_outputs", "_law_table"] spSpoil := ok_spoil B9 N B2 B1
  refine F.F.ok scLaw (fun vs H Q E h => ?_) (fun cdv A outer s H vs Q E hr h => ?_)
  · obtain ⟨a, ns, rfl, _⟩ := h
    rfl
  · obtain ⟨a, ns, rfl, hS, hlen, q⟩ := h
    have r1 : Room 1 _ := hr.mono (by decide)
    have r2 : Room 2 _ := hr.mono (by decide)
    have r3 : Room 3 _ := hr.mono (by decide)
    refine ⟨_, pss_cons (ps_set (i := 1) scLaw.nd rfl (Or.inl rfl) (pe_call G3 r1 rfl B3.g B3.F.kp B3.b .nil pass0 (pa_cons (pv 0) pa_nil)))
      (pss_cons (ps_set (i := 2) scLaw.nd rfl (Or.inr rfl) (pe_call G4 r3 rfl B4.g B4.F.kp B4.b .nil pass0 (pa_cons (pv 1) pa_nil)))
      (pss_cut (ps_if (pt_cmpR op_eq (pe_call G2 r2 rfl B2.g B2.F.kp B2.b .nil pass0 (pa_cons (pv 1) (pa_cons pe_int pa_nil))) pe_int (nomark _))
        (pss_cons (ps_set (i := 3) scLaw.nd rfl (Or.inr rfl) (pe_op op_add pe_int (pe_call G2 r2 rfl B2.g B2.F.kp B2.b .nil pass0 (pa_cons (pv 1) (pa_cons pe_int pa_nil)))))
        (pss_one (ps_set (i := 2) scLaw.nd rfl (Or.inr rfl) (pe_lst (pa_cons (pe_op op_rep (pe_lst (pa_cons pe_int pa_nil)) (pv 3)) (pa_cons
          (pe_lc (own := [("_law_k", 4)]) (g := gName 4) (tt := tYes) rfl scLaw.nd (pi_range1 rfl N.range (pa_cons (pv 3) pa_nil))
            (blkOk_by (N := ["_law_script", "_law_pool_here", "_law_told_here", "_law_size", "_law_k", "_law_numbers", "_law_rows", "_law_given", "_law_output", "_law_row_here"]) (sc := defScope sLaw) (by decide +kernel))
            (fun _ _ _ _ _ => pg_name (i := 4) scLaw.nd rfl (Or.inl rfl)) (fun _ _ _ _ _ => pts_nil) (fun _ _ _ _ _ => pe_lst (pa_cons (pv 4) (pa_cons (pe_op op_sub (pe_op op_sub (pv 3) pe_int) (pv 4)) pa_nil)))) pa_nil)))))) pss_nil)
      (pss_cut (ps_for PassesOwn.never rfl (pi_range1 rfl N.range (pa_cons (pe_call G2 r2 rfl B2.g B2.F.kp B2.b .nil pass0 (pa_cons (pv 1) (pa_cons pe_int pa_nil))) pa_nil)) (pg_name (i := 4) scLaw.nd rfl (Or.inl rfl))
        (pss_cons (ps_expr (pe_call G9 r3 rfl B9.g B9.F.kp B9.b .nil pass0 (pa_cons (pv 1) (pa_cons (pe_ix ix_list (pv 2) pe_int (fun _ _ => rfl)) (pa_cons (pe_ix ix_list (pv 2) pe_int (fun _ _ => rfl)) pa_nil)))))
        (pss_cons (ps_setLc (i := 5) (own := [("_law_output", 8)]) (g := gName 8) rfl scLaw.nd rfl rfl (sw_true rfl rfl rfl (by decide +kernel)) (pi_list (pe_ix ix_list (pv 2) pe_int (fun _ _ => rfl)))
          (blkOk_by (N := ["_law_script", "_law_pool_here", "_law_told_here", "_law_size", "_law_k", "_law_numbers", "_law_rows", "_law_given", "_law_output", "_law_row_here"]) (sc := defScope sLaw) (by decide +kernel)) (fun _ _ _ _ _ => pg_name (i := 8) scLaw.nd rfl (Or.inl rfl))
          (fun _ _ _ _ _ => pts_one (pt_not (pt_val (pe_call G5 r1 rfl B5.g B5.F.kp B5.b .nil pass0 (pa_cons (pv 8) (pa_cons pe_int (pa_cons pe_int pa_nil))))))) (fun _ _ _ _ _ => pv 8))
        (pss_cons (ps_setLc (i := 6) (own := [("_law_row_here", 9)]) (g := gName 9) rfl scLaw.nd rfl rfl (sw_true rfl rfl rfl (by decide +kernel)) (pi_list (pe_ix ix_list (pv 2) pe_int (fun _ _ => rfl)))
          (blkOk_by (N := ["_law_script", "_law_pool_here", "_law_told_here", "_law_size", "_law_k", "_law_numbers", "_law_rows", "_law_given", "_law_output", "_law_row_here"]) (sc := defScope sLaw) (by decide +kernel)) (fun _ _ _ _ _ => pg_name (i := 9) scLaw.nd rfl (Or.inl rfl))
          (fun _ _ _ _ _ => pts_one (pt_not (pt_val (pe_call G6 r2 rfl B6.g B6.F.kp B6.b .nil pass0 (pa_cons (pv 9) (pa_cons (pe_callB (len_in (K := K) rfl) (by rfl) N.len PySem.boot_len (pa_cons (pe_ix (ix_in (K := K) rfl) (pv 2) pe_int (fun _ _ => rfl)) pa_nil)) pa_nil)))))) (fun _ _ _ _ _ => pv 9))
        (pss_one (ps_if (PW.pt (pw_or (pt_truth (pv 5) (by intro _; rfl)) (pw_or1 (pt_truth (pv 6) (by intro _; rfl))))) (pss_one ps_break) pss_nil))))))
      (pss_cons (ps_set (i := 7) scLaw.nd rfl (Or.inl rfl) (pe_lst (pa_cons (pe_callTy call_list_of (by rfl) N.list (by decide +kernel) (pa_cons (pe_ix ix_list (pv 2) pe_int (fun _ _ => rfl)) pa_nil))
        (pa_cons (pe_callTy call_list_of (by rfl) N.list (by decide +kernel) (pa_cons (pe_ix ix_list (pv 2) pe_int (fun _ _ => rfl)) pa_nil)) pa_nil))))
      (pss_one (ps_ret (pe_and (pe_cmpR (op_eqD hr.units) (pe_call G8 hr rfl B8.g B8.F.kp B8.b .nil pass0 (pa_cons (pe_ix ix_list (pv 7) pe_int (fun _ _ => rfl)) (pa_cons (pe_ix ix_list (pv 7) pe_int (fun _ _ => rfl)) pa_nil)))
          (pe_call G7 r3 rfl B7.g B7.F.kp B7.b .nil pass0 (pa_cons (pe_ix ix_list (pv 2) pe_int (fun _ _ => rfl)) (pa_cons (pe_ix ix_list (pv 2) pe_int (fun _ _ => rfl)) pa_nil))) (nomark _))
        (pe_one (pe_cmpR (op_eqD hr.units) (pv 7) (pv 2) (nomark _)))))))))), ?_⟩
    -- the pool, the first word
    refine ⟨_, rfl, a, ns, rfl, hS, fun H1 p sp s1 hp hsp P1 => ?_⟩
    refine ⟨_, rfl, p, sp, ns, rfl, P1, fun H2 l o t as os rows W2 hos hrs => ?_⟩
    -- in a part of the scripts a long one in its place
    refine ⟨MidL a p sp ns 42, ?_, ?_⟩
    · refine ⟨_, rfl, p, sp, ns, 4, rfl, W2.pool, by decide, by decide, fun H3 r k3 P3 r0 r4 => ⟨rfl, _, rfl, ite2 (fun h => ?_) (fun h => ?_)⟩⟩
      · refine ⟨_, rfl, p, sp, ns, 4, rfl, P3, by decide, by decide, fun H4 n0 k4 P4 n00 n04 => ⟨_, _, rfl, rfl, ?_⟩⟩
        obtain ⟨n, hn⟩ : ∃ n : Nat, (n : Int) = 39 + n0 := ⟨(39 + n0).toNat, by omega⟩
        have hn2 : n ≤ 42 := by omega
        have hnt : (39 + n0).toNat = n := by omega
        -- the long outputs
        refine ⟨(by show 1 ≤ sizeLine; decide), fun L3 hL3 => ?_⟩
        refine ⟨_, rfl, L3, _, _, rfl, rfl, upd_same, by omega, by omega, (by show 1 * (39 + n0).toNat ≤ sizeLine; rw [hnt, sizeLine_eq]; omega), fun O hO => ?_⟩
        have eO : (List.replicate (39 + n0).toNat [V.int 3]).flatten = (List.replicate n (3 : Int)).map V.int := by
          rw [hnt]
          exact flat_three n
        have P5 := (P4.keep (same_new (ob := .lst [.int 3]) hL3))
        have nO := pool_new P5 hO
        have hO6 : (upd (upd H4 L3 (.lst [.int 3])) O (.lst (List.replicate (39 + n0).toNat [V.int 3]).flatten)) O = some (.lst ((List.replicate n (3 : Int)).map V.int)) := by
          rw [upd_same, eO]
        have P6 := P5.keep (same_new (ob := .lst (List.replicate (39 + n0).toNat [V.int 3]).flatten) hO)
        generalize (upd (upd H4 L3 (.lst [.int 3])) O (.lst (List.replicate (39 + n0).toNat [V.int 3]).flatten)) = H6 at hO6 P6 ⊢
        -- the table
        refine ⟨_, rfl, _, rfl, by omega, by omega, fun D hD => lc_range (lo := 0) (fun i H' => ∃ (as : List Addr) (rows : List (List Int)), Same H6 H' ∧ H' D = some (.lst (as.map V.ref)) ∧ RowsAt H' as rows ∧ rows.length = i ∧ ∀ b, b ∈ as → b ≠ p ∧ b ≠ O ∧ b ≠ D)
          ⟨[], [], same_new hD, upd_same, RowsAt.nil, rfl, fun b hb => by simp at hb⟩ ?_ ?_⟩
        · rintro i H7 hi ⟨as7, rows7, s7, t7, rs7, l7, na7⟩
          refine ⟨rfl, _, rfl, _, rfl, _, _, rfl, rfl, _, rfl, _, _, rfl, rfl, (by show 2 ≤ sizeLine; decide), fun b hb => ?_⟩
          have sb : Same H7 (upd H7 b (.lst [.int (0 + (i : Int)), .int (39 + n0 - 1 - (0 + (i : Int)))])) := same_new hb
          have nb := pool_new (P6.keep s7) hb
          have nbO : b ≠ O := (ne_of_none (s7 _ _ hO6) hb).symm
          have nbD : b ≠ D := (ne_of_none t7 hb).symm
          have hm : ∀ c, c ∈ as7 ++ [b] → c ≠ p ∧ c ≠ O ∧ c ≠ D := fun c hc => by
            rcases List.mem_append.mp hc with hc | hc
            · exact na7 c hc
            · have e : c = b := by simpa using hc
              rw [e]
              exact ⟨nb.1, nbO, nbD⟩
          refine ⟨_, sb _ _ t7, small1000 (by rw [List.length_map, rs7.1]; omega), as7 ++ [b], rows7 ++ [[0 + (i : Int), 39 + n0 - 1 - (0 + (i : Int))]], fun c ob e => ?_, by rw [upd_same, List.map_append]; rfl,
            ((rs7.same sb).push (r := [0 + (i : Int), 39 + n0 - 1 - (0 + (i : Int))]) upd_same).keep fun c hc ob e => by rw [upd_ne (hm c hc).2.2]; exact e, by rw [List.length_append, l7]; rfl, hm⟩
          rw [upd_ne (ne_of_none e hD)]
          exact sb _ _ (s7 _ _ e)
        rintro H7 ⟨as7, rows7, s7, t7, rs7, l7, na7⟩
        refine ⟨(by show 2 ≤ sizeLine; decide), fun l' hl' => ?_⟩
        have P7 := P6.keep s7
        have nl := pool_new P7 hl'
        have sl : Same H7 (upd H7 l' (.lst [.ref O, .ref D])) := same_new hl'
        have nD := pool_new P6 hD
        have hlen : (List.replicate n (3 : Int)).length ≤ 42 := by rw [List.length_replicate]; exact hn2
        exact ⟨_, none, none, none, l', O, D, as7, List.replicate n (3 : Int), rows7, rfl, ⟨P7.keep sl, upd_same, ⟨sl _ _ (s7 _ _ hO6), sl _ _ t7, rs7.same sl, by omega, by omega⟩, nl.1, (ne_of_none (s7 _ _ hO6) hl').symm, (ne_of_none t7 hl').symm,
          nO.1, nD.1, ne_of_none hO6 hD, nO.2.symm, nD.2.symm, na7⟩, hlen, by omega⟩
      · exact ⟨none, none, none, none, l, o, t, as, os, rows, rfl, W2.took k3 P3, by omega, by omega⟩
    -- the word is spoilt at no, one or two places
    clear W2 hos hrs
    rintro σ H' ⟨y3, y4, y5, y6, l, o, t, as, os, rows, rfl, W, ho, hrw⟩
    refine ⟨MidL a p sp ns 44, ?_, ?_⟩
    · refine ⟨_, rfl, p, sp, ns, 3, rfl, W.pool, by decide, by decide, fun H3 r k3 P3 r0 r3 => ⟨_, rfl, by omega, by omega, for_range (lo := 0) (fun i σ H' => MidL a p sp ns (42 + i) σ H') ⟨y3, y4, y5, y6, l, o, t, as, os, rows, rfl, W.took k3 P3, ho, by omega⟩ ?_ ?_⟩⟩
      · rintro i σ H4 hi ⟨y3, y4, y5, y6, l, o, t, as, os, rows, rfl, W, ho, hrw⟩
        refine ⟨_, rfl, _, rfl, l, _, 0, _, rfl, rfl, SqL.of W.hl, atI_nat (j := 0) rfl, _, rfl, l, _, 1, _, rfl, rfl, SqL.of W.hl, atI_nat (j := 1) rfl, p, sp, l, o, t, ns, as, os, rows, rfl, W, by omega, by omega, fun H5 as5 os5 rows5 W5 ho5 hr5 => ?_⟩
        have q5 := W5.tab.so
        have q6 := W5.tab.st
        -- the first comprehension
        refine ⟨_, rfl, l, _, 0, _, rfl, rfl, SqL.of W5.hl, atI_nat (j := 0) rfl, o, rfl, ⟨_, SqL.of W5.tab.o⟩, fun D hD => lc_list (K := K) (a := o) (xs := os5.map V.int) (fun i H' => ∃ acc, H' = upd H5 D (.lst acc) ∧ acc.length ≤ i) ⟨_, rfl, Nat.zero_le _⟩
          (fun i H' _ ⟨acc, e, _⟩ => by rw [e]; exact SqL.of (same_new hD _ _ W5.tab.o)) ?_ ?_⟩
        · rintro m y H' hm ⟨acc, rfl, hacc⟩
          obtain ⟨v, hv, rfl⟩ := get_int hm
          have hmm : m < os5.length := (List.getElem?_eq_some_iff.mp hv).1
          refine ⟨rfl, _, rfl, v, 0, 9, rfl, _, rfl, ite2 (fun h => ?_) (fun h => ?_)⟩
          · exact ⟨_, rfl, acc, upd_same, small1000 (by omega), _, upd_upd, by rw [List.length_append]; show _ + 1 ≤ _; omega⟩
          · exact ⟨acc, rfl, by omega⟩
        rintro H6 ⟨acc, e6, _⟩
        have s6 : Same H5 H6 := by
          rw [e6]
          exact same_new hD
        have d6 : H6 D = some (.lst acc) := by
          rw [e6]
          exact upd_same
        clear e6
        have W6 := W5.grow s6
        -- the second comprehension
        refine ⟨_, rfl, l, _, 1, _, rfl, rfl, SqL.of W6.hl, atI_nat (j := 1) rfl, t, rfl, ⟨_, SqL.of W6.tab.t⟩, fun D2 hD2 => lc_list (K := K) (a := t) (xs := as5.map V.ref) (fun i H' => ∃ acc, H' = upd H6 D2 (.lst acc) ∧ acc.length ≤ i) ⟨_, rfl, Nat.zero_le _⟩
          (fun i H' _ ⟨acc, e, _⟩ => by rw [e]; exact SqL.of (same_new hD2 _ _ W6.tab.t)) ?_ ?_⟩
        · rintro m y H' hm ⟨acc2, rfl, hacc⟩
          obtain ⟨b, r, rfl, hb, hr', hrb⟩ := W6.tab.rs.get hm
          have hmm : m < rows5.length := (List.getElem?_eq_some_iff.mp hr').1
          have sD : Same H6 (upd H6 D2 (.lst acc2)) := same_new hD2
          refine ⟨rfl, _, rfl, _, rfl, l, _, 0, _, rfl, rfl, SqL.of (sD _ _ W6.hl), atI_nat (j := 0) rfl, o, _, rfl, .inl (SqL.of (sD _ _ W6.tab.o)), b, r, _, rfl, sD _ _ hrb, _, rfl, ite2 (fun h => ?_) (fun h => ?_)⟩
          · exact ⟨_, rfl, acc2, upd_same, small1000 (by omega), _, upd_upd, by rw [List.length_append]; show _ + 1 ≤ _; omega⟩
          · exact ⟨acc2, rfl, by omega⟩
        rintro H7 ⟨acc2, e7, _⟩
        have s7 : Same H6 H7 := by
          rw [e7]
          exact same_new hD2
        have d7 : H7 D2 = some (.lst acc2) := by
          rw [e7]
          exact upd_same
        clear e7
        have W7 := W6.grow s7
        -- break, or the next turn
        refine ⟨_, rfl, _, .inl ⟨_, SqL.of (s7 _ _ d6), rfl⟩, ite2 (fun h => ?_) (fun h => ?_)⟩
        · exact ⟨_, _, _, _, l, o, t, as5, os5, rows5, rfl, W7, by omega, by omega⟩
        · refine ⟨_, rfl, _, .inl ⟨_, SqL.of d7, rfl⟩, ite2 (fun h => ?_) (fun h => ?_)⟩
          · exact ⟨_, _, _, _, l, o, t, as5, os5, rows5, rfl, W7, by omega, by omega⟩
          · exact ⟨_, _, _, _, l, o, t, as5, os5, rows5, rfl, W7, by omega, by omega⟩
      · rintro σ H4 ⟨y3, y4, y5, y6, l, o, t, as, os, rows, rfl, W, ho, hrw⟩
        exact ⟨_, _, _, _, l, o, t, as, os, rows, rfl, W, ho, by omega⟩
    -- the copies
    clear W ho hrw
    rintro σ H4 ⟨y3, y4, y5, y6, l, o, t, as, os, rows, rfl, W, ho, hrw⟩
    refine ⟨_, rfl, l, _, 0, _, rfl, rfl, SqL.of W.hl, atI_nat (j := 0) rfl, o, _, rfl, .inl (SqL.of W.tab.o), fun o2 ho2 => ?_⟩
    have c1 : Same H4 (upd H4 o2 (.lst (os.map V.int))) := same_new ho2
    refine ⟨_, rfl, l, _, 1, _, rfl, rfl, SqL.of (c1 _ _ W.hl), atI_nat (j := 1) rfl, t, _, rfl, .inl (SqL.of (c1 _ _ W.tab.t)), fun t2 ht2 => ?_⟩
    have c2 : Same (upd H4 o2 (.lst (os.map V.int))) (upd (upd H4 o2 (.lst (os.map V.int))) t2 (.lst (as.map V.ref))) := same_new ht2
    refine ⟨(by show 2 ≤ sizeLine; decide), fun l2 hl2 => ?_⟩
    have c3 : Same (upd (upd H4 o2 (.lst (os.map V.int))) t2 (.lst (as.map V.ref))) (upd (upd (upd H4 o2 (.lst (os.map V.int))) t2 (.lst (as.map V.ref))) l2 (.lst [.ref o2, .ref t2])) := same_new hl2
    have sC := (c1.trans c2).trans c3
    have T2 : Tab (upd (upd (upd H4 o2 (.lst (os.map V.int))) t2 (.lst (as.map V.ref))) l2 (.lst [.ref o2, .ref t2])) o2 t2 as os rows :=
      ⟨c3 _ _ (c2 _ _ upd_same), c3 _ _ upd_same, W.tab.rs.same sC, W.tab.so, W.tab.st⟩
    have L2' : (upd (upd (upd H4 o2 (.lst (os.map V.int))) t2 (.lst (as.map V.ref))) l2 (.lst [.ref o2, .ref t2])) l2 = some (.lst [.ref o2, .ref t2]) := upd_same
    have W5 := W.grow sC
    generalize (upd (upd (upd H4 o2 (.lst (os.map V.int))) t2 (.lst (as.map V.ref))) l2 (.lst [.ref o2, .ref t2])) = H5 at T2 L2' W5 ⊢
    -- the two verdicts
    refine ⟨_, rfl, l2, _, 0, _, rfl, rfl, SqL.of L2', atI_nat (j := 0) rfl, _, rfl, l2, _, 1, _, rfl, rfl, SqL.of L2', atI_nat (j := 1) rfl, o2, t2, as, os, rows, rfl, T2, fun v H6 s6 A6 => ?_⟩
    have W6 := W5.grow s6
    refine ⟨_, rfl, l, _, 0, _, rfl, rfl, SqL.of W6.hl, atI_nat (j := 0) rfl, _, rfl, l, _, 1, _, rfl, rfl, SqL.of W6.hl, atI_nat (j := 1) rfl, o, t, as, os, rows, rfl, W6.tab, fun v' H7 s7 A7 => ?_⟩
    have W7 := W6.grow s7
    have s67 := s6.trans s7
    have vd := verdict_data os rows
    have wd := word_data os rows
    refine ⟨_, _, (A6.same s7).dp, A7.dp, vd.1, vd.1, _, rfl, ite2 (fun h => ?_) (fun h => absurd vd.2 h)⟩
    refine ⟨_, rfl, _, rfl, wordD os rows, wordD os rows, dp_word (s67 _ _ L2') (T2.same s67), dp_word W7.hl W7.tab, wd.1, wd.1, ?_⟩
    rw [wd.2]
    exact q _
end
end K34

set_option Elab.async false
set_option linter.all false
set_option maxRecDepth 100000
set_option maxHeartbeats 4000000
/-! # What the top has left, and the end -/
namespace K34
open PySem PySem.Spec L2
open PyProof.Rows hiding St
theorem kit_no {K : PySem.W.Frag} {A C : Addr} (i : PySem.W.isClsIn K C = true) (t : PySem.W.typeIn K (.ref C) = some (.type "type")) (s : PySem.W.subIn K (.ref A) (.ref C) = some false) (n : A ≠ C) : PySem.W.kitOne K (.ref A) (.ref C) = some false := by
  have i' : (PySem.W.clsIn K C).isSome = true := i
  have e : (Value.ref A == Value.ref C) = false := by simp [n]
  unfold PySem.W.kitOne
  rw [e, if_neg Bool.false_ne_true]
  show (if ((PySem.W.clsIn K C).isSome && PySem.W.typeIn K (.ref C) == some (.type "type")) = true then PySem.W.subIn K (.ref A) (.ref C) else none) = some false
  rw [i', t, s]
  rfl
theorem all_mk {P : Program} {w : World} {K : PySem.W.Frag} {h : Heap} {mg : Str → Option Value} {fa : Addr} (X : K.In h) (G : h.Ns mainGlobals mg) (hfa : mg "law" = some (.ref fa))
    {g0 : Addr} {od0 an0 : Option Addr} {sl0 : Array (Option Value)} {oc0 kV0 dc0 pm0 cd0 ct0 : Value}
    {g1 : Addr} {od1 an1 : Option Addr} {sl1 : Array (Option Value)} {oc1 kV1 dc1 pm1 cd1 ct1 : Value}
    {g2 : Addr} {od2 an2 : Option Addr} {sl2 : Array (Option Value)} {oc2 kV2 dc2 pm2 cd2 ct2 : Value}
    {g3 : Addr} {od3 an3 : Option Addr} {sl3 : Array (Option Value)} {oc3 kV3 dc3 pm3 cd3 ct3 : Value}
    {g4 : Addr} {od4 an4 : Option Addr} {sl4 : Array (Option Value)} {oc4 kV4 dc4 pm4 cd4 ct4 : Value}
    {g5 : Addr} {od5 an5 : Option Addr} {sl5 : Array (Option Value)} {oc5 kV5 dc5 pm5 cd5 ct5 : Value}
    {g6 : Addr} {od6 an6 : Option Addr} {sl6 : Array (Option Value)} {oc6 kV6 dc6 pm6 cd6 ct6 : Value}
    {g7 : Addr} {od7 an7 : Option Addr} {sl7 : Array (Option Value)} {oc7 kV7 dc7 pm7 cd7 ct7 : Value}
    {g8 : Addr} {od8 an8 : Option Addr} {sl8 : Array (Option Value)} {oc8 kV8 dc8 pm8 cd8 ct8 : Value}
    {g9 : Addr} {od9 an9 : Option Addr} {sl9 : Array (Option Value)} {oc9 kV9 dc9 pm9 cd9 ct9 : Value}
    {g10 : Addr} {od10 an10 : Option Addr} {sl10 : Array (Option Value)} {oc10 kV10 dc10 pm10 cd10 ct10 : Value}
    {g11 : Addr} {od11 an11 : Option Addr} {sl11 : Array (Option Value)} {oc11 kV11 dc11 pm11 cd11 ct11 : Value}
    {CT fI : Addr} {odI anI : Option Addr} {slI : Array (Option Value)} {ocI kVI dcI pmI cdI ctI : Value}
    {CM fM RM ccM cdaM : Addr} {nmM qM : Str} {NM : Addr} {bsM : List Value} {snM : List Str} {subM : List Value} {abM : Bool} {colM : Option Bool} {ddM : Option Addr} {m0M m1M m2M m3M m5M : Option Value}
    {ocM kVM dcM pmM ctM cclM clM : Value} {odM anM cddM cldM : Option Addr} {vsM : Array Value} {olM ccsM cslM : Array (Option Value)} {fileM : Str} {tfM : Tok}
    {CO fO RO ccO cdaO : Addr} {nmO qO : Str} {NO : Addr} {bsO : List Value} {snO : List Str} {subO : List Value} {abO : Bool} {colO : Option Bool} {ddO : Option Addr} {m0O m1O m2O m3O m5O : Option Value}
    {ocO kVO dcO pmO ctO cclO clO : Value} {odO anO cddO cldO : Option Addr} {vsO : Array Value} {olO ccsO cslO : Array (Option Value)} {fileO : Str} {tfO : Tok}
    {CC : Addr}
    {tMost tCap : Tok}
    (a0 : PySem.W.nsIn K mainGlobals "is_output" = some (some (.ref g0)))
    (l0 : K.lookup g0 = some ⟨oc0, od0, .func (PySem.W.fnOf "is_output" "is_output" (defArgs sIsOut) (defBody sIsOut) (defScope sIsOut) .none kV0 dc0 pm0 an0 cd0 ct0), sl0⟩)
    (c0 : PySem.W.codeIn K cd0 "is_output" = true)
    (k0 : PySem.W.keepIn K (.ref g0) = true)
    (a1 : PySem.W.nsIn K mainGlobals "is_row" = some (some (.ref g1)))
    (l1 : K.lookup g1 = some ⟨oc1, od1, .func (PySem.W.fnOf "is_row" "is_row" (defArgs sIsRow) (defBody sIsRow) (defScope sIsRow) .none kV1 dc1 pm1 an1 cd1 ct1), sl1⟩)
    (c1 : PySem.W.codeIn K cd1 "is_row" = true)
    (k1 : PySem.W.keepIn K (.ref g1) = true)
    (a2 : PySem.W.nsIn K mainGlobals "_law_wide" = some (some (.ref g2)))
    (l2 : K.lookup g2 = some ⟨oc2, od2, .func (PySem.W.fnOf "_law_wide" "_law_wide" (defArgs sWide) (defBody sWide) (defScope sWide) .none kV2 dc2 pm2 an2 cd2 ct2), sl2⟩)
    (c2 : PySem.W.codeIn K cd2 "_law_wide" = true)
    (k2 : PySem.W.keepIn K (.ref g2) = true)
    (a3 : PySem.W.nsIn K mainGlobals "_law_take" = some (some (.ref g3)))
    (l3 : K.lookup g3 = some ⟨oc3, od3, .func (PySem.W.fnOf "_law_take" "_law_take" (defArgs sTake) (defBody sTake) (defScope sTake) .none kV3 dc3 pm3 an3 cd3 ct3), sl3⟩)
    (c3 : PySem.W.codeIn K cd3 "_law_take" = true)
    (k3 : PySem.W.keepIn K (.ref g3) = true)
    (a4 : PySem.W.nsIn K mainGlobals "_law_pool" = some (some (.ref g4)))
    (l4 : K.lookup g4 = some ⟨oc4, od4, .func (PySem.W.fnOf "_law_pool" "_law_pool" (defArgs sPool) (defBody sPool) (defScope sPool) .none kV4 dc4 pm4 an4 cd4 ct4), sl4⟩)
    (c4 : PySem.W.codeIn K cd4 "_law_pool" = true)
    (k4 : PySem.W.keepIn K (.ref g4) = true)
    (a5 : PySem.W.nsIn K mainGlobals "_law_told_states" = some (some (.ref g5)))
    (l5 : K.lookup g5 = some ⟨oc5, od5, .func (PySem.W.fnOf "_law_told_states" "_law_told_states" (defArgs sStates) (defBody sStates) (defScope sStates) .none kV5 dc5 pm5 an5 cd5 ct5), sl5⟩)
    (c5 : PySem.W.codeIn K cd5 "_law_told_states" = true)
    (k5 : PySem.W.keepIn K (.ref g5) = true)
    (a6 : PySem.W.nsIn K mainGlobals "_law_whole" = some (some (.ref g6)))
    (l6 : K.lookup g6 = some ⟨oc6, od6, .func (PySem.W.fnOf "_law_whole" "_law_whole" (defArgs sWhole) (defBody sWhole) (defScope sWhole) .none kV6 dc6 pm6 an6 cd6 ct6), sl6⟩)
    (c6 : PySem.W.codeIn K cd6 "_law_whole" = true)
    (k6 : PySem.W.keepIn K (.ref g6) = true)
    (a7 : PySem.W.nsIn K mainGlobals "_law_row" = some (some (.ref g7)))
    (l7 : K.lookup g7 = some ⟨oc7, od7, .func (PySem.W.fnOf "_law_row" "_law_row" (defArgs sRow) (defBody sRow) (defScope sRow) .none kV7 dc7 pm7 an7 cd7 ct7), sl7⟩)
    (c7 : PySem.W.codeIn K cd7 "_law_row" = true)
    (k7 : PySem.W.keepIn K (.ref g7) = true)
    (a8 : PySem.W.nsIn K mainGlobals "_law_due" = some (some (.ref g8)))
    (l8 : K.lookup g8 = some ⟨oc8, od8, .func (PySem.W.fnOf "_law_due" "_law_due" (defArgs sDue) (defBody sDue) (defScope sDue) .none kV8 dc8 pm8 an8 cd8 ct8), sl8⟩)
    (c8 : PySem.W.codeIn K cd8 "_law_due" = true)
    (k8 : PySem.W.keepIn K (.ref g8) = true)
    (a9 : PySem.W.nsIn K mainGlobals "_law_told" = some (some (.ref g9)))
    (l9 : K.lookup g9 = some ⟨oc9, od9, .func (PySem.W.fnOf "_law_told" "_law_told" (defArgs sTold) (defBody sTold) (defScope sTold) .none kV9 dc9 pm9 an9 cd9 ct9), sl9⟩)
    (c9 : PySem.W.codeIn K cd9 "_law_told" = true)
    (k9 : PySem.W.keepIn K (.ref g9) = true)
    (a10 : PySem.W.nsIn K mainGlobals "_law_spoil" = some (some (.ref g10)))
    (l10 : K.lookup g10 = some ⟨oc10, od10, .func (PySem.W.fnOf "_law_spoil" "_law_spoil" (defArgs sSpoil) (defBody sSpoil) (defScope sSpoil) .none kV10 dc10 pm10 an10 cd10 ct10), sl10⟩)
    (c10 : PySem.W.codeIn K cd10 "_law_spoil" = true)
    (k10 : PySem.W.keepIn K (.ref g10) = true)
    (a11 : PySem.W.nsIn K mainGlobals "law" = some (some (.ref g11)))
    (l11 : K.lookup g11 = some ⟨oc11, od11, .func (PySem.W.fnOf "law" "law" (defArgs sLaw) (defBody sLaw) (defScope sLaw) .none kV11 dc11 pm11 an11 cd11 ct11), sl11⟩)
    (c11 : PySem.W.codeIn K cd11 "law" = true)
    (k11 : PySem.W.keepIn K (.ref g11) = true)
    (aT : PySem.W.nsIn K mainGlobals "Told" = some (some (.ref CT)))
    (iT : PySem.W.findIn K (.ref CT) "__init__" = some (some (.ref fI)))
    (fT : PySem.W.isFn K (.ref fI) = true)
    (lI : K.lookup fI = some ⟨ocI, odI, .func (PySem.W.fnOf "__init__" "Told.__init__" (defArgs sInitT) (defBody sInitT) (defScope sInitT) .none kVI dcI pmI anI cdI ctI), slI⟩)
    (cI : PySem.W.codeIn K cdI "Told.__init__" = true)
    (kI : PySem.W.keepIn K (.ref fI) = true)
    (pgT : PySem.W.plainGet K CT Str.empty = true)
    (hdT : PySem.W.hasDictIn K CT = true)
    (poT : PySem.W.plainOver K CT = true)
    (saT : PySem.W.findIn K (.ref CT) "__setattr__" = some (some (.builtin "object.__setattr__")))
    (mkT : PySem.W.makesIn K CT = true)
    (kcT : PySem.W.keepIn K (.ref CT) = true)
    (nO : PySem.W.findIn K (.ref CT) "outputs" = some none)
    (nT : PySem.W.findIn K (.ref CT) "table" = some none)
    (aM : PySem.W.nsIn K mainGlobals "Misused" = some (some (.ref CM)))
    (xM : K.lookup CM = some (excClassObj nmM qM CM NM bsM [.ref RM, .type "ValueError", .type "Exception", .type "BaseException", .type "object"] true snM subM abM colM ddM m0M m1M m2M m3M m5M "ValueError.__new__"))
    (saM : PySem.W.findIn K (.ref CM) "__setattr__" = some (some (.builtin "object.__setattr__")))
    (noM : PySem.W.findIn K (.ref CM) "why" = some none)
    (iM : PySem.W.findIn K (.ref CM) "__init__" = some (some (.ref fM)))
    (tM : PySem.W.typeIn K (.ref fM) = some (.type "function"))
    (kcM : PySem.W.keepIn K (.ref CM) = true)
    (beM : PySem.W.subIn K (.ref CM) (.type "BaseException") = some true)
    (veM : PySem.W.subIn K (.ref CM) (.type "ValueError") = some true)
    (tyM : PySem.W.typeIn K (.ref CM) = some (.type "type"))
    (seM : PySem.W.mroIn K CM (.ref CM) = some true)
    (suM : PySem.W.ks_superIn K CM CM "__init__" = some (some (.builtin "ValueError.__init__")))
    (hdM : PySem.W.hasDictIn K CM = true)
    (gaM : PySem.W.findIn K (.ref CM) "__getattribute__" = some (some (.builtin "BaseException.__getattribute__")))
    (ggM : PySem.W.findIn K (.ref CM) "__getattr__" = some none)
    (llM : K.lookup fM = some ⟨ocM, odM, .func (PySem.W.fnX "__init__" "Misused.__init__" (defArgs sInitM) (defBody sInitM) (defScope sInitM) [("__class__", ccM)] .none kVM dcM pmM anM (.ref cdaM) ctM), olM⟩)
    (cdM : PySem.W.codeIn K (.ref cdaM) "Misused.__init__" = true)
    (coM : K.lookup cdaM = some ⟨cclM, cddM, .fields vsM, ccsM⟩)
    (fiM : vsM[2]? = some (.str fileM tfM))
    (fnM : ((P.main.file : Str) == fileM) = true)
    (ceM : K.lookup ccM = some ⟨clM, cldM, .cell (some (.ref CM)), cslM⟩)
    (aO : PySem.W.nsIn K mainGlobals "Oversized" = some (some (.ref CO)))
    (xO : K.lookup CO = some (excClassObj nmO qO CO NO bsO [.ref RO, .type "ValueError", .type "Exception", .type "BaseException", .type "object"] true snO subO abO colO ddO m0O m1O m2O m3O m5O "ValueError.__new__"))
    (saO : PySem.W.findIn K (.ref CO) "__setattr__" = some (some (.builtin "object.__setattr__")))
    (noO : PySem.W.findIn K (.ref CO) "limit" = some none)
    (iO : PySem.W.findIn K (.ref CO) "__init__" = some (some (.ref fO)))
    (tO : PySem.W.typeIn K (.ref fO) = some (.type "function"))
    (kcO : PySem.W.keepIn K (.ref CO) = true)
    (beO : PySem.W.subIn K (.ref CO) (.type "BaseException") = some true)
    (veO : PySem.W.subIn K (.ref CO) (.type "ValueError") = some true)
    (tyO : PySem.W.typeIn K (.ref CO) = some (.type "type"))
    (seO : PySem.W.mroIn K CO (.ref CO) = some true)
    (suO : PySem.W.ks_superIn K CO CO "__init__" = some (some (.builtin "ValueError.__init__")))
    (hdO : PySem.W.hasDictIn K CO = true)
    (gaO : PySem.W.findIn K (.ref CO) "__getattribute__" = some (some (.builtin "BaseException.__getattribute__")))
    (ggO : PySem.W.findIn K (.ref CO) "__getattr__" = some none)
    (llO : K.lookup fO = some ⟨ocO, odO, .func (PySem.W.fnX "__init__" "Oversized.__init__" (defArgs sInitO) (defBody sInitO) (defScope sInitO) [("__class__", ccO)] .none kVO dcO pmO anO (.ref cdaO) ctO), olO⟩)
    (cdO : PySem.W.codeIn K (.ref cdaO) "Oversized.__init__" = true)
    (coO : K.lookup cdaO = some ⟨cclO, cddO, .fields vsO, ccsO⟩)
    (fiO : vsO[2]? = some (.str fileO tfO))
    (fnO : ((P.main.file : Str) == fileO) = true)
    (ceO : K.lookup ccO = some ⟨clO, cldO, .cell (some (.ref CO)), cslO⟩)
    (aC : PySem.W.nsIn K mainGlobals "Clashing" = some (some (.ref CC)))
    (icC : PySem.W.isClsIn K CC = true)
    (tyC : PySem.W.typeIn K (.ref CC) = some (.type "type"))
    (scMC : PySem.W.subIn K (.ref CM) (.ref CC) = some false)
    (scMM : PySem.W.subIn K (.ref CM) (.ref CM) = some true)
    (scOM : PySem.W.subIn K (.ref CO) (.ref CM) = some false)
    (scOO : PySem.W.subIn K (.ref CO) (.ref CO) = some true)
    (caM : PySem.W.findIn K (.ref CM) "__class__" = some (some (.builtin "object.__class__")))
    (hn : PySem.W.specialIn K (.builtin "object.__class__") "__get__" = some (some (.builtin "getset_descriptor.__get__")))
    (ht : PySem.W.takesIn K (.builtin "object.__class__") = some true)
    (hmM : PySem.W.mroIn K CM (.type "object") = some true)
    (opq : PySem.W.nsIn K cStatics "thirdparty.any" = some none)
    (vMost : PySem.W.nsIn K mainGlobals "MOST" = some (some (.int 9 tMost)))
    (vCap : PySem.W.nsIn K mainGlobals "MAX_STATES" = some (some (.int 40 tCap)))
    (z_isinstance : PySem.W.nsIn K mainGlobals "isinstance" = some none)
    (z_int : PySem.W.nsIn K mainGlobals "int" = some none)
    (z_bool : PySem.W.nsIn K mainGlobals "bool" = some none)
    (z_list : PySem.W.nsIn K mainGlobals "list" = some none)
    (z_len : PySem.W.nsIn K mainGlobals "len" = some none)
    (z_all : PySem.W.nsIn K mainGlobals "all" = some none)
    (z_range : PySem.W.nsIn K mainGlobals "range" = some none)
    (z_abs : PySem.W.nsIn K mainGlobals "abs" = some none)
    (z_min : PySem.W.nsIn K mainGlobals "min" = some none)
    (z_max : PySem.W.nsIn K mainGlobals "max" = some none)
    (z_super : PySem.W.nsIn K mainGlobals "super" = some none)
    (z_str : PySem.W.nsIn K mainGlobals "str" = some none)
    (top : (P.main.scope.names.lookup ("super" : Str)).isSome = false)
    : ∃ fd : FuncData, (∀ (s : Shared) (v : Value), BindsTo s fd ⟨[v], []⟩ [("_law_script", v)]) ∧ ∀ base : Heap, K.In base → base.Ns mainGlobals mg → FnOk P w K mg base CX0 6 fa fd ["_law_script"] (spLaw K) := by
  have e := hfa.symm.trans (PySem.W.mg_of X G a11)
  cases e
  have F0 := fun_mk (st := sIsOut) l0 c0 k0
  have b0 := F0.binds (ps := ["value"]) fun _ _ _ _ _ _ us hl => match us, hl with | [_], _ => rfl
  have H0 : Hd K mg "is_output" sIsOut ["value"] g0 _ := ⟨F0, PySem.W.mg_of X G a0, b0⟩
  have F1 := fun_mk (st := sIsRow) l1 c1 k1
  have b1 := F1.binds (ps := ["row", "states"]) fun _ _ _ _ _ _ us hl => match us, hl with | [_, _], _ => rfl
  have H1 : Hd K mg "is_row" sIsRow ["row", "states"] g1 _ := ⟨F1, PySem.W.mg_of X G a1, b1⟩
  have F2 := fun_mk (st := sWide) l2 c2 k2
  have b2 := F2.binds (ps := ["_law_script", "_law_k"]) fun _ _ _ _ _ _ us hl => match us, hl with | [_, _], _ => rfl
  have H2 : Hd K mg "_law_wide" sWide ["_law_script", "_law_k"] g2 _ := ⟨F2, PySem.W.mg_of X G a2, b2⟩
  have F3 := fun_mk (st := sTake) l3 c3 k3
  have b3 := F3.binds (ps := ["_law_pool_here", "_law_most"]) fun _ _ _ _ _ _ us hl => match us, hl with | [_, _], _ => rfl
  have H3 : Hd K mg "_law_take" sTake ["_law_pool_here", "_law_most"] g3 _ := ⟨F3, PySem.W.mg_of X G a3, b3⟩
  have F4 := fun_mk (st := sPool) l4 c4 k4
  have b4 := F4.binds (ps := ["_law_script"]) fun _ _ _ _ _ _ us hl => match us, hl with | [_], _ => rfl
  have H4 : Hd K mg "_law_pool" sPool ["_law_script"] g4 _ := ⟨F4, PySem.W.mg_of X G a4, b4⟩
  have F5 := fun_mk (st := sStates) l5 c5 k5
  have b5 := F5.binds (ps := ["_law_pool_here"]) fun _ _ _ _ _ _ us hl => match us, hl with | [_], _ => rfl
  have H5 : Hd K mg "_law_told_states" sStates ["_law_pool_here"] g5 _ := ⟨F5, PySem.W.mg_of X G a5, b5⟩
  have F6 := fun_mk (st := sWhole) l6 c6 k6
  have b6 := F6.binds (ps := ["_law_value", "_law_least", "_law_most"]) fun _ _ _ _ _ _ us hl => match us, hl with | [_, _, _], _ => rfl
  have H6 : Hd K mg "_law_whole" sWhole ["_law_value", "_law_least", "_law_most"] g6 _ := ⟨F6, PySem.W.mg_of X G a6, b6⟩
  have F7 := fun_mk (st := sRow) l7 c7 k7
  have b7 := F7.binds (ps := ["_law_row_here", "_law_size"]) fun _ _ _ _ _ _ us hl => match us, hl with | [_, _], _ => rfl
  have H7 : Hd K mg "_law_row" sRow ["_law_row_here", "_law_size"] g7 _ := ⟨F7, PySem.W.mg_of X G a7, b7⟩
  have F8 := fun_mk (st := sDue) l8 c8 k8
  have b8 := F8.binds (ps := ["_law_outputs", "_law_table"]) fun _ _ _ _ _ _ us hl => match us, hl with | [_, _], _ => rfl
  have H8 : Hd K mg "_law_due" sDue ["_law_outputs", "_law_table"] g8 _ := ⟨F8, PySem.W.mg_of X G a8, b8⟩
  have F9 := fun_mk (st := sTold) l9 c9 k9
  have b9 := F9.binds (ps := ["_law_outputs", "_law_table"]) fun _ _ _ _ _ _ us hl => match us, hl with | [_, _], _ => rfl
  have H9 : Hd K mg "_law_told" sTold ["_law_outputs", "_law_table"] g9 _ := ⟨F9, PySem.W.mg_of X G a9, b9⟩
  have F10 := fun_mk (st := sSpoil) l10 c10 k10
  have b10 := F10.binds (ps := ["_law_pool_here", "_law_outputs", "_law_table"]) fun _ _ _ _ _ _ us hl => match us, hl with | [_, _, _], _ => rfl
  have H10 : Hd K mg "_law_spoil" sSpoil ["_law_pool_here", "_law_outputs", "_law_table"] g10 _ := ⟨F10, PySem.W.mg_of X G a10, b10⟩
  have F11 := fun_mk (st := sLaw) l11 c11 k11
  have b11 := F11.binds (ps := ["_law_script"]) fun _ _ _ _ _ _ us hl => match us, hl with | [_], _ => rfl
  have H11 : Hd K mg "law" sLaw ["_law_script"] _ _ := ⟨F11, PySem.W.mg_of X G a11, b11⟩
  have FI := fun_mk (st := sInitT) lI cI kI
  have bI := FI.binds (ps := ["self", "outputs", "table"]) fun _ _ _ _ _ _ us hl => match us, hl with | [_, _, _], _ => rfl
  have nm : Nm mg := ⟨PySem.W.mg_none_of X G z_isinstance, PySem.W.mg_none_of X G z_int, PySem.W.mg_none_of X G z_bool, PySem.W.mg_none_of X G z_list, PySem.W.mg_none_of X G z_len, PySem.W.mg_none_of X G z_all, PySem.W.mg_none_of X G z_range,
    PySem.W.mg_none_of X G z_abs, PySem.W.mg_none_of X G z_min, PySem.W.mg_none_of X G z_max, ⟨_, PySem.W.mg_of X G vMost⟩, ⟨_, PySem.W.mg_of X G vCap⟩⟩
  have lowM : PySem.LowM.LowTxt P K mg CM fM := { gC := PySem.W.mg_of X G aM, cls := ⟨_, _, _, _, _, _, _, _, _, _, _, _, _, _, _, xM, rfl⟩, sa := saM, noN := noM, iC := iM, tC := tM, kC := kcM, exC := beM, veC := veM, tyC := tyM, self := seM, sup := suM, opq := opq, mS := PySem.W.mg_none_of X G z_super, mT := PySem.W.mg_none_of X G z_str, top := top, fn := ⟨_, _, _, _, _, _, _, _, _, _, _, _, _, _, _, _, _, _, _, llM, cdM, coM, fiM, fnM, ceM⟩ }
  have lowO : PySem.LowO.LowTxt P K mg CO fO := { gC := PySem.W.mg_of X G aO, cls := ⟨_, _, _, _, _, _, _, _, _, _, _, _, _, _, _, xO, rfl⟩, sa := saO, noN := noO, iC := iO, tC := tO, kC := kcO, exC := beO, veC := veO, tyC := tyO, self := seO, sup := suO, opq := opq, mS := PySem.W.mg_none_of X G z_super, mT := PySem.W.mg_none_of X G z_str, top := top, fn := ⟨_, _, _, _, _, _, _, _, _, _, _, _, _, _, _, _, _, _, _, llO, cdO, coO, fiO, fnO, ceO⟩ }
  have nMC : CM ≠ CC := fun z => by
    rw [← z, scMM] at scMC
    cases scMC
  have T : Txt P K mg CM fM CO fO CC CT := { nm := nm, mi := lowM, ov := lowO, gC := PySem.W.mg_of X G aC, exM := ⟨gaM, ggM, beM, hdM, caM, hn, ht, hmM⟩, xfM := ⟨gaM, ggM, beM, hdM⟩, xfO := ⟨gaO, ggO, beO, hdO⟩, mm := PySem.W.exm_ref beM hdM tyM scMM, om := PySem.W.exm_ref beM hdM tyM scOM, oo := PySem.W.exm_ref beO hdO tyO scOO, mc := kit_no icC tyC scMC nMC, gT := PySem.W.mg_of X G aT, clT := ⟨pgT, hdT, poT, saT⟩, nO := nO, nT := nT }
  exact ⟨PySem.W.fnOf "law" "law" (defArgs sLaw) (defBody sLaw) (defScope sLaw) .none kV11 dc11 pm11 an11 cd11 ct11, fun s v => .of_eq rfl, fun base _ _ => ok_law H11 T FI ⟨mkT, iT, fT, kcT⟩ bI H0 H1 H2 H3 H4 H5 H6 H7 H8 H9 H10⟩
end K34
open PySem PySem.W
set_option maxRecDepth 100000 in
set_option maxHeartbeats 0 in
theorem PySem.Challenge.cw_digitwise_k34_words_refused_holds : PySem.Challenge.rw_digitwise_k34_words_refused.Holds := by
  w_on; o_law; k_head; (case hw => w_witness2)
  k_fill
  refine L2.walk_of (l := PySem.Challenge.rw_digitwise_k34_words_refused) (n := 63) (k := 6) (x := "_law_script") (CX := fun _ => L2.CX0) (sp := fun w => K34.spLaw _) rfl (by decide) rfl ⟨rfl, by decide, by decide⟩ (fun w h Y => PySem.W.kIn_of Y) ?F (fun _ _ a ns hl _ hS => ⟨a, ns, rfl, hS, hl, fun _ => rfl⟩) (fun _ _ _ _ _ h => h)
  case F =>
    intro w mg fa h KX G hmg
    refine' K34.all_mk (P := PySem.Challenge.rw_digitwise_k34_words_refused.prog) KX G hmg ?a0 ?l0 ?c0 ?k0 ?a1 ?l1 ?c1 ?k1 ?a2 ?l2 ?c2 ?k2 ?a3 ?l3 ?c3 ?k3 ?a4 ?l4 ?c4 ?k4 ?a5 ?l5 ?c5 ?k5 ?a6 ?l6 ?c6 ?k6 ?a7 ?l7 ?c7 ?k7 ?a8 ?l8 ?c8 ?k8 ?a9 ?l9 ?c9 ?k9 ?a10 ?l10 ?c10 ?k10 ?a11 ?l11 ?c11 ?k11 ?aT ?iT ?fT ?lI ?cI ?kI ?pgT ?hdT ?poT ?saT ?mkT ?kcT ?nO ?nT ?aM ?xM ?saM ?noM ?iM ?tM ?kcM ?beM ?veM ?tyM ?seM ?suM ?hdM ?gaM ?ggM ?llM ?cdM ?coM ?fiM ?fnM ?ceM ?aO ?xO ?saO ?noO ?iO ?tO ?kcO ?beO ?veO ?tyO ?seO ?suO ?hdO ?gaO ?ggO ?llO ?cdO ?coO ?fiO ?fnO ?ceO ?aC ?icC ?tyC ?scMC ?scMM ?scOM ?scOO ?caM ?hn ?ht ?hmM ?opq ?vMost ?vCap ?z_isinstance ?z_int ?z_bool ?z_list ?z_len ?z_all ?z_range ?z_abs ?z_min ?z_max ?z_super ?z_str ?top
    (case a0 => k_is)
    (case l0 => k_is)
    (case c0 => k_is)
    (case k0 => k_is)
    (case a1 => k_is)
    (case l1 => k_is)
    (case c1 => k_is)
    (case k1 => k_is)
    (case a2 => k_is)
    (case l2 => k_is)
    (case c2 => k_is)
    (case k2 => k_is)
    (case a3 => k_is)
    (case l3 => k_is)
    (case c3 => k_is)
    (case k3 => k_is)
    (case a4 => k_is)
    (case l4 => k_is)
    (case c4 => k_is)
    (case k4 => k_is)
    (case a5 => k_is)
    (case l5 => k_is)
    (case c5 => k_is)
    (case k5 => k_is)
    (case a6 => k_is)
    (case l6 => k_is)
    (case c6 => k_is)
    (case k6 => k_is)
    (case a7 => k_is)
    (case l7 => k_is)
    (case c7 => k_is)
    (case k7 => k_is)
    (case a8 => k_is)
    (case l8 => k_is)
    (case c8 => k_is)
    (case k8 => k_is)
    (case a9 => k_is)
    (case l9 => k_is)
    (case c9 => k_is)
    (case k9 => k_is)
    (case a10 => k_is)
    (case l10 => k_is)
    (case c10 => k_is)
    (case k10 => k_is)
    (case a11 => k_is)
    (case l11 => k_is)
    (case c11 => k_is)
    (case k11 => k_is)
    (case aT => k_is)
    (case iT => k_is)
    (case fT => k_is)
    (case lI => k_is)
    (case cI => k_is)
    (case kI => k_is)
    (case pgT => k_is)
    (case hdT => k_is)
    (case poT => k_is)
    (case saT => k_is)
    (case mkT => k_is)
    (case kcT => k_is)
    (case nO => k_is)
    (case nT => k_is)
    (case aM => k_is)
    (case xM => k_is)
    (case saM => k_is)
    (case noM => k_is)
    (case iM => k_is)
    (case tM => k_is)
    (case kcM => k_is)
    (case beM => k_is)
    (case veM => k_is)
    (case tyM => k_is)
    (case seM => k_is)
    (case suM => ks_is)
    (case hdM => k_is)
    (case gaM => k_is)
    (case ggM => k_is)
    (case llM => k_is)
    (case cdM => k_is)
    (case coM => k_is)
    (case fiM => exact rfl)
    (case fnM => first | rfl | decide +kernel)
    (case ceM => k_is)
    (case aO => k_is)
    (case xO => k_is)
    (case saO => k_is)
    (case noO => k_is)
    (case iO => k_is)
    (case tO => k_is)
    (case kcO => k_is)
    (case beO => k_is)
    (case veO => k_is)
    (case tyO => k_is)
    (case seO => k_is)
    (case suO => ks_is)
    (case hdO => k_is)
    (case gaO => k_is)
    (case ggO => k_is)
    (case llO => k_is)
    (case cdO => k_is)
    (case coO => k_is)
    (case fiO => exact rfl)
    (case fnO => first | rfl | decide +kernel)
    (case ceO => k_is)
    (case aC => k_is)
    (case icC => k_is)
    (case tyC => k_is)
    (case scMC => k_is)
    (case scMM => k_is)
    (case scOM => k_is)
    (case scOO => k_is)
    (case caM => k_is)
    (case hn => k_is)
    (case ht => k_is)
    (case hmM => k_is)
    (case opq => k_is)
    (case vMost => k_is)
    (case vCap => k_is)
    (case z_isinstance => k_is)
    (case z_int => k_is)
    (case z_bool => k_is)
    (case z_list => k_is)
    (case z_len => k_is)
    (case z_all => k_is)
    (case z_range => k_is)
    (case z_abs => k_is)
    (case z_min => k_is)
    (case z_max => k_is)
    (case z_super => k_is)
    (case z_str => k_is)
    (case top => first | rfl | decide +kernel)
