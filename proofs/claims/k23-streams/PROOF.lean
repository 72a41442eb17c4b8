import PyProof.Rows.All
import Wide.All
import OpenK.AllK
import Wide.FinOn
import KE.KExcSuper
import HandS.ForMost
import HandS.ForExc
import HandS.SortRule
import HandS.IsInst
import HandS.Wide
import HandS.Style
import HandS.Flow
import HandS.TupAny
import HandS.TryMany
import HandS.Flt
import HandS.CallSlots
import PySem.Challenge.RW_fairwire_k23_streams_broken_off
import Wide.Loose
set_option Elab.async false
set_option linter.all false
set_option maxRecDepth 100000
set_option maxHeartbeats 4000000
/-! WireX: an own error two classes above ValueError, whose inherited __init__ says super().__init__(at); self.at = at. -/
namespace PySem
namespace WireX
open PySem.W PySem.Calls PyProof.Rows PySem.HandSPX
def iA (p1 p2 : Pos) : Arguments := { posonlyargs := [], args := [{ arg := "self", annotation := none, pos := p1 }, { arg := "at", annotation := none, pos := p2 }], vararg := none, kwonlyargs := [], kw_defaults := [], kwarg := none, defaults := [] }
def iB (a1 a2 a3 a4 a5 a6 q1 q2 q3 q4 : Pos) : List Stmt :=
  [.Expr (.Call (.Attribute (.Call (.Name "super" a1) [] [] a2) "__init__" a3) [.Name "at" a4] [] a5) a6, .Assign [.Attribute (.Name "self" q1) "at" q2] (.Name "at" q3) q4]
def iS : Scope := { kind := .function, names := [(PySem.Str.ofString "self", .local), (PySem.Str.ofString "at", .local), (PySem.Str.ofString "__class__", .free), (PySem.Str.ofString "super", .globalImplicit)], isGenerator := false, isCoroutine := false, more := [] }
/-- what the written part says of the error at C, the class above it at D, its __init__ at fI -/
structure Txt (P : Program) (K : Frag) (mg : Str → Option Value) (nm : Str) (C fI : Addr) : Prop where
  gC : mg nm = some (.ref C)
  cls : ∃ nm q N bs bm sn sub ab col dd k0 k1 k2 k3 k5, K.lookup C = some (excClassObj nm q C N bs bm true sn sub ab col dd k0 k1 k2 k3 k5 "ValueError.__new__") ∧ refsVE bm = true
  sa : findIn K (.ref C) "__setattr__" = some (some (.builtin "object.__setattr__"))
  ga : findIn K (.ref C) "__getattribute__" = some (some (.builtin "BaseException.__getattribute__"))
  gg : findIn K (.ref C) "__getattr__" = some none
  noN : findIn K (.ref C) "at" = some none
  iC : findIn K (.ref C) "__init__" = some (some (.ref fI))
  tC : typeIn K (.ref fI) = some (.type "function")
  kC : keepIn K (.ref C) = true
  exC : subIn K (.ref C) (.type "BaseException") = some true
  tyC : typeIn K (.ref C) = some (.type "type")
  hdC : hasDictIn K C = true
  te : exmOne K (.ref C) (.ref C) = some true
  veC : subIn K (.ref C) (.type "ValueError") = some true
  nAny : nsIn K cStatics "thirdparty.any" = some none
  nSup : mg "super" = none
  top : (P.main.scope.names.lookup ("super" : Str)).isSome = false
  fn : ∃ (oc : Value) (od : Option Addr) (doc pm : Value) (an : Option Addr) (ct : Value) (osl : Array (Option Value)) (p1 p2 a1 a2 a3 a4 a5 a6 q1 q2 q3 q4 : Pos) (cda cc D : Addr) (ccl cl : Value) (cdd cld : Option Addr) (vs : Array Value) (ccs csl : Array (Option Value)) (file : Str) (tf : Tok) (cdD : ClassData),
    (a3.endLine == a5.line) = true ∧ K.lookup fI = some ⟨oc, od, .func (ksFn "__init__" "WireError.__init__" (iA p1 p2) (iB a1 a2 a3 a4 a5 a6 q1 q2 q3 q4) iS .none .none doc pm an (.ref cda) ct cc), osl⟩ ∧ codeIn K (.ref cda) "WireError.__init__" = true ∧
      K.lookup cda = some ⟨ccl, cdd, .fields vs, ccs⟩ ∧ vs[2]? = some (.str file tf) ∧ ((P.main.file : Str) == file) = true ∧ K.lookup cc = some ⟨cl, cld, .cell (some (.ref D)), csl⟩ ∧ clsIn K D = some cdD ∧ mroIn K C (.ref D) = some true ∧
      ks_superIn K C D "__init__" = some (some (.builtin "ValueError.__init__"))
open PySem in
theorem eval_super1 {a1 a2 a3 a4 a5 : Pos} {env : Env} (h : (a3.endLine == a5.line) = true) : eval
      (.Call (.Attribute (.Call (.Name "super" a1) [] [] a2) "__init__" a3) [.Name "at" a4] [] a5) env
      = (do
    let ov ← attributeBase (.Call (.Name "super" a1) [] [] a2) "__init__" env (eval (.Call (.Name "super" a1) [] [] a2) env)
    standAt a3.atName
    let (f, first) ← holding [ov] (getMethod ov "__init__" (do return (← importBound (.Call (.Name "super" a1) [] [] a2) env).getD true))
    callWith a5 f first (backTo a5 (starEach [Expr.Name "at" a4] env)) []) := by
  rw [arm_eval_Call]
  unfold methodCall methodCallPos
  have e : methodCallForm ([Expr.Name "at" a4].length + ([] : List Keyword).length) (backTo a5 (starEach [Expr.Name "at" a4] env)) (backToKw a5 (keywordEach [] env)) = true := rfl
  rw [e]
  unfold calleeOf
  simp only [h, Bool.not_true, Bool.false_or, if_true, pure_bind]
  rfl
theorem scCell : ∀ y ∈ iS.names, y.2 ≠ NameKind.cell := by decide
theorem locOk (x : Addr) (v : Value) : ∀ y ∈ ([(("self" : Str), Value.ref x), (("at" : Str), v)] : List (Str × Value)), iS.names.lookup y.1 = some .local := by
  intro y hy
  rcases List.mem_cons.mp hy with rfl | hy
  · rfl
  · rcases List.mem_cons.mp hy with rfl | hy
    · rfl
    · cases hy
theorem one_size (v : Value) : [v].length ≤ sizeLine := by
  rw [sizeLine_eq]
  exact (by decide : 1 ≤ 16777216)
/-- what __init__ leaves of a fresh exception at x -/
structure InitEnd (h h' : Heap) (x C dx t1 : Addr) (v : Value) : Prop where
  keep : ∀ b o, b ≠ x → h.get? b = some o → h'.get? b = some o
  obj : h'.get? x = some { cls := .ref C, dict := some dx, data := .fields #[.ref t1, .none, .none, .none, .bool false, .none] }
  dbig : h.objs.size ≤ dx
  dne : dx ≠ x
  ns : h'.Ns1 dx (fun y => if y = "at" then some v else none)
structure OwnMade (h h' : Heap) (e C d : Addr) (v : Value) : Prop where
  keep : ∀ b o, h.get? b = some o → h'.get? b = some o
  new : h.objs.size ≤ e
  obj : ∃ oe vs, h'.get? e = some oe ∧ oe.cls = .ref C ∧ oe.dict = some d ∧ oe.data = .fields vs ∧ vs[1]? = some .none
  dbig : h.objs.size ≤ d
  dne : d ≠ e
  ns : h'.Ns1 d (fun y => if y = "at" then some v else none)
section
variable {prog : Program} {w : World} {A : Around} {E : Value → Shared → Prop} {R : Result → Shared → Prop} {s : Shared} {K : Frag} {mg mb : Str → Option Value} {nm : Str} {C fI : Addr}

theorem wire_init (T : Txt prog K mg nm C fI) {x t0 : Addr} {v : Value} (X : K.In s.heap) (hlim : s.heap.NoLimit) (hG : s.heap.Ns mainGlobals mg) (hB : s.heap.Ns builtinsNs mb) (hb : mb "super" = some (.type "super")) (hx : s.heap.get? x = some (excO C t0)) (hnx : K.lookup x = none) (hroom : A.depth < recursionLimit)
    (hq : ∀ h' tk dx t1, InitEnd s.heap h' x C dx t1 v → R (.ok (.ret .none)) { s with heap := h', toks := tk }) :
    codeAny (model prog w) A (.call (.ref fI) ⟨[.ref x, v], []⟩) R s := by
  obtain ⟨oc, od, doc, pm, an, ct, osl, p1, p2, a1, a2, a3, a4, a5, a6, q1, q2, q3, q4, cda, cc, D, ccl, cl, cdd, cld, vs, ccs, csl, file, tf, cdD, hpos, ho, hcd, hcode, hvs, hfile, hcell, hD, hmro, hsup⟩ := T.fn
  obtain ⟨nm', q, N, bs, bm, sn, sub, ab, col, dd, k0, k1, k2, k3, k5, hC, hbm⟩ := T.cls
  have hcl : clsIn K C = some { name := nm', bases := bs, mro := .ref C :: bm, ns := N, qualname := q, hasDict := true, slotNames := sn, subclasses := sub, abstract := ab, collection := col, hasDel := false } := by unfold clsIn; rw [hC] <;> rfl
  refine ks_codeAny_call_defAt (fd := ksFn "__init__" "WireError.__init__" (iA p1 p2) (iB a1 a2 a3 a4 a5 a6 q1 q2 q3 q4) iS .none .none doc pm an (.ref cda) ct cc) (body := iB a1 a2 a3 a4 a5 a6 q1 q2 q3 q4) (binds := [("self", .ref x), ("at", v)]) hroom (X _ _ ho) rfl hlim (codeRec_of X hcd) rfl (BindsTo.of_eq (by first | rfl | with_unfolding_all rfl)) scCell (locOk x v) (fun h₁ hn k => ?_) rfl rfl rfl
  have hxL : s.heap.objs.size ≠ x := Nat.ne_of_gt (Heap.lt_size hx)
  have X₁ : K.In h₁ := X.keeps k
  have hx₁ := k _ _ hx
  have hxC : x ≠ C := by
    rintro rfl
    rw [hnx] at hC
    cases hC
  obtain ⟨oD, hD1, hD2⟩ : ∃ oD, h₁.get? D = some oD ∧ oD.data = .cls cdD := by
    unfold clsIn at hD
    split at hD
    · rename_i c d cd' sl ho
      cases hD
      exact ⟨_, X₁ _ _ ho, rfl⟩
    · cases hD
  show wpAt _ _ (.func _ (ksEnv "WireError.__init__" iS s.heap.objs.size fI (.ref cda) cc)) (execs _ (ksEnv "WireError.__init__" iS s.heap.objs.size fI (.ref cda) cc)) _ _ _
  -- super().__init__(at)
  refine ks_wpAt_execs_cons (ks_wpAt_Expr_any (ks_wpAt_MethodCall ?_ (eval_super1 hpos)))
  · refine ks_wpAt_super_base (env := ksEnv "WireError.__init__" iS s.heap.objs.size fI (.ref cda) cc) (by rfl) (by rfl) (by decide) rfl (X₁ _ _ ho) rfl (ar := { arg := "self", annotation := none, pos := p1 }) (by rfl) rfl (X₁ _ _ hcode) rfl hvs hfile T.top ?_
    refine ks_loadName_global rfl (by rfl) (PySem.Calls.loadGlobal_builtin (env := ksEnv "WireError.__init__" iS s.heap.objs.size fI (.ref cda) cc) (hG.keeps k) T.nSup (hB.keeps k) hb ⟨rfl, ?_⟩)
    refine wpAny_loadName_free (by rfl) (by rfl) (by rfl) ⟨_, X₁ _ _ hcell, rfl⟩ ?_
    refine wpAny_loadName_local (v := .ref x) (by rfl) (by rfl) hn (by first | rfl | with_unfolding_all rfl | kernel_rfl) ?_
    refine ks_wpAny_isType_cls hD1 hD2 ⟨rfl, ?_⟩
    refine ks_wpAny_call_super (ox := excO C t0) hD1 hD2 hx₁ rfl (fun c e => by cases e) (looks_mroIn X₁ hmro) (fun h₂ e₂ k₂ => ?_)
    have X₂ : K.In h₂ := X₁.keeps k₂
    have hn₂ := hn.keeps k₂
    have hx₂ := k₂ _ _ hx₁
    have I₂ : InstAt h₂ x (excO C t0) C none := ⟨hx₂, rfl, rfl, trivial⟩
    unfold ks_superIn at hsup
    rw [hcl] at hsup
    refine kxs_getMethod kxs_ValueError e₂ (looks_opaque X₂ T.nAny) (l₀ := .ref C :: bm) (fun A Q E s k q => wpAny_bind ((looks_clsIn X₂ hcl) A _ E s k (wpAny_pure q))) rfl X₂ hsup (I₂.type.andThen (looks_subIn X₂ T.veC)) hxC (by decide) ?_
    have k₃ : ∀ b o, h₂.get? b = some o → (h₂.push (kxs_mw "ValueError.__init__" x)).get? b = some o := fun b o e => Heap.get?_push_of_some _ e
    have X₃ : K.In (h₂.push (kxs_mw "ValueError.__init__" x)) := X₂.keeps k₃
    have hn₃ := hn₂.keeps k₃
    have hx₃ := k₃ _ _ hx₂
    have hu₃ : (h₂.push (kxs_mw "ValueError.__init__" x)).get? h₂.objs.size = some (kxs_mw "ValueError.__init__" x) := Heap.get?_push_size _ rfl
    refine kxs_callWith (i := "ValueError.__init__") (x := x) (by rfl) ?_
    refine evalArgs_plain ?_
    have ld : ∀ {M : Model} {A : Around} {E : Value → Shared → Prop} {Q : Value → Shared → Prop} {h : Heap} {g : Array GenState} {d : Drawn} {t : Nat} {os : OsState} {p : Pos}, h.Ns s.heap.objs.size (fun y => List.lookup y [(("self" : Str), Value.ref x), (("at" : Str), v)].reverse) → Q v ⟨h, g, d, t, os⟩ →
        wpAny M A (eval (.Name "at" p) (ksEnv "WireError.__init__" iS s.heap.objs.size fI (.ref cda) cc)) Q E ⟨h, g, d, t, os⟩ := fun hn h =>
      wpAny_Name (wpAny_loadName_local rfl (by rfl) hn (by first | rfl | with_unfolding_all rfl | kernel_rfl) h) (by decide)
    have ld0 : ∀ {M : Model} {A : Around} {E : Value → Shared → Prop} {Q : Value → Shared → Prop} {h : Heap} {g : Array GenState} {d : Drawn} {t : Nat} {os : OsState} {p : Pos}, h.Ns s.heap.objs.size (fun y => List.lookup y [(("self" : Str), Value.ref x), (("at" : Str), v)].reverse) → Q (.ref x) ⟨h, g, d, t, os⟩ →
        wpAny M A (eval (.Name "self" p) (ksEnv "WireError.__init__" iS s.heap.objs.size fI (.ref cda) cc)) Q E ⟨h, g, d, t, os⟩ := fun hn h =>
      wpAny_Name (wpAny_loadName_local rfl (by rfl) hn (by first | rfl | with_unfolding_all rfl | kernel_rfl) h) (by decide)
    show wpAny _ _ (spliced ((false, eval (.Name "at" a4) (ksEnv "WireError.__init__" iS s.heap.objs.size fI (.ref cda) cc)) :: [])) _ _ _
    refine PySem.Calls.spliced_cons (ld hn₃ (PySem.Calls.spliced_nil ⟨hu₃, ?_⟩))
    show wpAny _ _ (call (.ref h₂.objs.size) [v]) _ _ _
    have hC₃ := X₃ _ _ hC
    refine wpAny_call (codeAny_of_tree ?_)
    show wpAny _ _ (callAny (.ref h₂.objs.size) ⟨[v], []⟩) _ _ _
    simp only [callAny]
    refine wpAny_bind (wpAny_load hu₃ ?_)
    simp only [kxs_mw, show (Value.type "method-wrapper" == Value.type "method" || Value.type "method-wrapper" == Value.type "builtin_function_or_method" || Value.type "method-wrapper" == Value.type "method-wrapper") = true by decide, if_true]
    refine KFB.if_so (by decide) ?_
    refine wpAny_bind (check_bound_init F.excBase_ValueError.toExcCallFacts hC₃ hx₃ rfl ?_)
    refine wpAny_bind (wpAny_pure (wpAny_pure ?_))
    refine ⟨plainId_quiet F.excBase_ValueError.init.plain _, codeAny_builtin F.excBase_ValueError.initEntry ?_⟩
    refine exc_init_tree (cls := .ref C) (t0 := t0) (dv := none) (c2 := .none) (c3 := .none) (b4 := .bool false) hx₃ (one_size v) fun h₄ k₄ hx₄ _ => ?_
    -- self.at = at
    have X₄ : K.In h₄ := fun a o e => k₄ a o (fun z => by rw [z, hnx] at e; cases e) (X₃ a o e)
    have nL : ∀ o, (h₂.push (kxs_mw "ValueError.__init__" x)).get? s.heap.objs.size = some o → h₄.get? s.heap.objs.size = some o := fun o e => k₄ _ o hxL e
    have hn₄ := hn₃.at nL
    refine wpAt_of_wpAny ?_
    refine wpAny_execs_cons (plainObj_wpAny_Assign_Attribute ?_)
    refine ld hn₄ (ld0 hn₄ ?_)
    refine set_plain X₄ (ox := excO C (h₂.push (kxs_mw "ValueError.__init__" x)).objs.size) (od := none) ⟨hx₄, rfl, rfl, trivial⟩ T.sa ?_
    refine exc_osa X₄ hx₄ hcl (show refsVE (.ref C :: bm) = true from hbm) rfl T.noN (fun h₃ tk₃ dx k₃' dn dne hx₃ hn₃ => ?_)
    show wpAny _ _ (execs _ _) _ _ _
    have z : s.heap.objs.size < h₄.objs.size := hn₄.lt
    refine wpAny_execs_nil (hq h₃ tk₃ dx _ ⟨fun b o hb e => k₃' b o hb (k₄ b o hb (k₃ b o (k₂ b o (k b o e)))), hx₃, Nat.le_of_lt (Nat.lt_of_lt_of_le z dn), dne, hn₃⟩)

theorem wire_made (T : Txt prog K mg nm C fI) {v : Value} (X : K.In s.heap) (hlim : s.heap.NoLimit) (hG : s.heap.Ns mainGlobals mg) (hB : s.heap.Ns builtinsNs mb) (hb : mb "super" = some (.type "super")) (hroom : A.depth + 1 < recursionLimit)
    (hq : ∀ h' tk e d, OwnMade s.heap h' e C d v → R (.ok (.ret (.ref e))) { s with heap := h', toks := tk }) :
    codeAny (model prog w) A (.call (.ref C) ⟨[v], []⟩) R s := by
  obtain ⟨nm', q, N, bs, bm, sn, sub, ab, col, dd, k0, k1, k2, k3, k5, hC, hbm⟩ := T.cls
  obtain ⟨hp, g, dr, tk, os⟩ := s
  have k : ∀ b o, hp.get? b = some o → ((hp.push (kdv_tup [v])).push (excO C hp.objs.size)).get? b = some o := fun b o e => Heap.get?_push_of_some _ (Heap.get?_push_of_some _ e)
  have hget : ((hp.push (kdv_tup [v])).push (excO C hp.objs.size)).get? (hp.objs.size + 1) = some (excO C hp.objs.size) := by heap_get
  have hnx : K.lookup (hp.objs.size + 1) = none := by
    cases e : K.lookup (hp.objs.size + 1) with
    | none => rfl
    | some o =>
      have z : hp.get? (hp.objs.size + 1) = some o := X _ _ e
      exact absurd (Nat.lt_of_succ_lt (Heap.lt_size z)) (Nat.lt_irrefl _)
  refine call_own F.excBase_ValueError (fun X => refsVE_contains X bm hbm) (X _ _ hC) (looks_findIn X T.iC) (fun self => bind_fn X self T.tC) (one_size v) ?_
  refine wire_init (s := ⟨(hp.push (kdv_tup [v])).push (excO C hp.objs.size), g, dr, tk, os⟩) T (X.keeps k) (hlim.keeps k) (hG.keeps k) (hB.keeps k) hb hget hnx ?_ fun h' tk' dx t1 ⟨k', hx, dn, dne, hns⟩ => ?_
  · show A.depth + 1 < recursionLimit
    exact hroom
  · have old : ∀ b o, hp.get? b = some o → h'.get? b = some o := fun b o e => k' b o (Nat.ne_of_lt (Nat.lt_succ_of_lt (Heap.lt_size e))) (k b o e)
    have z : hp.objs.size + 1 + 1 ≤ dx := by
      first
        | (simpa only [Heap.size_push] using dn)
        | exact dn
        | (have q := dn; rw [Heap.size_push, Heap.size_push] at q; exact q)
    exact ⟨rfl, hq h' tk' (hp.objs.size + 1) dx ⟨old, Nat.le_succ _, ⟨_, _, hx, rfl, rfl, rfl, rfl⟩, Nat.le_trans (Nat.le_trans (Nat.le_succ _) (Nat.le_succ _)) z, dne, hns⟩⟩
end
end WireX
end PySem
namespace L2
open PySem PySem.Spec PyProof.Rows
theorem relO_at {v : V} {v' : Value} (r : RelV v v') (f : Str) : RelO (List.lookup f [(("at" : Str), v)]) (if f = "at" then some v' else none) := by
  by_cases hw : f = "at"
  · subst hw
    rw [if_pos rfl]
    have q : List.lookup ("at" : Str) [(("at" : Str), v)] = some v := by simp [List.lookup]
    rw [q]
    exact r
  · rw [if_neg hw]
    have qw : (f == ("at" : Str)) = false := by simpa using hw
    have q2 : List.lookup f [(("at" : Str), v)] = none := by simp [List.lookup, qw]
    rw [q2]
    trivial
section
variable {X : Cx} {C fI : Addr} {nm : Str}
/-- nm(e), an error of the program -/
def tMkW (C : Addr) (ta : TA) : St → Hp → XK → Prop := fun σ H Q => ta σ H fun vs H1 => ∃ v, vs = [v] ∧ ∀ d, H1 d = none → Q (.ref C) (some d) (upd H1 d (.xd [(("at" : Str), v)]))
theorem pmk_wire {a : Expr} {ta : TA} {p pos : Pos} {k : Nat} (T : PySem.WireX.Txt X.prog X.K X.mg nm C fI) (hr : Room k X.A) (ha : PA X [a] ta) (hg : Gl X nm := by rfl) (hdb : (nm == ("__debug__" : Str)) = false := by decide)
    (he : starEach (a :: []) X.env = (false, eval a X.env) :: starEach [] X.env := by rfl) (hpl : (backTo pos (starEach [] X.env)).any (·.1) = false := by rfl) :
    PMk X (.Call (.Name nm p) [a] [] pos) (tMkW C ta) := by
  intro pins s σ H Q I h
  refine wpAny_Call_Name_kw (ld_glob I hg T.gC ?_ hdb)
  refine PySem.W.callWith_K (h₀ := X.base) I.ok.mod.kin T.kC (thn (ha.run pos pins s σ H _ I h) fun us s1 hh => ?_) he hpl
  obtain ⟨vs, H1, I1, r1, v, ev, q1⟩ := hh
  subst ev
  refine ⟨I1.kIn, ?_⟩
  cases r1 with
  | cons rv rn =>
    rename_i v' us'
    cases rn
    show wpAny _ _ (call (.ref C) [v']) _ _ _
    have hlim := I1.nolimit
    obtain ⟨mb, hB, hbm⟩ := I1.mod.blt
    have hBk := hB.keeps I1.bk
    have hGk := I1.mod.glob.keeps I1.bk
    have hbs : mb "super" = some (.type "super") := (hbm _ (by decide)).trans (by first | rfl | decide +kernel | kernel_rfl)
    obtain ⟨hp, g, dr, tk, os⟩ := s1
    refine wpAny_call (PySem.WireX.wire_made T I1.kIn hlim hGk hBk hbs (by have := hr.dp; omega) fun h' tk' e d M => ?_)
    show MkP X pins σ Q (.ref e) ⟨h', g, dr, tk', os⟩
    obtain ⟨oe, fv, hoe, hc, hd, hdat, h1⟩ := M.obj
    have hns := M.ns
    obtain ⟨G', g1, g2⟩ := restrict h' fun b => decide (b ≠ e)
    have gk : ∀ b, b ≠ e → G'.get? b = h'.get? b := fun b hb => g1 b (decide_eq_true hb)
    have ge : G'.get? e = none := g2 e (by simp)
    have old : ∀ b o, hp.get? b = some o → G'.get? b = some o := fun b o q => (gk b (Nat.ne_of_lt (Nat.lt_of_lt_of_le (Heap.lt_size q) M.new))).trans (M.keep b o q)
    have ob : ObjOk X.prog X.w (upd H1 d (.xd [(("at" : Str), v)])) G' d (.xd [(("at" : Str), v)]) :=
      ⟨_, hns.at (fun o q => (gk d M.dne).trans q), fun f => relO_at rv f⟩
    have J : Inv X pins σ (upd H1 d (.xd [(("at" : Str), v)])) ⟨G', g, dr, tk', os⟩ := I1.laid (t' := tk') old M.dbig ob
    refine ⟨e, oe, fv, ⟨G', g, dr, tk', os⟩, _, .ref C, some d, rfl, J, fun b o q => ?_, ge, hoe, ⟨hc, hd⟩, hdat, h1, ?_, rfl, I1.bare, raises_own T.exC T.tyC, q1 d (I1.hok.fresh M.dbig)⟩
    · by_cases hb : b = e
      · have q' : G'.get? b = some o := q
        rw [hb, ge] at q'; cases q'
      · exact (gk b hb).symm.trans q
    · rw [upd_ne (Ne.symm M.dne)]
      exact I1.hok.fresh M.new
/-- raise nm(e) -/
def tRaiseW (C : Addr) (W : WX) (ta : TA) : TS := fun _ σ H => tMkW C ta σ H fun cls d H' => W cls d σ H'
theorem ps_raiseW {a : Expr} {ta : TA} {W : WX} {p pos pos2 : Pos} {k : Nat} (hc : X.calm = true) (T : PySem.WireX.Txt X.prog X.K X.mg nm C fI) (hr : Room k X.A) (tk : Takes X W) (ha : PA X [a] ta) (hg : Gl X nm := by rfl) (hdb : (nm == ("__debug__" : Str)) = false := by decide)
    (he : starEach (a :: []) X.env = (false, eval a X.env) :: starEach [] X.env := by rfl) (hpl : (backTo pos (starEach [] X.env)).any (·.1) = false := by rfl) :
    PS X (.Raise (some (.Call (.Name nm p) [a] [] pos)) none pos2) (tRaiseW C W ta) := ps_raise hc tk (pmk_wire T hr ha hg hdb he hpl)
/-- e.at, e the exception that the suite holds (at a; its class cls, its dict d) -/
def tAtW (C : Addr) (a : Addr) (cls : Value) (d : Option Addr) (te : TE) : TE := fun σ H Q => te σ H fun x H1 => x = .ref a ∧ cls = .ref C ∧ ∃ (dd : Addr) (v : V), d = some dd ∧ H1 dd = some (.xd [(("at" : Str), v)]) ∧ Q v H1
theorem pe_atW {a : Addr} {oe : Obj} {cls : Value} {d : Option Addr} {pn : List (Addr × Obj)} {e : Expr} {te : TE} {pos : Pos} (T : PySem.WireX.Txt X.prog X.K X.mg nm C fI) (hz : Zc cls d oe) (hf : ∃ vs, oe.data = .fields vs) (he : PE (X.suite a ((a, oe) :: pn)) e te)
    (hb : attributeBase e "at" X.env (eval e X.env) = eval e X.env := by rfl) :
    PE (X.suite a ((a, oe) :: pn)) (.Attribute e "at" pos) (tAtW C a cls d te) := by
  refine ⟨fun pins s σ H Q I h => ?_⟩
  refine attr_of hb (thn (he.run pins s σ H _ I h) fun u s1 hh => ?_)
  obtain ⟨x, H1, I1, rx, ex, ec, dd, v, ed, ea, q⟩ := hh
  subst ex
  obtain rfl : u = Value.ref a := rx
  subst ec
  subst ed
  obtain ⟨ha, _⟩ := I1.pin (a, oe) (List.mem_append_left _ List.mem_cons_self)
  obtain ⟨vs, hd⟩ := hf
  have hx : ObjOk X.prog X.w H1 s1.heap dd (.xd [(("at" : Str), v)]) := I1.hok dd _ ea
  obtain ⟨mA, hns, hr⟩ := hx
  obtain ⟨od, ho, hl⟩ := lookIn_ns hns
  have l : List.lookup ("at" : Str) [(("at" : Str), v)] = some v := by simp [List.lookup]
  obtain ⟨u, hu, ru⟩ := RelO.some_of (v := v) (o := mA "at") (by rw [← l]; exact hr "at")
  have J : PySem.W.InstAt s1.heap a oe C (some od) := ⟨ha, hz.1, by unfold PySem.W.notCls; rw [hd] <;> rfl, by rw [hz.2]; exact ho⟩
  exact HandSPX.exc_get I1.kIn J T.ga T.gg T.exC (PySem.W.findObj_own T.hdC T.noN rfl (by rw [hl, hu])) (handed_of ru) ⟨v, H1, I1.tok _, ru, q⟩
end
end L2

/-! D1: values by data. Lists and tuples that never change are data; what changes stands in a store M by its address. -/
namespace DL
open PySem L2

inductive Dt where
  | non | bl (b : Bool) | int (i : Int) | str (x : Str) | ref (a : Addr) | ty (n : String) | lst (xs : List Dt) | tup (xs : List Dt) | src (ns : List Int)

mutual
inductive Rl (K : PySem.W.Frag) (I : Hp) : V → Dt → Prop
  | non : Rl K I .non .non
  | bl (b : Bool) : Rl K I (.bl b) (.bl b)
  | int (i : Int) : Rl K I (.int i) (.int i)
  | str (x : Str) : Rl K I (.str x) (.str x)
  | ty (n : String) : Rl K I (.ty n) (.ty n)
  | ref (a : Addr) : Rl K I (.ref a) (.ref a)
  | lst {a : Addr} {vs : List V} {ds : List Dt} : I a = some (.lst vs) → Rls K I vs ds → Rl K I (.ref a) (.lst ds)
  | tup {a : Addr} {vs : List V} {ds : List Dt} : SqT K I a vs → Rls K I vs ds → Rl K I (.ref a) (.tup ds)
  | src {a : Addr} {ns : List Int} : SqL K I a (ns.map V.int) → Rl K I (.ref a) (.src ns)
inductive Rls (K : PySem.W.Frag) (I : Hp) : List V → List Dt → Prop
  | nil : Rls K I [] []
  | cons {v : V} {vs : List V} {d : Dt} {ds : List Dt} : Rl K I v d → Rls K I vs ds → Rls K I (v :: vs) (d :: ds)
end

theorem sqT_mono {K : PySem.W.Frag} {H H' : Hp} {a : Addr} {xs : List V} (e : Same H H') (h : SqT K H a xs) : SqT K H' a xs := by
  rcases h with (h | ⟨o, h⟩) | h
  · exact .inl (.inl (e _ _ h))
  · exact .inl (.inr ⟨o, e _ _ h⟩)
  · exact .inr h
section
variable {K : PySem.W.Frag} {I I' : Hp}
mutual
theorem Rl.mono (e : Same I I') : ∀ (d : Dt) {v : V}, Rl K I v d → Rl K I' v d
  | .non, _, h => by cases h; exact .non
  | .bl _, _, h => by cases h; exact .bl _
  | .int _, _, h => by cases h; exact .int _
  | .str _, _, h => by cases h; exact .str _
  | .ty _, _, h => by cases h; exact .ty _
  | .ref _, _, h => by cases h; exact .ref _
  | .lst ds, _, h => by cases h with | lst h1 h2 => exact .lst (e _ _ h1) (Rls.mono e ds h2)
  | .tup ds, _, h => by cases h with | tup h1 h2 => exact .tup (sqT_mono e h1) (Rls.mono e ds h2)
  | .src _, _, h => by cases h with | src h1 => exact .src (e.seq h1)
theorem Rls.mono (e : Same I I') : ∀ (ds : List Dt) {vs : List V}, Rls K I vs ds → Rls K I' vs ds
  | [], _, h => by cases h; exact .nil
  | d :: ds, _, h => by cases h with | cons h1 h2 => exact .cons (Rl.mono e d h1) (Rls.mono e ds h2)
end
theorem Rls.len : ∀ {vs : List V} {ds : List Dt}, Rls K I vs ds → vs.length = ds.length
  | _, _, .nil => rfl
  | _, _, .cons _ t => by rw [List.length_cons, List.length_cons, t.len]
theorem Rls.get : ∀ {vs : List V} {ds : List Dt} {i : Nat} {d : Dt}, Rls K I vs ds → ds[i]? = some d → ∃ v, vs[i]? = some v ∧ Rl K I v d
  | _, _, _, _, .nil, e => by simp at e
  | _, _, 0, _, .cons r _, e => by simp at e; subst e; exact ⟨_, rfl, r⟩
  | _, _, i + 1, d, .cons _ t, e => by
    obtain ⟨v, h1, h2⟩ := t.get (i := i) (d := d) (by simpa using e)
    exact ⟨v, by simpa using h1, h2⟩
theorem Rls.getV : ∀ {vs : List V} {ds : List Dt} {i : Nat} {v : V}, Rls K I vs ds → vs[i]? = some v → ∃ d, ds[i]? = some d ∧ Rl K I v d
  | _, _, _, _, .nil, e => by simp at e
  | _, _, 0, _, .cons r _, e => by simp at e; subst e; exact ⟨_, rfl, r⟩
  | _, _, i + 1, v, .cons _ t, e => by
    obtain ⟨d, h1, h2⟩ := t.getV (i := i) (v := v) (by simpa using e)
    exact ⟨d, by simpa using h1, h2⟩
theorem Rls.append : ∀ {vs ws : List V} {ds es : List Dt}, Rls K I vs ds → Rls K I ws es → Rls K I (vs ++ ws) (ds ++ es)
  | _, _, _, _, .nil, s => s
  | _, _, _, _, .cons r t, s => .cons r (t.append s)
theorem Rls.take : ∀ (n : Nat) {vs : List V} {ds : List Dt}, Rls K I vs ds → Rls K I (vs.take n) (ds.take n)
  | 0, _, _, _ => by rw [List.take_zero, List.take_zero]; exact .nil
  | _ + 1, _, _, .nil => .nil
  | n + 1, _, _, .cons r t => .cons r (t.take n)
theorem Rls.drop : ∀ (n : Nat) {vs : List V} {ds : List Dt}, Rls K I vs ds → Rls K I (vs.drop n) (ds.drop n)
  | 0, _, _, h => h
  | _ + 1, _, _, .nil => .nil
  | n + 1, _, _, .cons _ t => t.drop n
theorem Rls.set {v : V} {d : Dt} (r : Rl K I v d) : ∀ (i : Nat) {vs : List V} {ds : List Dt}, Rls K I vs ds → Rls K I (vs.set i v) (ds.set i d)
  | _, _, _, .nil => .nil
  | 0, _, _, .cons _ t => .cons r t
  | i + 1, _, _, .cons q t => .cons q (t.set r i)
theorem Rls.reverse : ∀ {vs : List V} {ds : List Dt}, Rls K I vs ds → Rls K I vs.reverse ds.reverse
  | _, _, .nil => .nil
  | _, _, .cons r t => by rw [List.reverse_cons, List.reverse_cons]; exact t.reverse.append (.cons r .nil)
theorem Rls.one {v : V} {d : Dt} (r : Rl K I v d) : Rls K I [v] [d] := .cons r .nil
theorem Rls.ints : ∀ {ns : List Int} {vs : List V}, Rls K I vs (ns.map Dt.int) → vs = ns.map V.int
  | [], _, h => by cases h; rfl
  | n :: ns, _, h => by
    cases h with
    | cons h1 h2 =>
      cases h1
      rw [Rls.ints h2]
      rfl
theorem Rls.bools : ∀ {ns : List Bool} {vs : List V}, Rls K I vs (ns.map Dt.bl) → vs = ns.map V.bl
  | [], _, h => by cases h; rfl
  | n :: ns, _, h => by
    cases h with
    | cons h1 h2 =>
      cases h1
      rw [Rls.bools h2]
      rfl
theorem Rls.of_ints : ∀ (ns : List Int), Rls K I (ns.map V.int) (ns.map Dt.int)
  | [] => .nil
  | n :: ns => .cons (.int n) (Rls.of_ints ns)
end

/-! ### the store -/
inductive MO where
  | lst (ds : List Dt) | ins (C dx : Addr) (fs : List (Str × Dt)) | dK (kvs : List (Key × Dt))
abbrev DM := Addr → Option MO
def updM (M : DM) (a : Addr) (o : MO) : DM := fun b => if b = a then some o else M b
@[simp] theorem updM_same {M : DM} {a : Addr} {o : MO} : updM M a o a = some o := by unfold updM; rw [if_pos rfl]
theorem updM_ne {M : DM} {a b : Addr} {o : MO} (h : b ≠ a) : updM M a o b = M b := by unfold updM; rw [if_neg h]
@[simp] theorem updM_updM {M : DM} {a : Addr} {o u : MO} : updM (updM M a o) a u = updM M a u := by
  funext b; unfold updM; split <;> rfl
def putA (f : Str) (d : Dt) : List (Str × Dt) → List (Str × Dt)
  | [] => [(f, d)]
  | (k, x) :: r => if k = f then (k, d) :: r else (k, x) :: putA f d r
abbrev Rfs (K : PySem.W.Frag) (I : Hp) : List (Str × V) → List (Str × Dt) → Prop := Paired fun p q => p.1 = q.1 ∧ Rl K I p.2 q.2
abbrev Rks (K : PySem.W.Frag) (I : Hp) : List (Key × V) → List (Key × Dt) → Prop := Paired fun p q => p.1 = q.1 ∧ Rl K I p.2 q.2
inductive RO (K : PySem.W.Frag) (I : Hp) : HO → MO → Prop
  | lst {vs : List V} {ds : List Dt} : Rls K I vs ds → RO K I (.lst vs) (.lst ds)
  | ins {C dx : Addr} {fs : List (Str × V)} {gs : List (Str × Dt)} : Rfs K I fs gs → Cls K C → (∀ f d, (f, d) ∈ gs → NoAttr K C f) → gs.length ≤ 900 → RO K I (.ins C dx fs) (.ins C dx gs)
  | dK {vs : List (Key × V)} {ds : List (Key × Dt)} : Rks K I vs ds → RO K I (.dK vs) (.dK ds)
structure Ok (K : PySem.W.Frag) (I H : Hp) (M : DM) : Prop where
  sub : Same I H
  cel : ∀ a o, M a = some o → I a = none ∧ ∃ ho, H a = some ho ∧ RO K I ho o
section
variable {K : PySem.W.Frag} {I I' H H' : Hp} {M : DM}
theorem Rfs.mono (e : Same I I') {fs : List (Str × V)} {gs : List (Str × Dt)} (h : Rfs K I fs gs) : Rfs K I' fs gs := Paired.mapP h fun _ _ q => ⟨q.1, q.2.mono e⟩
theorem Rks.mono (e : Same I I') {fs : List (Key × V)} {gs : List (Key × Dt)} (h : Rks K I fs gs) : Rks K I' fs gs := Paired.mapP h fun _ _ q => ⟨q.1, q.2.mono e⟩
theorem Rfs.look {f : Str} : ∀ {fs : List (Str × V)} {gs : List (Str × Dt)} {d : Dt}, Rfs K I fs gs → gs.lookup f = some d → ∃ v, fs.lookup f = some v ∧ Rl K I v d
  | _, _, _, .nil, e => by simp at e
  | (k, x) :: fs, (k', y) :: gs, d, .cons ⟨q1, q2⟩ t, e => by
    obtain rfl : k = k' := q1
    rw [List.lookup_cons] at e ⊢
    by_cases h : (f == k) = true
    · rw [h] at e ⊢
      cases e
      exact ⟨_, rfl, q2⟩
    · have h' : (f == k) = false := by simpa using h
      rw [h'] at e ⊢
      exact Rfs.look t e
theorem Rfs.no {f : Str} : ∀ {fs : List (Str × V)} {gs : List (Str × Dt)}, Rfs K I fs gs → gs.lookup f = none → fs.lookup f = none
  | _, _, .nil, e => rfl
  | (k, x) :: fs, (k', y) :: gs, .cons ⟨q1, q2⟩ t, e => by
    obtain rfl : k = k' := q1
    rw [List.lookup_cons] at e ⊢
    by_cases h : (f == k) = true
    · rw [h] at e; cases e
    · have h' : (f == k) = false := by simpa using h
      rw [h'] at e ⊢
      exact Rfs.no t e
theorem Rfs.put {f : Str} {v : V} {d : Dt} (r : Rl K I v d) : ∀ {fs : List (Str × V)} {gs : List (Str × Dt)}, Rfs K I fs gs → Rfs K I (putF f v fs) (putA f d gs)
  | _, _, .nil => .cons ⟨rfl, r⟩ .nil
  | (k, x) :: fs, (k', y) :: gs, .cons ⟨q1, q2⟩ t => by
    obtain rfl : k = k' := q1
    rw [show putF f v ((k, x) :: fs) = (if k = f then (k, v) :: fs else (k, x) :: putF f v fs) from rfl,
      show putA f d ((k, y) :: gs) = (if k = f then (k, d) :: gs else (k, y) :: putA f d gs) from rfl]
    by_cases h : k = f
    · rw [if_pos h, if_pos h]
      exact .cons ⟨rfl, r⟩ t
    · rw [if_neg h, if_neg h]
      exact .cons ⟨rfl, q2⟩ (Rfs.put r t)
theorem putA_len (f : Str) (d : Dt) : ∀ gs : List (Str × Dt), (putA f d gs).length ≤ gs.length + 1
  | [] => by simp [putA]
  | (k, x) :: r => by
    have ih := putA_len f d r
    rw [show putA f d ((k, x) :: r) = (if k = f then (k, d) :: r else (k, x) :: putA f d r) from rfl]
    by_cases hk : k = f
    · rw [if_pos hk, List.length_cons, List.length_cons]; omega
    · rw [if_neg hk, List.length_cons, List.length_cons]; omega
theorem putA_mem {f g : Str} {d x : Dt} : ∀ {gs : List (Str × Dt)}, (g, x) ∈ putA f d gs → g = f ∨ (g, x) ∈ gs
  | [], h => by
    have h' : (g, x) ∈ [(f, d)] := h
    rcases List.mem_cons.mp h' with e | e
    · exact .inl (congrArg Prod.fst e)
    · cases e
  | (k, y) :: r, h => by
    rw [show putA f d ((k, y) :: r) = (if k = f then (k, d) :: r else (k, y) :: putA f d r) from rfl] at h
    by_cases hk : k = f
    · rw [if_pos hk] at h
      rcases List.mem_cons.mp h with e | e
      · exact .inl ((congrArg Prod.fst e).trans hk)
      · exact .inr (List.mem_cons_of_mem _ e)
    · rw [if_neg hk] at h
      rcases List.mem_cons.mp h with e | e
      · exact .inr (by rw [e]; exact List.mem_cons_self)
      · rcases putA_mem e with z | z
        · exact .inl z
        · exact .inr (List.mem_cons_of_mem _ z)
theorem mem_look {f : Str} : ∀ {gs : List (Str × Dt)} {d : Dt}, gs.lookup f = some d → (f, d) ∈ gs
  | [], _, e => by simp at e
  | (k, y) :: r, d, e => by
    rw [List.lookup_cons] at e
    by_cases h : (f == k) = true
    · rw [h] at e
      cases e
      rw [beq_iff_eq.mp h]
      exact List.mem_cons_self
    · have h' : (f == k) = false := by simpa using h
      rw [h'] at e
      exact List.mem_cons_of_mem _ (mem_look e)
theorem RO.mono (e : Same I I') {ho : HO} {o : MO} (h : RO K I ho o) : RO K I' ho o := by
  cases h with
  | lst r => exact .lst (r.mono e)
  | ins r c n l => exact .ins (r.mono e) c n l
  | dK r => exact .dK (r.mono e)
/-- a thing that never changes is laid -/
theorem Ok.lay (ok : Ok K I H M) {p : Addr} {o : HO} (hp : H p = none) : Ok K (upd I p o) (upd H p o) M ∧ Same I (upd I p o) := by
  have hi : I p = none := ok.sub.free hp
  have si : Same I (upd I p o) := fun b u e => by rw [upd_ne (ne_of_none e hi)]; exact e
  refine ⟨⟨fun b u e => ?_, fun a mo e => ?_⟩, si⟩
  · by_cases hb : b = p
    · subst hb
      rw [upd_same] at e ⊢
      exact e
    · rw [upd_ne hb] at e ⊢
      exact ok.sub b u e
  · obtain ⟨h1, ho, h2, h3⟩ := ok.cel a mo e
    have ha : a ≠ p := ne_of_none h2 hp
    exact ⟨by rw [upd_ne ha]; exact h1, ho, by rw [upd_ne ha]; exact h2, h3.mono si⟩
/-- a thing of the store is new, or changed -/
theorem Ok.put (ok : Ok K I H M) {p : Addr} {ho : HO} {o : MO} (hi : I p = none) (r : RO K I ho o) : Ok K I (upd H p ho) (updM M p o) := by
  refine ⟨fun b u e => ?_, fun a mo e => ?_⟩
  · rw [upd_ne (ne_of_none e hi)]
    exact ok.sub b u e
  · by_cases ha : a = p
    · subst ha
      rw [updM_same] at e
      cases e
      exact ⟨hi, ho, upd_same, r⟩
    · rw [updM_ne ha] at e
      obtain ⟨h1, ho', h2, h3⟩ := ok.cel a mo e
      exact ⟨h1, ho', by rw [upd_ne ha]; exact h2, h3⟩
theorem Ok.fresh (ok : Ok K I H M) {p : Addr} (hp : H p = none) : M p = none := by
  cases e : M p with
  | none => rfl
  | some o =>
    obtain ⟨_, ho, h, _⟩ := ok.cel p o e
    rw [hp] at h
    cases h
/-- a list of the store never changes again -/
theorem Ok.freeze (ok : Ok K I H M) {p : Addr} {ds : List Dt} (h : M p = some (.lst ds)) : ∃ I', Same I I' ∧ Ok K I' H (fun b => if b = p then none else M b) ∧ Rl K I' (.ref p) (.lst ds) := by
  obtain ⟨h1, ho, h2, h3⟩ := ok.cel p _ h
  cases h3 with
  | lst r =>
    rename_i vs
    have si : Same I (upd I p (.lst vs)) := fun b u e => by rw [upd_ne (ne_of_none e h1)]; exact e
    refine ⟨upd I p (.lst vs), si, ⟨fun b u e => ?_, fun a mo e => ?_⟩, .lst upd_same (r.mono si)⟩
    · by_cases hb : b = p
      · subst hb
        rw [upd_same] at e
        cases e
        exact h2
      · rw [upd_ne hb] at e
        exact ok.sub b u e
    · by_cases ha : a = p
      · rw [if_pos ha] at e; cases e
      · rw [if_neg ha] at e
        obtain ⟨g1, ho', g2, g3⟩ := ok.cel a mo e
        exact ⟨by rw [upd_ne ha]; exact g1, ho', g2, g3.mono si⟩
end

/-! ### slots -/
abbrev DS := List (Option Dt)
def RlO (K : PySem.W.Frag) (I : Hp) : Option V → Option Dt → Prop
  | _, none => True
  | some v, some d => Rl K I v d
  | none, some _ => False
abbrev Sl (K : PySem.W.Frag) (I : Hp) : L2.St → DS → Prop := Paired (RlO K I)
section
variable {K : PySem.W.Frag} {I I' H H' : Hp} {M : DM} {σ : L2.St} {δ : DS}
theorem RlO.mono (e : Same I I') {v : Option V} {d : Option Dt} (h : RlO K I v d) : RlO K I' v d := by
  cases d with
  | none => cases v <;> trivial
  | some d =>
    cases v with
    | none => exact h
    | some v => exact Rl.mono e d h
theorem Sl.mono (e : Same I I') (h : Sl K I σ δ) : Sl K I' σ δ := Paired.mapP h fun _ _ q => RlO.mono e q
theorem Sl.get : ∀ {σ : L2.St} {δ : DS} {i : Nat} {d : Dt}, Sl K I σ δ → δ[i]? = some (some d) → ∃ v, σ[i]? = some (some v) ∧ Rl K I v d
  | _, _, _, _, .nil, e => by simp at e
  | v :: σ, _, 0, d, .cons r _, e => by
    simp at e
    subst e
    cases v with
    | none => exact r.elim
    | some v => exact ⟨v, rfl, r⟩
  | _, _, i + 1, d, .cons _ t, e => by
    obtain ⟨v, h1, h2⟩ := Sl.get (i := i) (d := d) t (by simpa using e)
    exact ⟨v, by simpa using h1, h2⟩
theorem Sl.set {v : Option V} {d : Option Dt} (r : RlO K I v d) : ∀ (i : Nat) {σ : L2.St} {δ : DS}, Sl K I σ δ → Sl K I (σ.set i v) (δ.set i d)
  | _, _, _, .nil => .nil
  | 0, _, _, .cons _ t => .cons r t
  | i + 1, _, _, .cons q t => .cons q (Sl.set r i t)
@[simp] def wipeD (δ : DS) : List Nat → DS
  | [] => δ
  | v :: vs => (wipeD δ vs).set v none
theorem Sl.wipe : ∀ (vs : List Nat), Sl K I σ δ → Sl K I (L2.wipe σ vs) (wipeD δ vs)
  | [], h => h
  | v :: vs, h => Sl.set (by trivial) v (Sl.wipe vs h)
end

/-! ### readings by data -/
abbrev DK := Dt → DM → Prop
abbrev DE := DS → DM → DK → Prop
abbrev DT := DS → DM → (Bool → DM → Prop) → Prop
abbrev DA := DS → DM → (List Dt → DM → Prop) → Prop
structure DEnds where
  nx : DS → DM → Prop
  rt : DK
  bk : DS → DM → Prop := fun _ _ => False
  ct : DS → DM → Prop := fun _ _ => False
abbrev DStm := DEnds → DS → DM → Prop
/-- what is wanted behind, by data and by the heap -/
def Post (K : PySem.W.Frag) (I : Hp) (Q : DK) (R : VK) : Prop := ∀ (d : Dt) (M : DM) (v : V) (I' H : Hp), Same I I' → Ok K I' H M → Rl K I' v d → Q d M → R v H
def PostB (K : PySem.W.Frag) (I : Hp) (Q : Bool → DM → Prop) (R : Bool → Hp → Prop) : Prop := ∀ (b : Bool) (M : DM) (I' H : Hp), Same I I' → Ok K I' H M → Q b M → R b H
def PostL (K : PySem.W.Frag) (I : Hp) (Q : List Dt → DM → Prop) (R : List V → Hp → Prop) : Prop := ∀ (ds : List Dt) (M : DM) (vs : List V) (I' H : Hp), Same I I' → Ok K I' H M → Rls K I' vs ds → Q ds M → R vs H
def PostS (K : PySem.W.Frag) (I : Hp) (Q : DS → DM → Prop) (R : L2.St → Hp → Prop) : Prop := ∀ (δ : DS) (M : DM) (σ : L2.St) (I' H : Hp), Same I I' → Sl K I' σ δ → Ok K I' H M → Q δ M → R σ H
section
variable {K : PySem.W.Frag} {I I' : Hp}
theorem Post.mono {Q : DK} {R : VK} (e : Same I I') (h : Post K I Q R) : Post K I' Q R := fun d M v I'' H s => h d M v I'' H (e.trans s)
theorem PostB.mono {Q : Bool → DM → Prop} {R : Bool → Hp → Prop} (e : Same I I') (h : PostB K I Q R) : PostB K I' Q R := fun d M I'' H s => h d M I'' H (e.trans s)
theorem PostL.mono {Q : List Dt → DM → Prop} {R : List V → Hp → Prop} (e : Same I I') (h : PostL K I Q R) : PostL K I' Q R := fun d M v I'' H s => h d M v I'' H (e.trans s)
theorem PostS.mono {Q : DS → DM → Prop} {R : L2.St → Hp → Prop} (e : Same I I') (h : PostS K I Q R) : PostS K I' Q R := fun δ M σ I'' H s => h δ M σ I'' H (e.trans s)
end

/-- an exception's wish, by data: its class, what it tells, the slots, the store -/
abbrev WD := Addr → Dt → DS → DM → Prop
/-- the wish W of the layer is what w asks -/
def LW (K : PySem.W.Frag) (I : Hp) (W : WX) (w : WD) : Prop := ∀ (C : Addr) (d : Dt) (δ : DS) (M : DM) (σ : L2.St) (v : V) (dx : Addr) (I' H : Hp), Same I I' → Sl K I' σ δ → Ok K I' H M → H dx = some (.xd [(("at" : Str), v)]) → Rl K I' v d → w C d δ M → W (.ref C) (some dx) σ H
theorem LW.mono {K : PySem.W.Frag} {I I' : Hp} {W : WX} {w : WD} (e : Same I I') (h : LW K I W w) : LW K I' W w := fun C d δ M σ v dx I'' H s => h C d δ M σ v dx I'' H (e.trans s)
/-- where one stands: the slots, the wish -/
structure Cn (K : PySem.W.Frag) (W : WX) (w : WD) (I : Hp) (σ : L2.St) (δ : DS) : Prop where
  sl : Sl K I σ δ
  lw : LW K I W w
theorem Cn.mono {K : PySem.W.Frag} {W : WX} {w : WD} {I I' : Hp} {σ : L2.St} {δ : DS} (h : Cn K W w I σ δ) (e : Same I I') : Cn K W w I' σ δ := ⟨h.sl.mono e, h.lw.mono e⟩
theorem Cn.to {K : PySem.W.Frag} {W : WX} {w : WD} {I : Hp} {σ σ' : L2.St} {δ δ' : DS} (h : Cn K W w I σ δ) (s : Sl K I σ' δ') : Cn K W w I σ' δ' := ⟨s, h.lw⟩
def LE (K : PySem.W.Frag) (W : WX) (w : WD) (te : TE) (de : DE) : Prop := ∀ (σ : L2.St) (δ : DS) (I H : Hp) (M : DM) (Q : DK) (R : VK), Cn K W w I σ δ → Ok K I H M → de δ M Q → Post K I Q R → te σ H R
def LT (K : PySem.W.Frag) (W : WX) (w : WD) (tt : TT) (dt : DT) : Prop := ∀ (σ : L2.St) (δ : DS) (I H : Hp) (M : DM) (Q : Bool → DM → Prop) (R : Bool → Hp → Prop), Cn K W w I σ δ → Ok K I H M → dt δ M Q → PostB K I Q R → tt σ H R
def LA (K : PySem.W.Frag) (W : WX) (w : WD) (ta : TA) (da : DA) : Prop := ∀ (σ : L2.St) (δ : DS) (I H : Hp) (M : DM) (Q : List Dt → DM → Prop) (R : List V → Hp → Prop), Cn K W w I σ δ → Ok K I H M → da δ M Q → PostL K I Q R → ta σ H R
structure RE (K : PySem.W.Frag) (I : Hp) (D : DEnds) (E : Ends) : Prop where
  nx : PostS K I D.nx E.nx
  rt : Post K I D.rt E.rt
  bk : PostS K I D.bk E.bk
  ct : PostS K I D.ct E.ct
theorem RE.mono {K : PySem.W.Frag} {I I' : Hp} {D : DEnds} {E : Ends} (e : Same I I') (h : RE K I D E) : RE K I' D E := ⟨h.nx.mono e, h.rt.mono e, h.bk.mono e, h.ct.mono e⟩
def LS (K : PySem.W.Frag) (W : WX) (w : WD) (ts : TS) (ds : DStm) : Prop := ∀ (D : DEnds) (E : Ends) (σ : L2.St) (δ : DS) (I H : Hp) (M : DM), RE K I D E → Cn K W w I σ δ → Ok K I H M → ds D δ M → ts E σ H

structure PD (X : Cx) (W : WX) (w : WD) (e : Expr) (de : DE) : Prop where
  ex : ∃ te, PE X e te ∧ LE X.K W w te de
structure PDT (X : Cx) (W : WX) (w : WD) (e : Expr) (dt : DT) : Prop where
  ex : ∃ tt, PT X e tt ∧ LT X.K W w tt dt
structure PDW (X : Cx) (W : WX) (w : WD) (e : Expr) (dt : DT) : Prop where
  ex : ∃ tt, PW X e tt ∧ LT X.K W w tt dt
structure PDA (X : Cx) (W : WX) (w : WD) (es : List Expr) (da : DA) : Prop where
  ex : ∃ ta, PA X es ta ∧ LA X.K W w ta da
structure PDS (X : Cx) (W : WX) (w : WD) (s : Stmt) (ds : DStm) : Prop where
  ex : ∃ ts, PS X s ts ∧ LS X.K W w ts ds
structure PDSs (X : Cx) (W : WX) (w : WD) (s : List Stmt) (ds : DStm) : Prop where
  ex : ∃ ts, PSs X s ts ∧ LS X.K W w ts ds
/-- a thing that is neither data nor of the store -/
theorem Ok.side {K : PySem.W.Frag} {I H : Hp} {M : DM} (ok : Ok K I H M) {p : Addr} {o : HO} (hp : H p = none) : Ok K I (upd H p o) M := by
  refine ⟨fun b u e => ?_, fun a mo e => ?_⟩
  · have h := ok.sub b u e
    rw [upd_ne (ne_of_none h hp)]
    exact h
  · obtain ⟨h1, ho, h2, h3⟩ := ok.cel a mo e
    exact ⟨h1, ho, by rw [upd_ne (ne_of_none h2 hp)]; exact h2, h3⟩
end DL

namespace DL
open PySem L2
section
variable {X : Cx} {W : WX} {w : WD} {pos : Pos}
/-! ### names, constants -/
def dVar (i : Nat) : DE := fun δ M Q => match δ[i]? with | some (some d) => Q d M | _ => False
theorem pd_var (i : Nat) {x : Str} (hN : X.N[i]? = some x := by rfl) (hv : Vis X.env.scope x := by first | exact Or.inl rfl | exact Or.inr (Or.inl rfl) | exact Or.inr (Or.inr rfl)) (hd : (x == ("__debug__" : Str)) = false := by decide)
    (hcd : (x == ("__classdict__" : Str)) = false := by decide) : PD X W w (.Name x pos) (dVar i) := by
  refine ⟨⟨_, pe_var hN hv hd hcd, fun σ δ I H M Q R hs ok h k => ?_⟩⟩
  unfold dVar at h
  split at h
  · rename_i d e
    obtain ⟨v, hv, r⟩ := hs.sl.get e
    exact ⟨v, hv, k d M v I H (Same.refl _) ok r h⟩
  · exact h.elim
@[simp ↓] def dC (d : Dt) : DE := fun _ M Q => Q d M
theorem pd_c {e : Expr} {v : V} {d : Dt} (h : PE X e (tC v)) (r : ∀ I, Rl X.K I v d) : PD X W w e (dC d) :=
  ⟨⟨_, h, fun σ δ I H M Q R hs ok q k => k d M v I H (Same.refl _) ok (r I) q⟩⟩
theorem pd_int {i : Int} {j} : PD X W w (.Constant (.int i) j pos) (dC (.int i)) := pd_c pe_int fun _ => .int _
theorem pd_bl {b : Bool} {j} : PD X W w (.Constant (.bool b) j pos) (dC (.bl b)) := pd_c pe_bl fun _ => .bl _
theorem pd_non {j} : PD X W w (.Constant .none j pos) (dC .non) := pd_c pe_non fun _ => .non
theorem pd_str {x : Str} {j} : PD X W w (.Constant (.str x) j pos) (dC (.str x)) := pd_c pe_str fun _ => .str _
/-- a module's constant -/
theorem pd_glob {x : Str} {v : V} {u : Value} {d : Dt} (hg : Gl X x) (hm : X.mg x = some u) (r : RelV v u) (rd : ∀ I, Rl X.K I v d) (hd : (x == ("__debug__" : Str)) = false := by decide) : PD X W w (.Name x pos) (dC d) := pd_c (pe_glob hg hm r hd) rd
/-- a built-in type as a value -/
theorem pd_ty {x : Str} {n : String} (hg : Gl X x) (hm : X.mg x = none) (hv : bootBuiltins x = some (.type n)) (hn : x ≠ "__name__" := by decide) (hd : (x == ("__debug__" : Str)) = false := by decide) : PD X W w (.Name x pos) (dC (.ty n)) :=
  pd_c (v := .ty n) (pe_bltn hg hm hv rfl hn hd) fun _ => .ty _

/-! ### arguments -/
@[simp ↓] def dNil : DA := fun _ M Q => Q [] M
@[simp ↓] def kCons2 (x : Dt) (Q : List Dt → DM → Prop) : List Dt → DM → Prop := fun xs M2 => Q (x :: xs) M2
@[simp ↓] def kCons1 (dr : DA) (δ : DS) (Q : List Dt → DM → Prop) : DK := fun x M1 => dr δ M1 (kCons2 x Q)
@[simp ↓] def dCons (da : DE) (dr : DA) : DA := fun δ M Q => da δ M (kCons1 dr δ Q)
theorem pda_nil : PDA X W w [] dNil := ⟨⟨_, pa_nil, fun σ δ I H M Q R hs ok q k => k [] M [] I H (Same.refl _) ok .nil q⟩⟩
theorem pda_cons {e : Expr} {es : List Expr} {de : DE} {da : DA} (ha : PD X W w e de) (hr : PDA X W w es da) (hs : starEach (e :: es) X.env = (false, eval e X.env) :: starEach es X.env := by rfl) : PDA X W w (e :: es) (dCons de da) := by
  obtain ⟨te, p1, l1⟩ := ha.ex
  obtain ⟨ta, p2, l2⟩ := hr.ex
  refine ⟨⟨_, pa_cons p1 p2 hs, fun σ δ I H M Q R hs ok h k => ?_⟩⟩
  refine l1 σ δ I H M _ _ hs ok h fun d M1 v I1 H1 s1 ok1 r1 h1 => ?_
  refine l2 σ δ I1 H1 M1 _ _ (hs.mono s1) ok1 h1 fun ds M2 vs I2 H2 s2 ok2 r2 h2 => ?_
  exact k (d :: ds) M2 (v :: vs) I2 H2 (s1.trans s2) ok2 (.cons (r1.mono s2) r2) h2

/-! ### operators -/
abbrev D2 := Dt → Dt → DM → DK → Prop
def L2r (K : PySem.W.Frag) (r : R2) (dr : D2) : Prop := ∀ (I H : Hp) (M : DM) (x y : V) (dx dy : Dt) (Q : DK) (R : VK), Ok K I H M → Rl K I x dx → Rl K I y dy → dr dx dy M Q → Post K I Q R → r x y H R
@[simp ↓] def kOp2 (r : D2) (x : Dt) (Q : DK) : DK := fun y M2 => r x y M2 Q
@[simp ↓] def kOp1 (r : D2) (db : DE) (δ : DS) (Q : DK) : DK := fun x M1 => db δ M1 (kOp2 r x Q)
@[simp ↓] def dOp (r : D2) (da db : DE) : DE := fun δ M Q => da δ M (kOp1 r db δ Q)
theorem le_op {K : PySem.W.Frag} {ta tb : TE} {da db : DE} {r : R2} {dr : D2} (l1 : LE K W w ta da) (l2 : LE K W w tb db) (hr : L2r K r dr) : LE K W w (tOp r ta tb) (dOp dr da db) := fun σ δ I H M Q R hs ok h k =>
  l1 σ δ I H M _ _ hs ok h fun d M1 v I1 H1 s1 ok1 r1 h1 =>
  l2 σ δ I1 H1 M1 _ _ (hs.mono s1) ok1 h1 fun e M2 u I2 H2 s2 ok2 r2 h2 =>
  hr I2 H2 M2 v u d e Q R ok2 (r1.mono s2) r2 h2 (k.mono (s1.trans s2))
theorem pd_op {op : Operator} {a b : Expr} {da db : DE} {r : R2} {dr : D2} (ho : OpR X (binaryOp op) r) (hr : L2r X.K r dr) (ha : PD X W w a da) (hb : PD X W w b db) : PD X W w (.BinOp a op b pos) (dOp dr da db) := by
  obtain ⟨ta, p1, l1⟩ := ha.ex
  obtain ⟨tb, p2, l2⟩ := hb.ex
  exact ⟨⟨_, pe_op ho p1 p2, le_op l1 l2 hr⟩⟩
theorem pd_cmp {op : CmpOp} {a b : Expr} {da db : DE} {r : R2} {dr : D2} (ho : OpR X (compareOp op) r) (hr : L2r X.K r dr) (ha : PD X W w a da) (hb : PD X W w b db) (hm : behindInMarks op b = false) : PD X W w (.Compare a [op] [b] pos) (dOp dr da db) := by
  obtain ⟨ta, p1, l1⟩ := ha.ex
  obtain ⟨tb, p2, l2⟩ := hb.ex
  exact ⟨⟨_, pe_cmpR ho p1 p2 hm, le_op l1 l2 hr⟩⟩
@[simp ↓] def kBl (Q : Bool → DM → Prop) : DK
  | .bl k, M => Q k M
  | _, _ => False
@[simp ↓] def dTest (de : DE) : DT := fun δ M Q => de δ M (kBl Q)
theorem lt_test {K : PySem.W.Frag} {te : TE} {de : DE} (l : LE K W w te de) : LT K W w (tTest te) (dTest de) := fun σ δ I H M Q R hs ok h k =>
  l σ δ I H M _ _ hs ok h fun d M1 v I1 H1 s1 ok1 r1 h1 => by
    cases d <;> try exact h1.elim
    cases r1
    exact ⟨_, rfl, k _ M1 I1 H1 s1 ok1 h1⟩
theorem pdt_cmp {op : CmpOp} {a b : Expr} {da db : DE} {r : R2} {dr : D2} (ho : OpR X (compareOp op) r) (hr : L2r X.K r dr) (ha : PD X W w a da) (hb : PD X W w b db) (hm : behindInMarks op b = false) : PDT X W w (.Compare a [op] [b] pos) (dTest (dOp dr da db)) := by
  obtain ⟨ta, p1, l1⟩ := ha.ex
  obtain ⟨tb, p2, l2⟩ := hb.ex
  exact ⟨⟨_, pt_cmpR ho p1 p2 hm, lt_test (le_op l1 l2 hr)⟩⟩

/-- ints in -/
theorem l2_I0 {K : PySem.W.Frag} {g : Int → Int → V} {gd : Int → Int → Dt} {dr : D2} (hg : ∀ i j I, Rl K I (g i j) (gd i j)) (hd : ∀ x y M Q, dr x y M Q → ∃ i j, x = .int i ∧ y = .int j ∧ Q (gd i j) M) : L2r K (rI0 g) dr := fun I H M x y dx dy Q R ok rx ry h k => by
  obtain ⟨i, j, e1, e2, q⟩ := hd _ _ _ _ h
  subst e1; subst e2
  cases rx; cases ry
  exact ⟨i, j, rfl, rfl, k _ M _ I H (Same.refl _) ok (hg i j I) q⟩
theorem l2_I {K : PySem.W.Frag} {C : Int → Int → Prop} {g : Int → Int → V} {gd : Int → Int → Dt} {dr : D2} (hg : ∀ i j I, Rl K I (g i j) (gd i j)) (hd : ∀ x y M Q, dr x y M Q → ∃ i j, x = .int i ∧ y = .int j ∧ C i j ∧ Q (gd i j) M) : L2r K (rI C g) dr := fun I H M x y dx dy Q R ok rx ry h k => by
  obtain ⟨i, j, e1, e2, c, q⟩ := hd _ _ _ _ h
  subst e1; subst e2
  cases rx; cases ry
  exact ⟨i, j, rfl, rfl, c, k _ M _ I H (Same.refl _) ok (hg i j I) q⟩
theorem l2_or {K : PySem.W.Frag} {r r' : R2} {dr : D2} (h : ∀ (I H : Hp) (M : DM) (x y : V) (dx dy : Dt) (Q : DK) (R : VK), Ok K I H M → Rl K I x dx → Rl K I y dy → dr dx dy M Q → Post K I Q R → r x y H R ∨ r' x y H R) : L2r K (fun x y H Q => r x y H Q ∨ r' x y H Q) dr := h


/-- a new thing that never changes is the value -/
theorem Post.new {K : PySem.W.Frag} {I H : Hp} {M : DM} {Q : DK} {R : VK} {d : Dt} {o : HO} (k : Post K I Q R) (ok : Ok K I H M) (q : Q d M) (r : ∀ I' p, Same I I' → I' p = some o → Rl K I' (.ref p) d) : ∀ p, H p = none → R (.ref p) (upd H p o) := fun p hp => by
  obtain ⟨ok', s⟩ := ok.lay (o := o) hp
  exact k d M (.ref p) _ _ s ok' (r _ p s upd_same) q
theorem Post.now {K : PySem.W.Frag} {I H : Hp} {M : DM} {Q : DK} {R : VK} {d : Dt} {v : V} (k : Post K I Q R) (ok : Ok K I H M) (r : Rl K I v d) (q : Q d M) : R v H := k d M v I H (Same.refl _) ok r q
theorem rl_lst {K : PySem.W.Frag} {I : Hp} {vs : List V} {ds : List Dt} (r : Rls K I vs ds) : ∀ (I' : Hp) (p : Addr), Same I I' → I' p = some (.lst vs) → Rl K I' (.ref p) (.lst ds) := fun I' p s e => .lst e (r.mono s)
theorem rl_tup {K : PySem.W.Frag} {I : Hp} {vs : List V} {ds : List Dt} (r : Rls K I vs ds) : ∀ (I' : Hp) (p : Addr), Same I I' → I' p = some (.tup vs) → Rl K I' (.ref p) (.tup ds) := fun I' p s e => .tup (.inl (.inl e)) (r.mono s)
theorem Ok.lstAt {K : PySem.W.Frag} {I H : Hp} {M : DM} (ok : Ok K I H M) {a : Addr} {vs : List V} (h : I a = some (.lst vs)) : SqL K H a vs := .inl (.inl (ok.sub _ _ h))
theorem Ok.tupAt {K : PySem.W.Frag} {I H : Hp} {M : DM} (ok : Ok K I H M) {a : Addr} {vs : List V} (h : SqT K I a vs) : SqT K H a vs := sqT_mono ok.sub h
/-- a list, as data or in the store -/
theorem Ok.lists {K : PySem.W.Frag} {I H : Hp} {M : DM} (ok : Ok K I H M) {p : Addr} {ds : List Dt} (h : M p = some (.lst ds)) : ∃ vs, H p = some (.lst vs) ∧ Rls K I vs ds := by
  obtain ⟨_, ho, h2, h3⟩ := ok.cel p _ h
  cases h3 with
  | lst r => exact ⟨_, h2, r⟩

/-- a + b: ints, lists, tuples, texts -/
@[simp ↓] def addMO (b : List Dt) (Q : DK) (M : DM) : Option MO → Prop
  | some (.lst a) => a.length + b.length ≤ sizeLine ∧ Q (.lst (a ++ b)) M
  | _ => False
@[simp ↓] def dAdd : D2
  | .int i, .int j, M, Q => Q (.int (i + j)) M
  | .lst a, .lst b, M, Q => a.length + b.length ≤ sizeLine ∧ Q (.lst (a ++ b)) M
  | .tup a, .tup b, M, Q => a.length + b.length ≤ sizeLine ∧ Q (.tup (a ++ b)) M
  | .str a, .str b, M, Q => a.length + b.length ≤ sizeLine ∧ Q (.str (a ++ b)) M
  | .ref p, .lst b, M, Q => addMO b Q M (M p)
  | _, _, _, _ => False
theorem op_dAdd : ∃ r, OpR X (binaryOp .Add) r ∧ L2r X.K r dAdd := by
  refine ⟨_, op_add.or (op_cat.or (op_catA.or op_add_str)), fun I H M x y dx dy Q R ok rx ry h k => ?_⟩
  cases rx <;> cases ry <;> try exact h.elim
  · exact .inl ⟨_, _, rfl, rfl, k.now ok (.int _) h⟩
  · exact .inr (.inr (.inr ⟨_, _, rfl, rfl, h.1, k.now ok (.str _) h.2⟩))
  · rename_i p _ _ _ h2 r2
    have h : addMO _ Q M (M p) := h
    cases e : M p with
    | none => rw [e] at h; exact h.elim
    | some o =>
      rw [e] at h
      cases o <;> try exact h.elim
      obtain ⟨vs, h1, r1⟩ := ok.lists e
      refine .inr (.inl ⟨_, _, _, _, rfl, rfl, h1, ok.sub _ _ h2, by rw [r1.len, r2.len]; exact h.1, k.new ok h.2 (rl_lst (r1.append r2))⟩)
  · rename_i h1 r1 _ _ _ h2 r2
    refine .inr (.inl ⟨_, _, _, _, rfl, rfl, ok.sub _ _ h1, ok.sub _ _ h2, by rw [r1.len, r2.len]; exact h.1, k.new ok h.2 (rl_lst (r1.append r2))⟩)
  · rename_i a1 v1 d1 h1 r1 a2 v2 d2 h2 r2
    refine .inr (.inr (.inl ⟨_, _, _, _, rfl, rfl, ok.tupAt h1, ok.tupAt h2, by rw [r1.len, r2.len]; exact h.1, fun e => ?_, fun _ e => ?_, fun _ _ => k.new ok h.2 (rl_tup (r1.append r2))⟩))
    · subst e
      cases r1
      exact k.now ok (.tup h2 r2) h.2
    · subst e
      cases r2
      have q := h.2
      rw [List.append_nil] at q
      exact k.now ok (.tup h1 r1) q
theorem pd_add {a b : Expr} {da db : DE} (ha : PD X W w a da) (hb : PD X W w b db) : PD X W w (.BinOp a .Add b pos) (dOp dAdd da db) := by
  obtain ⟨r, h1, h2⟩ := op_dAdd (X := X)
  exact pd_op h1 h2 ha hb
@[simp ↓] def dSub : D2
  | .int i, .int j, M, Q => Q (.int (i - j)) M
  | _, _, _, _ => False
theorem pd_sub {a b : Expr} {da db : DE} (ha : PD X W w a da) (hb : PD X W w b db) : PD X W w (.BinOp a .Sub b pos) (dOp dSub da db) :=
  pd_op op_sub (l2_I0 (fun i j I => .int _) fun x y M Q h => by cases x <;> cases y <;> first | exact ⟨_, _, rfl, rfl, h⟩ | exact h.elim) ha hb
/-- a * b: ints, a list and an int -/
@[simp ↓] def dMul : D2
  | .int i, .int j, M, Q => CMulW i j ∧ Q (.int (i * j)) M
  | .lst a, .int j, M, Q => -(2 ^ 63) ≤ j ∧ j < 2 ^ 63 ∧ a.length * j.toNat ≤ sizeLine ∧ Q (.lst (List.replicate j.toNat a).flatten) M
  | _, _, _, _ => False
theorem rls_rep {K : PySem.W.Frag} {I : Hp} {vs : List V} {ds : List Dt} (r : Rls K I vs ds) : ∀ n : Nat, Rls K I (List.replicate n vs).flatten (List.replicate n ds).flatten
  | 0 => .nil
  | n + 1 => by rw [List.replicate_succ, List.replicate_succ, List.flatten_cons, List.flatten_cons]; exact r.append (rls_rep r n)
@[simp ↓] def dFdiv : D2
  | .int i, .int j, M, Q => CDivW i j ∧ Q (.int (i / j)) M
  | _, _, _, _ => False
theorem pd_fdiv {a b : Expr} {da db : DE} (ha : PD X W w a da) (hb : PD X W w b db) : PD X W w (.BinOp a .FloorDiv b pos) (dOp dFdiv da db) :=
  pd_op op_fdivW (l2_I (fun i j I => .int _) fun x y M Q h => by cases x <;> cases y <;> first | exact ⟨_, _, rfl, rfl, h.1, h.2⟩ | exact h.elim) ha hb
@[simp ↓] def dMod : D2
  | .int i, .int j, M, Q => 0 < j ∧ Q (.int (i % j)) M
  | _, _, _, _ => False
theorem pd_mod {a b : Expr} {da db : DE} (ha : PD X W w a da) (hb : PD X W w b db) : PD X W w (.BinOp a .Mod b pos) (dOp dMod da db) :=
  pd_op op_mod (l2_I (fun i j I => .int _) fun x y M Q h => by cases x <;> cases y <;> first | exact ⟨_, _, rfl, rfl, h.1, h.2⟩ | exact h.elim) ha hb
@[simp ↓] def dPow : D2
  | .int i, .int j, M, Q => CPow i j ∧ Q (.int (i ^ j.toNat)) M
  | _, _, _, _ => False
theorem pd_pow {a b : Expr} {da db : DE} (ha : PD X W w a da) (hb : PD X W w b db) : PD X W w (.BinOp a .Pow b pos) (dOp dPow da db) :=
  pd_op op_pow (l2_I (fun i j I => .int _) fun x y M Q h => by cases x <;> cases y <;> first | exact ⟨_, _, rfl, rfl, h.1, h.2⟩ | exact h.elim) ha hb
@[simp ↓] def dShl : D2
  | .int i, .int j, M, Q => CPow i j ∧ Q (.int (i * 2 ^ j.toNat)) M
  | _, _, _, _ => False
theorem pd_shl {a b : Expr} {da db : DE} (ha : PD X W w a da) (hb : PD X W w b db) : PD X W w (.BinOp a .LShift b pos) (dOp dShl da db) :=
  pd_op op_shl (l2_I (fun i j I => .int _) fun x y M Q h => by cases x <;> cases y <;> first | exact ⟨_, _, rfl, rfl, h.1, h.2⟩ | exact h.elim) ha hb
/-- -a -/
@[simp ↓] def kNeg (Q : DK) : DK
  | .int i, M => Q (.int (-i)) M
  | _, _ => False
@[simp ↓] def dNeg (de : DE) : DE := fun δ M Q => de δ M (kNeg Q)
theorem pd_neg {a : Expr} {da : DE} (ha : PD X W w a da) : PD X W w (.UnaryOp .USub a pos) (dNeg da) := by
  obtain ⟨ta, p1, l1⟩ := ha.ex
  refine ⟨⟨_, pe_un un_neg p1, fun σ δ I H M Q R hs ok h k => l1 σ δ I H M _ _ hs ok h fun d M1 v I1 H1 s1 ok1 r1 h1 => ?_⟩⟩
  cases d <;> try exact h1.elim
  cases r1
  exact ⟨_, rfl, (k.mono s1).now ok1 (.int _) h1⟩
/-! ### order of ints -/
@[simp ↓] def dCmpI (p : Int → Int → Bool) : D2
  | .int i, .int j, M, Q => Q (.bl (p i j)) M
  | _, _, _, _ => False
abbrev dLt : D2 := dCmpI fun i j => decide (i < j)
abbrev dLe : D2 := dCmpI fun i j => decide (i ≤ j)
abbrev dGt : D2 := dCmpI fun i j => decide (j < i)
abbrev dGe : D2 := dCmpI fun i j => decide (j ≤ i)
theorem l2_cmpI {K : PySem.W.Frag} {p : Int → Int → Bool} : L2r K (rI0 fun i j => .bl (p i j)) (dCmpI p) :=
  l2_I0 (gd := fun i j => .bl (p i j)) (fun i j I => .bl _) fun x y M Q h => by cases x <;> cases y <;> first | exact ⟨_, _, rfl, rfl, h⟩ | exact h.elim
/-! ### is -/
@[simp ↓] def dIs (neg : Bool) : D2
  | x, .non, M, Q => (match x with | .ref _ => False | _ => True) ∧ Q (.bl (neg != (match x with | .non => true | _ => false))) M
  | .bl a, .bl b, M, Q => Q (.bl (neg != decide (a = b))) M
  | _, _, _, _ => False
theorem op_dIs : ∃ r, OpR X (compareOp .Is) r ∧ L2r X.K r (dIs false) := by
  refine ⟨_, op_isN.or op_isBl, fun I H M x y dx dy Q R ok rx ry h k => ?_⟩
  cases ry <;> try (cases rx <;> exact h.elim)
  · refine .inl ⟨rfl, ?_⟩
    cases rx <;> first | exact k.now ok (.bl _) h.2 | exact h.1.elim
  · cases rx <;> try exact h.elim
    refine .inr ⟨_, _, rfl, rfl, ?_⟩
    have q := k.now ok (.bl _) h
    simpa using q
theorem op_dIsNot : ∃ r, OpR X (compareOp .IsNot) r ∧ L2r X.K r (dIs true) := by
  refine ⟨_, op_notN.or op_notBl, fun I H M x y dx dy Q R ok rx ry h k => ?_⟩
  cases ry <;> try (cases rx <;> exact h.elim)
  · refine .inl ⟨rfl, ?_⟩
    cases rx <;> first | exact k.now ok (.bl _) h.2 | exact h.1.elim
  · cases rx <;> try exact h.elim
    refine .inr ⟨_, _, rfl, rfl, ?_⟩
    have q := k.now ok (.bl _) h
    simpa using q
/-! ### == -/
mutual
def toPy : Dt → Option PyData
  | .non => some .none | .bl b => some (.bool b) | .int i => some (.int i) | .str x => some (.str x)
  | .lst ds => (toPys ds).map .list | .tup ds => (toPys ds).map .tuple | .ref _ => none | .ty _ => none | .src _ => none
def toPys : List Dt → Option (List PyData)
  | [] => some []
  | d :: ds => (toPy d).bind fun p => (toPys ds).map fun ps => p :: ps
end
mutual
theorem dp_of {K : PySem.W.Frag} {I H : Hp} {M : DM} (ok : Ok K I H M) : ∀ (d : Dt) {v : V} {p : PyData}, Rl K I v d → toPy d = some p → Dp K H v p
  | .non, _, _, r, e => by cases r; cases e; exact .non
  | .bl b, _, _, r, e => by cases r; cases e; exact .bl b
  | .int i, _, _, r, e => by cases r; cases e; exact .int i
  | .str x, _, _, r, e => by cases r; cases e; exact .str x
  | .lst ds, _, p, r, e => by
    cases r with
    | lst h1 h2 =>
      unfold toPy at e
      cases q : toPys ds with
      | none => rw [q] at e; cases e
      | some ps =>
        rw [q] at e
        cases e
        exact .lst (ok.lstAt h1) (dps_of ok ds h2 q)
  | .tup ds, _, p, r, e => by
    cases r with
    | tup h1 h2 =>
      unfold toPy at e
      cases q : toPys ds with
      | none => rw [q] at e; cases e
      | some ps =>
        rw [q] at e
        cases e
        exact .tup (ok.tupAt h1) (dps_of ok ds h2 q)
  | .ref _, _, _, _, e => by cases e
  | .ty _, _, _, _, e => by cases e
  | .src _, _, _, _, e => by cases e
theorem dps_of {K : PySem.W.Frag} {I H : Hp} {M : DM} (ok : Ok K I H M) : ∀ (ds : List Dt) {vs : List V} {ps : List PyData}, Rls K I vs ds → toPys ds = some ps → DpAll K H vs ps
  | [], _, _, r, e => by cases r; cases e; exact .nil
  | d :: ds, _, ps, r, e => by
    cases r with
    | cons r1 r2 =>
      unfold toPys at e
      cases q1 : toPy d with
      | none => rw [q1] at e; cases e
      | some p =>
        rw [q1, Option.bind_some] at e
        cases q2 : toPys ds with
        | none => rw [q2] at e; cases e
        | some ps' =>
          rw [q2] at e
          cases e
          exact .cons (dp_of ok d r1 q1) (dps_of ok ds r2 q2)
end
def dEqDeep (neg : Bool) (x y : Dt) (M : DM) (Q : DK) : Prop := ∃ d e, toPy x = some d ∧ toPy y = some e ∧ SeqAt.shaped d = true ∧ SeqAt.shaped e = true ∧ Q (.bl (neg != PyData.eqv d e)) M
@[simp ↓] def dEq (neg : Bool) : D2
  | .int i, .int j, M, Q => Q (.bl (neg != decide (i = j))) M
  | .str i, .str j, M, Q => Q (.bl (neg != decide (i = j))) M
  | .bl i, .bl j, M, Q => Q (.bl (neg != decide (i = j))) M
  | .non, .non, M, Q => Q (.bl (neg != true)) M
  | .non, .int _, M, Q => Q (.bl (neg != false)) M
  | .non, .str _, M, Q => Q (.bl (neg != false)) M
  | .non, .bl _, M, Q => Q (.bl (neg != false)) M
  | .int _, .non, M, Q => Q (.bl (neg != false)) M
  | .str _, .non, M, Q => Q (.bl (neg != false)) M
  | .bl _, .non, M, Q => Q (.bl (neg != false)) M
  | .int _, .str _, M, Q => Q (.bl (neg != false)) M
  | .str _, .int _, M, Q => Q (.bl (neg != false)) M
  | x, y, M, Q => dEqDeep neg x y M Q
theorem op_dEq (hu : X.A.units + 64 < cLine) : ∃ r, OpR X (compareOp .Eq) r ∧ L2r X.K r (dEq false) := by
  refine ⟨_, op_eq.or (op_eqD hu), fun I H M x y dx dy Q R ok rx ry h k => ?_⟩
  have deep : dEqDeep false dx dy M Q → rEqD X.K x y H R := fun ⟨d, e, h1, h2, h3, h4, q⟩ => ⟨d, e, dp_of ok _ rx h1, dp_of ok _ ry h2, h3, h4, k.now ok (.bl _) (by simpa using q)⟩
  have sc : ∀ b, scal x y = true → Q (.bl (false != b)) M → b = decide (x = y) → rEq x y H R := fun b hs q e => ⟨hs, by rw [← e]; exact k.now ok (.bl _) (by simpa using q)⟩
  cases rx <;> cases ry <;> first
    | exact .inl (sc _ rfl h (by simp))
    | exact .inr (deep h)
theorem op_dNe (hu : X.A.units + 64 < cLine) : ∃ r, OpR X (compareOp .NotEq) r ∧ L2r X.K r (dEq true) := by
  refine ⟨_, op_ne.or (op_neD hu), fun I H M x y dx dy Q R ok rx ry h k => ?_⟩
  have deep : dEqDeep true dx dy M Q → rNeD X.K x y H R := fun ⟨d, e, h1, h2, h3, h4, q⟩ => ⟨d, e, dp_of ok _ rx h1, dp_of ok _ ry h2, h3, h4, k.now ok (.bl _) (by simpa using q)⟩
  have sc : ∀ b, scal x y = true → Q (.bl (true != b)) M → b = decide (x = y) → rNe x y H R := fun b hs q e => ⟨hs, by rw [← e]; exact k.now ok (.bl _) (by simpa using q)⟩
  cases rx <;> cases ry <;> first
    | exact .inl (sc _ rfl h (by simp))
    | exact .inr (deep h)
/-! ### in: flat things -/
def flatD : Dt → Bool
  | .non => true | .bl _ => true | .int _ => true | .str _ => true | _ => false
def eqFlat : Dt → Dt → Bool
  | .non, .non => true
  | .bl a, .bl b => a == b
  | .bl a, .int b => (if a then 1 else 0) == b
  | .int a, .bl b => a == (if b then 1 else 0)
  | .int a, .int b => a == b
  | .str a, .str b => a == b
  | _, _ => false
@[simp ↓] def dIn (neg : Bool) : D2
  | x, .lst ds, M, Q => flatD x = true ∧ ds.all flatD = true ∧ Q (.bl (neg != ds.any fun y => eqFlat y x)) M
  | x, .tup ds, M, Q => flatD x = true ∧ ds.all flatD = true ∧ Q (.bl (neg != ds.any fun y => eqFlat y x)) M
  | _, _, _, _ => False
theorem flat_of {K : PySem.W.Frag} {I : Hp} {v : V} {d : Dt} (r : Rl K I v d) : flatV v = flatD d := by cases r <;> rfl
theorem flats_of {K : PySem.W.Frag} {I : Hp} : ∀ {ds : List Dt} {vs : List V}, Rls K I vs ds → vs.all flatV = ds.all flatD
  | [], _, .nil => rfl
  | _ :: _, _, .cons r t => by rw [List.all_cons, List.all_cons, flat_of r, flats_of t]
theorem eqFlat_of {K : PySem.W.Frag} {I : Hp} {v u : V} {d e : Dt} (r : Rl K I v d) (q : Rl K I u e) (hd : flatD d = true) (he : flatD e = true) : eqV v u = eqFlat d e := by
  cases r <;> cases q <;> first | rfl | cases hd | cases he
theorem inV_of {K : PySem.W.Frag} {I : Hp} {u : V} {e : Dt} (q : Rl K I u e) (he : flatD e = true) : ∀ {ds : List Dt} {vs : List V}, Rls K I vs ds → ds.all flatD = true → inV u vs = ds.any fun y => eqFlat y e
  | [], _, .nil, _ => rfl
  | d :: ds, _, .cons r t, h => by
    rw [List.all_cons, Bool.and_eq_true] at h
    have ih := inV_of q he t h.2
    unfold inV at ih ⊢
    rw [List.any_cons, List.any_cons, eqFlat_of r q h.1 he, ih]
theorem l2_in {K : PySem.W.Frag} {neg : Bool} : L2r K (rIn K neg) (dIn neg) := fun I H M x y dx dy Q R ok rx ry h k => by
  have fin : ∀ {vs : List V} {ds : List Dt}, Rls K I vs ds → flatD dx = true ∧ ds.all flatD = true ∧ Q (.bl (neg != ds.any fun y => eqFlat y dx)) M → flatV x = true ∧ vs.all flatV = true ∧ R (.bl (if neg then !inV x vs else inV x vs)) H := fun r ⟨h1, h2, q⟩ =>
    ⟨(flat_of rx).trans h1, (flats_of r).trans h2, by
      rw [inV_of rx h1 r h2]
      have z := k.now ok (.bl _) q
      cases neg <;> simpa using z⟩
  cases ry <;> try (cases rx <;> exact h.elim)
  · rename_i h1 r1
    obtain ⟨z1, z2, z3⟩ := fin r1 h
    exact ⟨_, _, rfl, .inl (ok.lstAt h1), z1, z2, z3⟩
  · rename_i h1 r1
    obtain ⟨z1, z2, z3⟩ := fin r1 h
    exact ⟨_, _, rfl, .inr (ok.tupAt h1), z1, z2, z3⟩
end
end DL

namespace DL
open PySem L2
section
variable {X : Cx} {W : WX} {w : WD} {pos : Pos}
/-! ### tests -/
theorem pdt_val {e : Expr} {de : DE} (h : PD X W w e de) (he : ∀ whole, PySem.isTrue e X.env whole = (do let v ← whole; standAt e.pos; holding [v] (truthy v)) := by intro _; rfl) : PDT X W w e (dTest de) := by
  obtain ⟨te, p, l⟩ := h.ex
  exact ⟨⟨_, pt_val p he, lt_test l⟩⟩
theorem pdt_w {e : Expr} {dt : DT} (h : PDW X W w e dt) : PDT X W w e dt := by
  obtain ⟨t, p, l⟩ := h.ex
  exact ⟨⟨_, p.pt, l⟩⟩
@[simp ↓] def kAndT (db : DT) (δ : DS) (Q : Bool → DM → Prop) : Bool → DM → Prop := fun b M1 => if b = true then db δ M1 Q else Q false M1
@[simp ↓] def dAnd (da db : DT) : DT := fun δ M Q => da δ M (kAndT db δ Q)
@[simp ↓] def kOrT (db : DT) (δ : DS) (Q : Bool → DM → Prop) : Bool → DM → Prop := fun b M1 => if b = true then Q true M1 else db δ M1 Q
@[simp ↓] def dOr (da db : DT) : DT := fun δ M Q => da δ M (kOrT db δ Q)
theorem pdw_and {a b : Expr} {rest : List Expr} {da db : DT} (ha : PDT X W w a da) (hb : PDW X W w (.BoolOp .And (b :: rest) pos) db) : PDW X W w (.BoolOp .And (a :: b :: rest) pos) (dAnd da db) := by
  obtain ⟨ta, p1, l1⟩ := ha.ex
  obtain ⟨tb, p2, l2⟩ := hb.ex
  refine ⟨⟨_, pw_and p1 p2, fun σ δ I H M Q R hs ok h k => l1 σ δ I H M _ _ hs ok h fun b M1 I1 H1 s1 ok1 h1 => ?_⟩⟩
  show if b = true then _ else _
  cases b
  · exact k false M1 I1 H1 s1 ok1 h1
  · exact l2 σ δ I1 H1 M1 _ _ (hs.mono s1) ok1 h1 (k.mono s1)
theorem pdw_and1 {a : Expr} {da : DT} (ha : PDT X W w a da) : PDW X W w (.BoolOp .And [a] pos) da := by
  obtain ⟨ta, p1, l1⟩ := ha.ex
  exact ⟨⟨_, pw_and1 p1, l1⟩⟩
theorem pdw_or {a b : Expr} {rest : List Expr} {da db : DT} (ha : PDT X W w a da) (hb : PDW X W w (.BoolOp .Or (b :: rest) pos) db) : PDW X W w (.BoolOp .Or (a :: b :: rest) pos) (dOr da db) := by
  obtain ⟨ta, p1, l1⟩ := ha.ex
  obtain ⟨tb, p2, l2⟩ := hb.ex
  refine ⟨⟨_, pw_or p1 p2, fun σ δ I H M Q R hs ok h k => l1 σ δ I H M _ _ hs ok h fun b M1 I1 H1 s1 ok1 h1 => ?_⟩⟩
  show if b = true then _ else _
  cases b
  · exact l2 σ δ I1 H1 M1 _ _ (hs.mono s1) ok1 h1 (k.mono s1)
  · exact k true M1 I1 H1 s1 ok1 h1
theorem pdw_or1 {a : Expr} {da : DT} (ha : PDT X W w a da) : PDW X W w (.BoolOp .Or [a] pos) da := by
  obtain ⟨ta, p1, l1⟩ := ha.ex
  exact ⟨⟨_, pw_or1 p1, l1⟩⟩
@[simp ↓] def kNotT (Q : Bool → DM → Prop) : Bool → DM → Prop := fun b M1 => Q (!b) M1
@[simp ↓] def dNot (da : DT) : DT := fun δ M Q => da δ M (kNotT Q)
theorem pdt_not {a : Expr} {da : DT} (ha : PDT X W w a da) : PDT X W w (.UnaryOp .Not a pos) (dNot da) := by
  obtain ⟨ta, p1, l1⟩ := ha.ex
  exact ⟨⟨_, pt_not p1, fun σ δ I H M Q R hs ok h k => l1 σ δ I H M _ _ hs ok h fun b M1 I1 H1 s1 ok1 h1 => k (!b) M1 I1 H1 s1 ok1 h1⟩⟩
/-- as values -/
@[simp ↓] def kNot (Q : DK) : DK
  | .bl b, M => Q (.bl (!b)) M
  | _, _ => False
@[simp ↓] def dNotV (da : DE) : DE := fun δ M Q => da δ M (kNot Q)
theorem pd_not {a : Expr} {da : DE} (ha : PD X W w a da) : PD X W w (.UnaryOp .Not a pos) (dNotV da) := by
  obtain ⟨ta, p1, l1⟩ := ha.ex
  refine ⟨⟨_, pe_not p1, fun σ δ I H M Q R hs ok h k => l1 σ δ I H M _ _ hs ok h fun d M1 v I1 H1 s1 ok1 r1 h1 => ?_⟩⟩
  cases d <;> try exact h1.elim
  cases r1
  exact ⟨_, rfl, (k.mono s1).now ok1 (.bl _) h1⟩
@[simp ↓] def kAnd (N : DM → Prop) (Q : DK) : DK
  | .bl b, M => if b = true then N M else Q (.bl false) M
  | _, _ => False
@[simp ↓] def kOr (N : DM → Prop) (Q : DK) : DK
  | .bl b, M => if b = true then Q (.bl true) M else N M
  | _, _ => False
@[simp ↓] def kThen (db : DE) (δ : DS) (Q : DK) : DM → Prop := fun M1 => db δ M1 Q
@[simp ↓] def dAndV (da db : DE) : DE := fun δ M Q => da δ M (kAnd (kThen db δ Q) Q)
@[simp ↓] def dOrV (da db : DE) : DE := fun δ M Q => da δ M (kOr (kThen db δ Q) Q)
theorem pd_and {a b : Expr} {rest : List Expr} {da db : DE} (ha : PD X W w a da) (hb : PD X W w (.BoolOp .And (b :: rest) pos) db) : PD X W w (.BoolOp .And (a :: b :: rest) pos) (dAndV da db) := by
  obtain ⟨ta, p1, l1⟩ := ha.ex
  obtain ⟨tb, p2, l2⟩ := hb.ex
  refine ⟨⟨_, pe_and p1 p2, fun σ δ I H M Q R hs ok h k => l1 σ δ I H M _ _ hs ok h fun d M1 v I1 H1 s1 ok1 r1 h1 => ?_⟩⟩
  cases d <;> try exact h1.elim
  rename_i b
  cases r1
  refine ⟨_, rfl, ?_⟩
  cases b
  · exact (k.mono s1).now ok1 (.bl _) h1
  · exact l2 σ δ I1 H1 M1 _ _ (hs.mono s1) ok1 h1 (k.mono s1)
theorem pd_or {a b : Expr} {rest : List Expr} {da db : DE} (ha : PD X W w a da) (hb : PD X W w (.BoolOp .Or (b :: rest) pos) db) : PD X W w (.BoolOp .Or (a :: b :: rest) pos) (dOrV da db) := by
  obtain ⟨ta, p1, l1⟩ := ha.ex
  obtain ⟨tb, p2, l2⟩ := hb.ex
  refine ⟨⟨_, pe_or p1 p2, fun σ δ I H M Q R hs ok h k => l1 σ δ I H M _ _ hs ok h fun d M1 v I1 H1 s1 ok1 r1 h1 => ?_⟩⟩
  cases d <;> try exact h1.elim
  rename_i b
  cases r1
  refine ⟨_, rfl, ?_⟩
  cases b
  · exact l2 σ δ I1 H1 M1 _ _ (hs.mono s1) ok1 h1 (k.mono s1)
  · exact (k.mono s1).now ok1 (.bl _) h1
theorem pd_bone {a : Expr} {op : BoolOp} {da : DE} (ha : PD X W w a da) : PD X W w (.BoolOp op [a] pos) da := by
  obtain ⟨ta, p1, l1⟩ := ha.ex
  exact ⟨⟨_, pe_one p1, l1⟩⟩
@[simp ↓] def kIfE (da db : DE) (δ : DS) (Q : DK) : Bool → DM → Prop := fun b M1 => if b = true then da δ M1 Q else db δ M1 Q
@[simp ↓] def dIfE (dc : DT) (da db : DE) : DE := fun δ M Q => dc δ M (kIfE da db δ Q)
theorem pd_ifExp {c a b : Expr} {dc : DT} {da db : DE} (hc : PDT X W w c dc) (ha : PD X W w a da) (hb : PD X W w b db) : PD X W w (.IfExp c a b pos) (dIfE dc da db) := by
  obtain ⟨tc, p0, l0⟩ := hc.ex
  obtain ⟨ta, p1, l1⟩ := ha.ex
  obtain ⟨tb, p2, l2⟩ := hb.ex
  refine ⟨⟨_, pe_ifExp p0 p1 p2, fun σ δ I H M Q R hs ok h k => l0 σ δ I H M _ _ hs ok h fun b M1 I1 H1 s1 ok1 h1 => ?_⟩⟩
  show if b = true then _ else _
  cases b
  · exact l2 σ δ I1 H1 M1 _ _ (hs.mono s1) ok1 h1 (k.mono s1)
  · exact l1 σ δ I1 H1 M1 _ _ (hs.mono s1) ok1 h1 (k.mono s1)
/-! ### displays -/
@[simp ↓] def kTup (Q : DK) : List Dt → DM → Prop := fun ds M1 => ds.length ≤ sizeLine ∧ Q (.tup ds) M1
@[simp ↓] def dTup (da : DA) : DE := fun δ M Q => da δ M (kTup Q)
theorem pd_tup {es : List Expr} {da : DA} {x1 : Nat} (ha : PDA X W w es da) : PD X W w (.Tuple es x1 pos) (dTup da) := by
  obtain ⟨ta, p1, l1⟩ := ha.ex
  refine ⟨⟨_, pe_tup p1, fun σ δ I H M Q R hs ok h k => l1 σ δ I H M _ _ hs ok h fun ds M1 vs I1 H1 s1 ok1 r1 h1 => ?_⟩⟩
  exact ⟨by rw [r1.len]; exact h1.1, (k.mono s1).new ok1 h1.2 (rl_tup r1)⟩
@[simp ↓] def kLst (Q : DK) : List Dt → DM → Prop := fun ds M1 => ds.length ≤ sizeLine ∧ Q (.lst ds) M1
@[simp ↓] def dLst (da : DA) : DE := fun δ M Q => da δ M (kLst Q)
theorem pd_lst {es : List Expr} {da : DA} (ha : PDA X W w es da) : PD X W w (.List es pos) (dLst da) := by
  obtain ⟨ta, p1, l1⟩ := ha.ex
  refine ⟨⟨_, pe_lst p1, fun σ δ I H M Q R hs ok h k => l1 σ δ I H M _ _ hs ok h fun ds M1 vs I1 H1 s1 ok1 r1 h1 => ?_⟩⟩
  exact ⟨by rw [r1.len]; exact h1.1, (k.mono s1).new ok1 h1.2 (rl_lst r1)⟩
/-- a new list that will change -/
@[simp ↓] def newM (ds : List Dt) (M : DM) (Q : DK) : Prop := ∀ p, M p = none → Q (.ref p) (updM M p (.lst ds))
theorem new_m {K : PySem.W.Frag} {I H : Hp} {M : DM} {Q : DK} {R : VK} {ds : List Dt} {vs : List V} (k : Post K I Q R) (ok : Ok K I H M) (h : newM ds M Q) (r : Rls K I vs ds) : ∀ p, H p = none → R (.ref p) (upd H p (.lst vs)) := fun p hp =>
  k (.ref p) _ _ I _ (Same.refl _) (ok.put (ok.sub.free hp) (.lst r)) (.ref _) (h p (ok.fresh hp))
@[simp ↓] def kLstM (Q : DK) : List Dt → DM → Prop := fun ds M1 => ds.length ≤ sizeLine ∧ newM ds M1 Q
@[simp ↓] def dLstM (da : DA) : DE := fun δ M Q => da δ M (kLstM Q)
theorem pd_lstM {es : List Expr} {da : DA} (ha : PDA X W w es da) : PD X W w (.List es pos) (dLstM da) := by
  obtain ⟨ta, p1, l1⟩ := ha.ex
  refine ⟨⟨_, pe_lst p1, fun σ δ I H M Q R hs ok h k => l1 σ δ I H M _ _ hs ok h fun ds M1 vs I1 H1 s1 ok1 r1 h1 => ?_⟩⟩
  exact ⟨by rw [r1.len]; exact h1.1, new_m (k.mono s1) ok1 h1.2 r1⟩
/-! ### fields -/
def fldO (f : Str) (Q : DK) (M : DM) : Option MO → Prop
  | some (.ins _ _ fs) => match fs.lookup f with
    | some d => Q d M
    | none => False
  | _ => False
def kFld (f : Str) (Q : DK) : DK
  | .ref a, M => fldO f Q M (M a)
  | _, _ => False
@[simp ↓] def dFld (de : DE) (f : Str) : DE := fun δ M Q => de δ M (kFld f Q)
theorem fldO_inv {f : Str} {Q : DK} {M : DM} {o : Option MO} (h : fldO f Q M o) : ∃ C dx fs d, o = some (.ins C dx fs) ∧ fs.lookup f = some d ∧ Q d M := by
  cases o with
  | none => exact h.elim
  | some o =>
    cases o with
    | lst _ => exact h.elim
    | dK _ => exact h.elim
    | ins C dx fs =>
      have h' : (match fs.lookup f with | some d => Q d M | none => False) := h
      cases e : fs.lookup f with
      | none => rw [e] at h'; exact h'.elim
      | some d => rw [e] at h'; exact ⟨C, dx, fs, d, rfl, e, h'⟩
theorem Ok.ins {K : PySem.W.Frag} {I H : Hp} {M : DM} (ok : Ok K I H M) {a C dx : Addr} {gs : List (Str × Dt)} (h : M a = some (.ins C dx gs)) : I a = none ∧ ∃ fs, H a = some (.ins C dx fs) ∧ Rfs K I fs gs ∧ Cls K C ∧ (∀ f d, (f, d) ∈ gs → NoAttr K C f) ∧ gs.length ≤ 900 := by
  obtain ⟨h1, ho, h2, h3⟩ := ok.cel a _ h
  cases h3 with
  | ins r c n l => exact ⟨h1, _, h2, r, c, n, l⟩
theorem pd_fld {e : Expr} {f : Str} {de : DE} (ha : PD X W w e de) (hb : attributeBase e f X.env (eval e X.env) = eval e X.env := by rfl) : PD X W w (.Attribute e f pos) (dFld de f) := by
  obtain ⟨ta, p1, l1⟩ := ha.ex
  refine ⟨⟨_, pe_fld p1 hb, fun σ δ I H M Q R hs ok h k => l1 σ δ I H M _ _ hs ok h fun d M1 v I1 H1 s1 ok1 r1 h1 => ?_⟩⟩
  cases d <;> try exact h1.elim
  rename_i a
  cases r1
  obtain ⟨C, dx, gs, d, e1, e2, q⟩ := fldO_inv h1
  obtain ⟨_, fs, g1, g2, g3, g4, _⟩ := ok1.ins e1
  obtain ⟨v, z1, z2⟩ := g2.look e2
  exact ⟨a, C, dx, fs, v, rfl, g1, g3, g4 _ _ (mem_look e2), z1, (k.mono s1).now ok1 z2 q⟩
/-! ### a[i] -/
theorem atI_of {K : PySem.W.Frag} {I : Hp} {vs : List V} {ds : List Dt} (r : Rls K I vs ds) {i : Int} {d : Dt} (e : atI ds i = some d) : ∃ v, atI vs i = some v ∧ Rl K I v d := by
  unfold atI at e ⊢
  rw [r.len]
  cases h : ixN ds.length i with
  | none => rw [h] at e; cases e
  | some j => rw [h] at e; exact r.get e
@[simp ↓] def ixO (Q : DK) (M : DM) : Option Dt → Prop
  | some d => Q d M
  | none => False
@[simp ↓] def ixM (i : Int) (Q : DK) (M : DM) : Option MO → Prop
  | some (.lst ds) => ixO Q M (atI ds i)
  | _ => False
@[simp ↓] def dIx : D2
  | .lst ds, .int i, M, Q => ixO Q M (atI ds i)
  | .tup ds, .int i, M, Q => ixO Q M (atI ds i)
  | .src ns, .int i, M, Q => ixO Q M (atI (ns.map Dt.int) i)
  | .ref p, .int i, M, Q => ixM i Q M (M p)
  | _, _, _, _ => False
theorem ixO_inv {Q : DK} {M : DM} {o : Option Dt} (h : ixO Q M o) : ∃ d, o = some d ∧ Q d M := by
  cases o with
  | none => exact h.elim
  | some d => exact ⟨d, rfl, h⟩
theorem ixM_inv {i : Int} {Q : DK} {M : DM} {o : Option MO} (h : ixM i Q M o) : ∃ ds d, o = some (.lst ds) ∧ atI ds i = some d ∧ Q d M := by
  cases o with
  | none => exact h.elim
  | some o =>
    cases o with
    | lst ds =>
      obtain ⟨d, e, q⟩ := ixO_inv (o := atI ds i) h
      exact ⟨ds, d, rfl, e, q⟩
    | dK _ => exact h.elim
    | ins _ _ _ => exact h.elim
theorem l2_ix {K : PySem.W.Frag} : L2r K (rIx K) dIx := fun I H M x y dx dy Q R ok rx ry h k => by
  cases dx <;> cases dy <;> try exact h.elim
  · rename_i p i
    cases rx; cases ry
    obtain ⟨ds, d, e1, e2, q⟩ := ixM_inv h
    obtain ⟨vs, h2, r⟩ := ok.lists e1
    obtain ⟨v, z1, z2⟩ := atI_of r e2
    exact .inl ⟨p, vs, i, v, rfl, rfl, SqL.of h2, z1, k.now ok z2 q⟩
  · cases ry
    obtain ⟨d, e, q⟩ := ixO_inv h
    cases rx with
    | lst h1 r =>
      obtain ⟨v, z1, z2⟩ := atI_of r e
      exact .inl ⟨_, _, _, v, rfl, rfl, ok.lstAt h1, z1, k.now ok z2 q⟩
  · cases ry
    obtain ⟨d, e, q⟩ := ixO_inv h
    cases rx with
    | tup h1 r =>
      obtain ⟨v, z1, z2⟩ := atI_of r e
      exact .inr (.inl ⟨_, _, _, v, rfl, rfl, ok.tupAt h1, z1, k.now ok z2 q⟩)
  · cases ry
    obtain ⟨d, e, q⟩ := ixO_inv h
    cases rx with
    | src h1 =>
      obtain ⟨v, z1, z2⟩ := atI_of (Rls.of_ints (K := K) (I := I) _) e
      exact .inl ⟨_, _, _, v, rfl, rfl, ok.sub.seq h1, z1, k.now ok z2 q⟩
theorem pd_ix {a b : Expr} {da db : DE} (ha : PD X W w a da) (hb : PD X W w b db) (hs : PlainIx b := by exact fun _ _ => rfl) : PD X W w (.Subscript a b pos) (dOp dIx da db) := by
  obtain ⟨ta, p1, l1⟩ := ha.ex
  obtain ⟨tb, p2, l2⟩ := hb.ex
  exact ⟨⟨_, pe_ix ix_seq p1 p2 hs, le_op l1 l2 l2_ix⟩⟩
/-! ### slices of data -/
def cutD (xs : List Dt) (lo hi : Option Int) : List Dt := (xs.drop (HT.sIx xs.length 0 lo)).take (HT.sIx xs.length xs.length hi - HT.sIx xs.length 0 lo)
theorem rls_cut {K : PySem.W.Frag} {I : Hp} {vs : List V} {ds : List Dt} (r : Rls K I vs ds) (lo hi : Option Int) : Rls K I (cutV vs lo hi) (cutD ds lo hi) := by
  unfold cutV cutD
  rw [r.len]
  exact (r.drop _).take _
abbrev DO := DS → DM → (Option Int → DM → Prop) → Prop
structure PDO (X : Cx) (W : WX) (w : WD) (e : Option Expr) (d : DO) : Prop where
  ex : ∃ t, PO X e t ∧ ∀ (σ : L2.St) (δ : DS) (I H : Hp) (M : DM) (Q : Option Int → DM → Prop) (R : Option Int → Hp → Prop), Cn X.K W w I σ δ → Ok X.K I H M → d δ M Q →
    (∀ (b : Option Int) (M : DM) (I' H : Hp), Same I I' → Ok X.K I' H M → Q b M → R b H) → t σ H R
@[simp ↓] def oNo : DO := fun _ M Q => Q none M
@[simp ↓] def kPart (Q : Option Int → DM → Prop) : DK
  | .int i, M => Q (some i) M
  | _, _ => False
@[simp ↓] def oPart (de : DE) : DO := fun δ M Q => de δ M (kPart Q)
theorem pdo_none : PDO X W w none oNo := ⟨⟨_, po_none, fun σ δ I H M Q R hs ok q k => k none M I H (Same.refl _) ok q⟩⟩
theorem pdo_some {e : Expr} {de : DE} (h : PD X W w e de) : PDO X W w (some e) (oPart de) := by
  obtain ⟨te, p, l⟩ := h.ex
  refine ⟨⟨_, po_some p, fun σ δ I H M Q R hs ok q k => l σ δ I H M _ _ hs ok q fun d M1 v I1 H1 s1 ok1 r1 h1 => ?_⟩⟩
  cases d <;> try exact h1.elim
  cases r1
  exact ⟨_, rfl, k _ M1 I1 H1 s1 ok1 h1⟩
@[simp ↓] def dCut (lo hi : Option Int) (Q : DK) : DK
  | .lst ds, M => Q (.lst (cutD ds lo hi)) M
  | .tup ds, M => Q (.tup (cutD ds lo hi)) M
  | .src ns, M => Q (.lst (cutD (ns.map Dt.int) lo hi)) M
  | _, _ => False
@[simp ↓] def kSl3 (x : Dt) (lo : Option Int) (Q : DK) : Option Int → DM → Prop := fun hi M3 => dCut lo hi Q x M3
@[simp ↓] def kSl2 (x : Dt) (dh : DO) (δ : DS) (Q : DK) : Option Int → DM → Prop := fun lo M2 => dh δ M2 (kSl3 x lo Q)
@[simp ↓] def kSl1 (dl dh : DO) (δ : DS) (Q : DK) : DK := fun x M1 => dl δ M1 (kSl2 x dh δ Q)
@[simp ↓] def dSlice (de : DE) (dl dh : DO) : DE := fun δ M Q => de δ M (kSl1 dl dh δ Q)
theorem sIx_whole {α : Type} {xs : List α} {lo hi : Option Int} (h : HT.sIx xs.length 0 lo = 0 ∧ HT.sIx xs.length xs.length hi = xs.length) : (xs.drop (HT.sIx xs.length 0 lo)).take (HT.sIx xs.length xs.length hi - HT.sIx xs.length 0 lo) = xs := by
  rw [h.1, h.2, List.drop_zero, Nat.sub_zero, List.take_length]
theorem pd_slice {e : Expr} {lo hi : Option Expr} {de : DE} {dl dh : DO} {p2 : Pos} (he : PD X W w e de) (hl : PDO X W w lo dl) (hh : PDO X W w hi dh) : PD X W w (.Subscript e (.Slice lo hi none p2) pos) (dSlice de dl dh) := by
  obtain ⟨te, p1, l1⟩ := he.ex
  obtain ⟨tl, p2, l2⟩ := hl.ex
  obtain ⟨th, p3, l3⟩ := hh.ex
  refine ⟨⟨_, pe_slice (sl_list.or sl_tupA) p1 p2 p3, fun σ δ I H M Q R hs ok h k => l1 σ δ I H M _ _ hs ok h fun d M1 v I1 H1 s1 ok1 r1 h1 => ?_⟩⟩
  refine l2 σ δ I1 H1 M1 _ _ (hs.mono s1) ok1 h1 fun lo M2 I2 H2 s2 ok2 h2 => l3 σ δ I2 H2 M2 _ _ ((hs.mono s1).mono s2) ok2 h2 fun hi M3 I3 H3 s3 ok3 h3 => ?_
  have r3 := (r1.mono s2).mono s3
  have k3 := k.mono ((s1.trans s2).trans s3)
  cases d <;> try exact h3.elim
  · cases r3 with
    | lst z1 z2 => exact .inl ⟨_, _, rfl, ok3.lstAt z1, k3.new ok3 h3 (rl_lst (rls_cut z2 lo hi))⟩
  · cases r3 with
    | tup z1 z2 =>
      rename_i ds a vs
      refine .inr ⟨_, _, rfl, ok3.tupAt z1, fun e => ?_, fun _ => k3.new ok3 h3 (rl_tup (rls_cut z2 lo hi))⟩
      have e' := e
      rw [z2.len] at e'
      have q : Q (.tup (cutD ds lo hi)) M3 := h3
      rw [show cutD ds lo hi = ds from sIx_whole e'] at q
      exact k3.now ok3 (.tup z1 z2) q
  · cases r3 with
    | src z1 => exact .inl ⟨_, _, rfl, ok3.sub.seq z1, k3.new ok3 h3 (rl_lst (rls_cut (Rls.of_ints _) lo hi))⟩
/-- a[::-1]: the list that changes, turned round, a new one -/
@[simp ↓] def revO (Q : DK) (M : DM) : Option MO → Prop
  | some (.lst ds) => newM ds.reverse M Q
  | _ => False
@[simp ↓] def kRev (Q : DK) : DK
  | .ref p, M => revO Q M (M p)
  | .lst ds, M => newM ds.reverse M Q
  | _, _ => False
@[simp ↓] def dRevM (de : DE) : DE := fun δ M Q => de δ M (kRev Q)
theorem pd_revM {e : Expr} {de : DE} {k : Nat} {p1 p2 p3 : Pos} (he : PD X W w e de) :
    PD X W w (.Subscript e (.Slice none none (some (.UnaryOp .USub (.Constant (.int 1) k p1) p2)) p3) pos) (dRevM de) := by
  obtain ⟨te, p1, l1⟩ := he.ex
  refine ⟨⟨_, pe_revL p1, fun σ δ I H M Q R hs ok h k => l1 σ δ I H M _ _ hs ok h fun d M1 v I1 H1 s1 ok1 r1 h1 => ?_⟩⟩
  cases d <;> try exact h1.elim
  · rename_i p
    cases r1
    have h1 : revO Q M1 (M1 p) := h1
    cases e : M1 p with
    | none => rw [e] at h1; exact h1.elim
    | some o =>
      rw [e] at h1
      cases o <;> try exact h1.elim
      obtain ⟨vs, h2, r⟩ := ok1.lists e
      exact ⟨p, vs, rfl, SqL.of h2, new_m (k.mono s1) ok1 h1 r.reverse⟩
  · cases r1 with
    | lst z1 z2 => exact ⟨_, _, rfl, ok1.lstAt z1, new_m (k.mono s1) ok1 h1 z2.reverse⟩
end
end DL

/-! sorted of pairs (int, anything), the ints distinct -/
namespace SrtH
open PySem PyProof.Rows Srt SrtO
section
variable {prog : Program} {w : World} {A : Around} {E : Value → Shared → Prop} {s : Shared}
def IsHd (h : Heap) (v : Value) (x : Int) : Prop := ∃ a o t y n, v = .ref a ∧ h.get? a = some o ∧ o.cls = .type "tuple" ∧ o.data = .seq #[.int x t, y] n
theorem IsHd.keeps {h h' : Heap} {v : Value} {x : Int} (p : IsHd h v x) (k : ∀ b o, h.get? b = some o → o.cls = .type "tuple" → h'.get? b = some o) : IsHd h' v x := by
  obtain ⟨a, o, t, y, n, e, ho, hc, hd⟩ := p
  exact ⟨a, o, t, y, n, e, k _ _ ho hc, hc, hd⟩
abbrev ltK (k : Value → Int) (v u : Value) : Bool := decide (k v < k u)
theorem swoK (k : Value → Int) : Swo (ltK k) := by
  refine ⟨fun x y h => ?_, fun x y z h1 h2 => ?_⟩
  · have a := of_decide_eq_true h
    exact decide_eq_false (by omega)
  · have a := of_decide_eq_false h1
    have b := of_decide_eq_false h2
    exact decide_eq_false (by omega)
theorem hd_cmp {vs : List Value} {k : Value → Int} (hp : ∀ v ∈ vs, IsHd s.heap v (k v)) (hi : ∀ v ∈ vs, ∀ u ∈ vs, k v = k u → v = u) : Cmp prog w A s (tuples' true) (fun p => p.1 ∈ vs) (lt2 (ltK k)) := by
  intro p q hm hm'
  have h1 := hp _ hm
  have h2 := hp _ hm'
  have h3 := hi _ hm _ hm'
  show wpAny (model prog w) A (keyLt' (tuples' true) p.1 q.1) (fun r s' => s' = s ∧ r = ltK k p.1 q.1) (fun _ _ => False) s
  unfold ltK
  generalize k p.1 = x at h1 h3 ⊢
  generalize k q.1 = x' at h2 h3 ⊢
  obtain ⟨a, o, t, y, n, e, ho, hc, hd⟩ := h1
  obtain ⟨a', o', t', y', n', e', ho', hc', hd'⟩ := h2
  rw [e, e'] at h3
  rw [e, e']
  refine PySem.W.kat_lt ho hd ho' hd' ?_
  show PySem.W.KatLex prog w A true (decide (2 < 2)) _ [(.int x t, .int x' t'), (y, y')] 0 s
  refine PySem.W.kat_cons (SeqAt.EqAt.int_int x t x' t' prog w _ _ ?_)
  refine PySem.W.kat_go (fun e1 => ?_) (fun e1 => ?_)
  · have ex : x = x' := by simpa using e1
    have ea : Value.ref a = Value.ref a' := h3 ex
    cases ea
    rw [ho] at ho'
    cases ho'
    rw [hd] at hd'
    have ey : y = y' := by
      simp at hd'
      exact hd'.1.2
    subst ey
    refine PySem.W.kat_yes (PySem.W.kat_cons (SeqAt.EqAt.same y prog w _ _ ?_))
    refine PySem.W.kat_yes (PySem.W.kat_nil ⟨rfl, ?_⟩)
    rw [ex]
    simp
  · exact PySem.W.kat_no (oneLt_int ⟨rfl, rfl⟩)
theorem firsts_of {h : Heap} {k : Value → Int} : ∀ {vs : List Value}, (∀ v ∈ vs, IsHd h v (k v)) → ∃ fs : List Value, PySem.W.KatTups h vs fs ∧ fs.length = vs.length ∧ ∀ f ∈ fs, ∃ x t, f = Value.int x t
  | [], _ => ⟨[], PySem.W.KatTups.nil, rfl, fun _ hm => by simp at hm⟩
  | v :: vs, hp => by
    obtain ⟨fs, h1, h2, h3⟩ := firsts_of (vs := vs) fun v' hm => hp v' (List.mem_cons_of_mem _ hm)
    obtain ⟨a, o, t, y, n, e, ho, hc, hd⟩ := hp v (List.mem_cons_self ..)
    rw [e]
    refine ⟨.int (k v) t :: fs, PySem.W.KatTups.cons ho hc hd rfl h1, by rw [List.length_cons, List.length_cons, h2], fun f hm => ?_⟩
    rcases List.mem_cons.mp hm with rfl | hm
    · exact ⟨_, t, rfl⟩
    · exact h3 f hm
theorem hd_sortable {a : Addr} {vs : List Value} {k : Value → Int} (h0 : 0 < vs.length) (hp : ∀ v ∈ vs, IsHd s.heap v (k v)) (hi : ∀ v ∈ vs, ∀ u ∈ vs, k v = k u → v = u) (ha : ∀ o, s.heap.get? a = some o → o.cls ≠ .type "tuple") : SortableO prog w A s a vs (ltK k) := by
  intro h' keep
  have hp' : ∀ v ∈ vs, IsHd h' v (k v) := fun v hm => (hp v hm).keeps fun b o e c => keep b o (fun z => by subst z; exact ha o e c) e
  obtain ⟨fs, h1, h2, h3⟩ := firsts_of hp'
  refine ⟨tuples' true, fun Q E hq => ?_, hd_cmp hp' hi⟩
  refine PySem.W.kat_kind (T := .type "int") h1 (by omega) (fun f hm => ?_) (by rfl) ?_
  · obtain ⟨x, t, rfl⟩ := h3 f hm
    exact PySem.W.Looks.now
  · have e : (Value.type "int" != Value.type "tuple") = true := by first | decide +kernel | rfl | decide
    rw [e]
    exact hq
theorem sorted_hd {l : Addr} {vs : List Value} {k : Value → Int} {Q : Value → Shared → Prop} (hl : s.heap.IsList l vs.toArray) (hz : vs.length ≤ sizeLine) (hp : ∀ v ∈ vs, IsHd s.heap v (k v)) (hi : ∀ v ∈ vs, ∀ u ∈ vs, k v = k u → v = u)
    (h : ∀ (h' : Heap) (d : Addr) (out : List Value), Srtd (ltK k) out → out.Perm vs → (∀ b o, s.heap.get? b = some o → h'.get? b = some o) → s.heap.objs.size ≤ d → (∃ n, h'.get? d = some (seqObj "list" out.toArray n)) → Q (.ref d) { s with heap := h' }) :
    wpAny (model prog w) A (call (.builtin "sorted") [.ref l]) Q E s := by
  refine sorted_ord (swoK k) hl hz (fun h2 h₁ a ha kk => ?_) fun out hs hb => ?_
  · refine hd_sortable (s := { s with heap := h₁ }) (by omega) (fun v hm => (hp v hm).keeps fun b o e _ => (kk b o e).2) hi fun o e => ?_
    have e' : some o = some (seqObj "list" vs.toArray 0) := e.symm.trans ha
    cases e'
    intro c
    exact absurd (Value.type.inj c) (by decide)
  · exact h _ _ out hs hb.perm (fun b o e => sortedAll_old e) (Nat.le_succ _) (sortedAll_at s.heap vs out.toArray)
/-- the key, as the heap has it -/
def kv (h : Heap) : Value → Int
  | .ref a => match h.get? a with
    | some o => match o.data with
      | .seq arr _ => match (arr[0]? : Option Value) with
        | some (Value.int x _) => x
        | _ => 0
      | _ => 0
    | none => 0
  | _ => 0
theorem IsHd.kv {h : Heap} {v : Value} {x : Int} (p : IsHd h v x) : SrtH.kv h v = x := by
  obtain ⟨a, o, t, y, n, e, ho, hc, hd⟩ := p
  subst e
  unfold SrtH.kv
  simp [ho, hd]
end
end SrtH
namespace L2
open PySem PySem.Spec PyProof.Rows
def HdV (K : PySem.W.Frag) (H : Hp) (x : V) (k : Int) : Prop := ∃ t y, x = .ref t ∧ SqT K H t [.int k, y]
def rSortedH (K : PySem.W.Frag) : List V → Hp → VK → Prop := fun vs H Q => ∃ (a : Addr) (xs : List V) (ks : List Int), vs = [V.ref a] ∧ SqL K H a xs ∧ Paired (HdV K H) xs ks ∧ ks.Nodup ∧
  ∀ (zs : List (V × Int)) p, zs.Perm (xs.zip ks) → zs.Pairwise (fun x y => x.2 < y.2) → H p = none → Q (.ref p) (upd H p (.lst (zs.map (·.1))))
theorem paired_len {α β : Type} {R : α → β → Prop} : ∀ {xs : List α} {ys : List β}, Paired R xs ys → xs.length = ys.length
  | _, _, .nil => rfl
  | _, _, .cons _ t => by rw [List.length_cons, List.length_cons, paired_len t]
theorem hd_all {X : Cx} {pins : List (Addr × Obj)} {σ : St} {H : Hp} {s : Shared} (I : Inv X pins σ H s) : ∀ {xs : List V} {ks : List Int} {us : List Value}, Paired (HdV X.K H) xs ks → Vals xs us →
    (∀ v ∈ us, SrtH.IsHd s.heap v (SrtH.kv s.heap v)) ∧ us.map (SrtH.kv s.heap) = ks ∧ (∀ u ∈ us, ∃ a, u = Value.ref a) ∧ xs = us.map backV
  | _, _, _, .nil, .nil => ⟨fun _ h => by simp at h, rfl, fun _ h => by simp at h, rfl⟩
  | _, _, _, .cons h t, .cons r rs => by
    obtain ⟨i1, i2, i3, i4⟩ := hd_all I t rs
    obtain ⟨b, y, e, q⟩ := h
    subst e
    rename_i u us
    obtain rfl : u = Value.ref b := r
    obtain ⟨its, rv, ht, hz⟩ := I.tuple q
    obtain ⟨u1, u2, e2, r1, r2⟩ := vals2 rv
    obtain ⟨tk, e3⟩ := r1
    subst e3
    subst e2
    obtain ⟨o, n, ho, hc, hd⟩ : ∃ o n, s.heap.get? b = some o ∧ o.cls = .type "tuple" ∧ o.data = .seq #[.int _ tk, u2] n := by
      obtain ⟨o, h1, h2, n, h3⟩ := ht
      exact ⟨o, n, h1, h2, h3⟩
    have z : SrtH.IsHd s.heap (.ref b) _ := ⟨b, o, tk, u2, n, rfl, ho, hc, hd⟩
    have zk := z.kv
    refine ⟨fun v hv => ?_, ?_, fun v hv => ?_, ?_⟩
    · rcases List.mem_cons.mp hv with e | e
      · subst e; rw [zk]; exact z
      · exact i1 v e
    · rw [List.map_cons, i2, zk]
    · rcases List.mem_cons.mp hv with e | e
      · exact ⟨b, e⟩
      · exact i3 v e
    · rw [List.map_cons, ← i4]; rfl
theorem nodup_inj {α : Type} {f : α → Int} : ∀ {l : List α}, (l.map f).Nodup → ∀ x ∈ l, ∀ y ∈ l, f x = f y → x = y
  | [], _, x, hx, _, _, _ => by cases hx
  | a :: l, h, x, hx, y, hy, e => by
    rw [List.map_cons, List.nodup_cons] at h
    rcases List.mem_cons.mp hx with ex | ex <;> rcases List.mem_cons.mp hy with ey | ey
    · rw [ex, ey]
    · subst ex; exact absurd (List.mem_map.mpr ⟨y, ey, e.symm⟩) h.1
    · subst ey; exact absurd (List.mem_map.mpr ⟨x, ex, e⟩) h.1
    · exact nodup_inj h.2 x ex y ey e
theorem zip_map_self {α β γ : Type} (f : α → β) (g : α → γ) : ∀ l : List α, (l.map f).zip (l.map g) = l.map fun x => (f x, g x)
  | [] => rfl
  | a :: l => by rw [List.map_cons, List.map_cons, List.zip_cons_cons, zip_map_self f g l]; rfl
section
variable {X : Cx}
theorem cr_sortedH : CallR X (.builtin "sorted") (rSortedH X.K) := by
  intro pins s σ H vs us Q I r h
  obtain ⟨a, xs, ks, rfl, hs, hx, hn, q⟩ := h
  obtain ⟨its, rv, hl, hz⟩ := I.list hs
  obtain ⟨u, rfl, ru⟩ := vals1 r
  obtain rfl : u = Value.ref a := ru
  obtain ⟨i1, i2, i3, i4⟩ := hd_all I hx rv
  have hn' : (its.map (SrtH.kv s.heap)).Nodup := by rw [i2]; exact hn
  refine SrtH.sorted_hd (k := SrtH.kv s.heap) hl.isList (by rw [← rv.length]; exact hz) i1 (nodup_inj hn') fun h' d out h1 h2 kp hd hno => ?_
  have h3 : ∀ u ∈ out, ∃ a, u = Value.ref a := fun u hu => i3 u (h2.mem_iff.mp hu)
  obtain ⟨n, hno⟩ := hno
  have hll : (out.map backV).length = xs.length := by rw [i4, List.length_map, List.length_map, h2.length_eq]
  refine ⟨.ref d, upd H d (.lst (out.map backV)), I.laid (t' := s.toks) kp hd ⟨?_, out, n, vals_back h3, hno⟩, rfl, ?_⟩
  · rw [hll]; exact hz
  · have z := q (out.map fun u => (backV u, SrtH.kv s.heap u)) d ?_ ?_ (I.hok.fresh hd)
    · rw [List.map_map] at z
      exact z
    · rw [← i2, i4, zip_map_self]
      exact h2.map _
    · rw [List.pairwise_map]
      have hno : (out.map (SrtH.kv s.heap)).Nodup := (h2.map (SrtH.kv s.heap)).nodup_iff.mpr hn'
      have hne : out.Pairwise (fun x y => SrtH.kv s.heap x ≠ SrtH.kv s.heap y) := List.pairwise_map.mp hno
      exact (h1.and hne).imp fun {x y} ⟨p1, p2⟩ => by
        have := of_decide_eq_false p1
        show SrtH.kv s.heap x < SrtH.kv s.heap y
        omega
end
end L2

namespace DL
open PySem L2
section
variable {X : Cx} {W : WX} {w : WD} {pos : Pos}
/-! ### built-ins -/
abbrev DB := List Dt → DM → DK → Prop
def L2b (K : PySem.W.Frag) (r : List V → Hp → VK → Prop) (dr : DB) : Prop := ∀ (I H : Hp) (M : DM) (vs : List V) (ds : List Dt) (Q : DK) (R : VK), Ok K I H M → Rls K I vs ds → dr ds M Q → Post K I Q R → r vs H R
@[simp ↓] def kCB (r : DB) (Q : DK) : List Dt → DM → Prop := fun ds M1 => r ds M1 Q
@[simp ↓] def dCB (r : DB) (da : DA) : DE := fun δ M Q => da δ M (kCB r Q)
theorem le_cb {K : PySem.W.Frag} {ta : TA} {da : DA} {r : List V → Hp → VK → Prop} {dr : DB} (l : LA K W w ta da) (hr : L2b K r dr) : LE K W w (tCB r ta) (dCB dr da) := fun σ δ I H M Q R hs ok h k =>
  l σ δ I H M _ _ hs ok h fun ds M1 vs I1 H1 s1 ok1 r1 h1 => hr I1 H1 M1 vs ds Q R ok1 r1 h1 (k.mono s1)
theorem pd_callB {x : Str} {p : Pos} {e : Expr} {es : List Expr} {da : DA} {id : String} {r : List V → Hp → VK → Prop} {dr : DB} (hr : CallR X (.builtin id) r) (hl : L2b X.K r dr) (hm : X.mg x = none) (hv : bootBuiltins x = some (.builtin id)) (ha : PDA X W w (e :: es) da)
    (hg : Gl X x := by rfl) (h1 : x ≠ "__name__" := by decide) (h2 : (x == ("__debug__" : Str)) = false := by decide) (h3 : starEach (e :: es) X.env = (false, eval e X.env) :: starEach es X.env := by rfl) (h4 : (backTo pos (starEach es X.env)).any (·.1) = false := by rfl) :
    PD X W w (.Call (.Name x p) (e :: es) [] pos) (dCB dr da) := by
  obtain ⟨ta, p1, l1⟩ := ha.ex
  exact ⟨⟨_, pe_callB hr hg hm hv p1 h1 h2 h3 h4, le_cb l1 hl⟩⟩
theorem pd_callTy {x : Str} {p : Pos} {e : Expr} {es : List Expr} {da : DA} {id : String} {r : List V → Hp → VK → Prop} {dr : DB} (hr : CallR X (.type id) r) (hl : L2b X.K r dr) (hm : X.mg x = none) (hv : bootBuiltins x = some (.type id)) (ha : PDA X W w (e :: es) da)
    (hg : Gl X x := by rfl) (h1 : x ≠ "__name__" := by decide) (h2 : (x == ("__debug__" : Str)) = false := by decide) (h3 : starEach (e :: es) X.env = (false, eval e X.env) :: starEach es X.env := by rfl) (h4 : (backTo pos (starEach es X.env)).any (·.1) = false := by rfl) :
    PD X W w (.Call (.Name x p) (e :: es) [] pos) (dCB dr da) := by
  obtain ⟨ta, p1, l1⟩ := ha.ex
  exact ⟨⟨_, pe_callTy hr hg hm hv p1 h1 h2 h3 h4, le_cb l1 hl⟩⟩
/-- len -/
@[simp ↓] def lenM (Q : DK) (M : DM) : Option MO → Prop
  | some (.lst ds) => Q (.int ds.length) M
  | some (.dK kvs) => Q (.int kvs.length) M
  | _ => False
@[simp ↓] def bLen : DB
  | [.lst ds], M, Q => Q (.int ds.length) M
  | [.tup ds], M, Q => Q (.int ds.length) M
  | [.src ns], M, Q => Q (.int ns.length) M
  | [.str x], M, Q => x.length ≤ sizeLine ∧ Q (.int x.length) M
  | [.ref p], M, Q => lenM Q M (M p)
  | _, _, _ => False
theorem cr_len : ∃ r, CallR X (.builtin "len") r ∧ L2b X.K r bLen := by
  refine ⟨_, call_len.or call_lenD, fun I H M vs ds Q R ok r h k => ?_⟩
  match ds, r, h with
  | [], _, h => exact h.elim
  | d :: _ :: _, _, h => cases d <;> exact h.elim
  | [d], .cons (v := v) r1 .nil, h =>
    cases d <;> try exact h.elim
    · cases r1; exact .inl ⟨_, _, rfl, ⟨h.1, rfl⟩, k.now ok (.int _) h.2⟩
    · rename_i p
      cases r1
      have h : lenM Q M (M p) := h
      cases e : M p with
      | none => rw [e] at h; exact h.elim
      | some o =>
        rw [e] at h
        obtain ⟨_, ho, h2, h3⟩ := ok.cel p _ e
        cases h3 with
        | lst r =>
          refine .inl ⟨_, _, rfl, .inl ⟨_, SqL.of h2, rfl⟩, k.now ok (.int _) ?_⟩
          rw [r.len]
          exact h
        | ins => exact h.elim
        | dK r =>
          refine .inr ⟨_, _, rfl, h2, k.now ok (.int _) ?_⟩
          rw [paired_len r]
          exact h
    · cases r1 with
      | lst h1 r =>
        refine .inl ⟨_, _, rfl, .inl ⟨_, ok.lstAt h1, rfl⟩, k.now ok (.int _) ?_⟩
        rw [r.len]
        exact h
    · cases r1 with
      | tup h1 r =>
        refine .inl ⟨_, _, rfl, .inr ⟨_, ok.tupAt h1, rfl⟩, k.now ok (.int _) ?_⟩
        rw [r.len]
        exact h
    · cases r1 with
      | src h1 =>
        refine .inl ⟨_, _, rfl, .inl ⟨_, ok.sub.seq h1, rfl⟩, k.now ok (.int _) ?_⟩
        rw [List.length_map]
        exact h
theorem pd_len {p : Pos} {e : Expr} {da : DA} (hm : X.mg "len" = none) (ha : PDA X W w [e] da) (hg : Gl X "len" := by rfl) (h3 : starEach [e] X.env = (false, eval e X.env) :: starEach [] X.env := by rfl) (h4 : (backTo pos (starEach [] X.env)).any (·.1) = false := by rfl) :
    PD X W w (.Call (.Name "len" p) [e] [] pos) (dCB bLen da) := by
  obtain ⟨r, h1, h2⟩ := cr_len (X := X)
  exact pd_callB h1 h2 hm PySem.boot_len ha hg (by decide) (by decide) h3 h4
/-- min, max of two -/
@[simp ↓] def b2 (f : Int → Int → Int) : DB
  | [.int i, .int j], M, Q => Q (.int (f i j)) M
  | _, _, _ => False
theorem l2_b2 {K : PySem.W.Frag} {f : Int → Int → Int} {g : Int → Int → Int} (e : ∀ i j, g i j = f i j) : L2b K (fun xs H Q => ∃ i j, xs = [V.int i, V.int j] ∧ Q (V.int (g i j)) H) (b2 f) := fun I H M vs ds Q R ok r h k => by
  match ds, r, h with
  | [.int i, .int j], .cons r1 (.cons r2 .nil), h =>
    cases r1; cases r2
    exact ⟨i, j, rfl, k.now ok (.int _) (by rw [e]; exact h)⟩
  | [.int i, .bl _], _, h => exact h.elim
  | [], _, h => exact h.elim
theorem l2_min {K : PySem.W.Frag} : L2b K (fun xs H Q => ∃ i j, xs = [V.int i, V.int j] ∧ Q (V.int (if j < i then j else i)) H) (b2 min) := l2_b2 fun i j => by rw [Int.min_def]; split <;> split <;> omega
theorem l2_max {K : PySem.W.Frag} : L2b K (fun xs H Q => ∃ i j, xs = [V.int i, V.int j] ∧ Q (V.int (if j > i then j else i)) H) (b2 max) := l2_b2 fun i j => by rw [Int.max_def]; split <;> split <;> omega
theorem pd_min {p : Pos} {a b : Expr} {da : DA} (hc : X.calm = true) (hm : X.mg "min" = none) (ha : PDA X W w [a, b] da) (hv : bootBuiltins "min" = some (.builtin "min") := by decide +kernel) (hg : Gl X "min" := by rfl) (h3 : starEach [a, b] X.env = (false, eval a X.env) :: starEach [b] X.env := by rfl) (h4 : (backTo pos (starEach [b] X.env)).any (·.1) = false := by rfl) :
    PD X W w (.Call (.Name "min" p) [a, b] [] pos) (dCB (b2 min) da) := pd_callB (call_min2 hc) l2_min hm hv ha hg (by decide) (by decide) h3 h4
theorem pd_max {p : Pos} {a b : Expr} {da : DA} (hc : X.calm = true) (hm : X.mg "max" = none) (ha : PDA X W w [a, b] da) (hv : bootBuiltins "max" = some (.builtin "max") := by decide +kernel) (hg : Gl X "max" := by rfl) (h3 : starEach [a, b] X.env = (false, eval a X.env) :: starEach [b] X.env := by rfl) (h4 : (backTo pos (starEach [b] X.env)).any (·.1) = false := by rfl) :
    PD X W w (.Call (.Name "max" p) [a, b] [] pos) (dCB (b2 max) da) := pd_callB (call_max2 hc) l2_max hm hv ha hg (by decide) (by decide) h3 h4
@[simp ↓] def b3 (f : Int → Int → Int → Int) : DB
  | [.int i, .int j, .int l], M, Q => Q (.int (f i j l)) M
  | _, _, _ => False
abbrev min3 (i j l : Int) : Int := min (min i j) l
theorem l2_min3 {K : PySem.W.Frag} : L2b K (rNuC3 nuMin3) (b3 min3) := fun I H M vs ds Q R ok r h k => by
  match ds, r, h with
  | [.int i, .int j, .int l], .cons r1 (.cons r2 (.cons r3 .nil)), h =>
    cases r1; cases r2; cases r3
    refine ⟨_, _, _, .int (min3 i j l), rfl, ?_, k.now ok (.int _) h⟩
    have e : ∀ a b : Int, nuMin2 (.int a) (.int b) = some (.int (min a b)) := fun a b => by
      show some (if decide (b < a) = true then V.int b else V.int a) = _
      rw [Int.min_def]
      by_cases hh : b < a
      · rw [if_pos (by simpa using hh), if_neg (by omega)]
      · rw [if_neg (by simpa using hh), if_pos (by omega)]
    show (nuMin2 (.int i) (.int j)).bind _ = _
    rw [e, Option.bind_some, e]
  | [], _, h => exact h.elim
theorem pd_min3 {p : Pos} {a b c : Expr} {da : DA} (hc : X.calm = true) (hm : X.mg "min" = none) (ha : PDA X W w [a, b, c] da) (hv : bootBuiltins "min" = some (.builtin "min") := by decide +kernel) (hg : Gl X "min" := by rfl) (h3 : starEach [a, b, c] X.env = (false, eval a X.env) :: starEach [b, c] X.env := by rfl) (h4 : (backTo pos (starEach [b, c] X.env)).any (·.1) = false := by rfl) :
    PD X W w (.Call (.Name "min" p) [a, b, c] [] pos) (dCB (b3 min3) da) := pd_callB (call_min3Nu hc) l2_min3 hm hv ha hg (by decide) (by decide) h3 h4
/-- sum, any, all -/
def bSum : DB
  | [.lst ds], M, Q => ∃ ns : List Int, ds = ns.map Dt.int ∧ Q (.int ns.sum) M
  | _, _, _ => False
theorem l2_sum {K : PySem.W.Frag} : L2b K (rSum K) bSum := fun I H M vs ds Q R ok r h k => by
  match ds, r, h with
  | [.lst ds], .cons r1 .nil, h =>
    obtain ⟨ns, e, q⟩ := h
    subst e
    cases r1 with
    | lst h1 r => exact ⟨_, ns, rfl, by rw [← r.ints]; exact ok.lstAt h1, k.now ok (.int _) q⟩
  | [], _, h => exact h.elim
theorem pd_sum {p : Pos} {a : Expr} {da : DA} (hc : X.calm = true) (hm : X.mg "sum" = none) (ha : PDA X W w [a] da) (hv : bootBuiltins "sum" = some (.builtin "sum") := by decide +kernel) (hg : Gl X "sum" := by rfl) (h3 : starEach [a] X.env = (false, eval a X.env) :: starEach [] X.env := by rfl) (h4 : (backTo pos (starEach [] X.env)).any (·.1) = false := by rfl) :
    PD X W w (.Call (.Name "sum" p) [a] [] pos) (dCB bSum da) := pd_callB (cr_sum hc) l2_sum hm hv ha hg (by decide) (by decide) h3 h4
def bQuant (f : List Bool → Bool) : DB
  | [.lst ds], M, Q => ∃ bs : List Bool, ds = bs.map Dt.bl ∧ Q (.bl (f bs)) M
  | _, _, _ => False
theorem l2_any {K : PySem.W.Frag} : L2b K (rAny K) (bQuant fun bs => bs.any id) := fun I H M vs ds Q R ok r h k => by
  match ds, r, h with
  | [.lst ds], .cons r1 .nil, h =>
    obtain ⟨ns, e, q⟩ := h
    subst e
    cases r1 with
    | lst h1 r => exact ⟨_, ns, rfl, by rw [← r.bools]; exact ok.lstAt h1, k.now ok (.bl _) q⟩
  | [], _, h => exact h.elim
theorem l2_all {K : PySem.W.Frag} : L2b K (rAll K) (bQuant fun bs => bs.all id) := fun I H M vs ds Q R ok r h k => by
  match ds, r, h with
  | [.lst ds], .cons r1 .nil, h =>
    obtain ⟨ns, e, q⟩ := h
    subst e
    cases r1 with
    | lst h1 r => exact ⟨_, ns, rfl, by rw [← r.bools]; exact ok.lstAt h1, k.now ok (.bl _) q⟩
  | [], _, h => exact h.elim
theorem pd_any {p : Pos} {a : Expr} {da : DA} (hc : X.calm = true) (hm : X.mg "any" = none) (ha : PDA X W w [a] da) (hv : bootBuiltins "any" = some (.builtin "any") := by decide +kernel) (hg : Gl X "any" := by rfl) (h3 : starEach [a] X.env = (false, eval a X.env) :: starEach [] X.env := by rfl) (h4 : (backTo pos (starEach [] X.env)).any (·.1) = false := by rfl) :
    PD X W w (.Call (.Name "any" p) [a] [] pos) (dCB (bQuant fun bs => bs.any id) da) := pd_callB (cr_any hc) l2_any hm hv ha hg (by decide) (by decide) h3 h4
theorem pd_all {p : Pos} {a : Expr} {da : DA} (hc : X.calm = true) (hm : X.mg "all" = none) (ha : PDA X W w [a] da) (hv : bootBuiltins "all" = some (.builtin "all") := by decide +kernel) (hg : Gl X "all" := by rfl) (h3 : starEach [a] X.env = (false, eval a X.env) :: starEach [] X.env := by rfl) (h4 : (backTo pos (starEach [] X.env)).any (·.1) = false := by rfl) :
    PD X W w (.Call (.Name "all" p) [a] [] pos) (dCB (bQuant fun bs => bs.all id) da) := pd_callB (cr_all hc) l2_all hm hv ha hg (by decide) (by decide) h3 h4
/-- sorted of (int, x), the ints distinct -/
def hdD (p : Int × Dt) : Dt := .tup [.int p.1, p.2]
def bSortH : DB
  | [.lst ds], M, Q => ∃ ps : List (Int × Dt), ds = ps.map hdD ∧ (ps.map (·.1)).Nodup ∧ ∀ qs : List (Int × Dt), qs.Perm ps → qs.Pairwise (fun x y => x.1 < y.1) → Q (.lst (qs.map hdD)) M
  | _, _, _ => False
theorem perm_rel {α β : Type} {R : α → β → Prop} {xs' xs : List α} (p : xs'.Perm xs) : ∀ {ys : List β}, Paired R xs ys → ∃ ys', ys'.Perm ys ∧ Paired R xs' ys' := by
  induction p with
  | nil => intro ys h; exact ⟨ys, List.Perm.refl _, h⟩
  | cons x _ ih =>
    intro ys h
    cases h with
    | cons r t =>
      obtain ⟨ys', p, q⟩ := ih t
      exact ⟨_, p.cons _, .cons r q⟩
  | swap x y l =>
    intro ys h
    cases h with
    | cons r t =>
      cases t with
      | cons r2 t2 => exact ⟨_, List.Perm.swap _ _ _, .cons r2 (.cons r t2)⟩
  | trans _ _ ih1 ih2 =>
    intro ys h
    obtain ⟨y1, p1, q1⟩ := ih2 h
    obtain ⟨y2, p2, q2⟩ := ih1 q1
    exact ⟨y2, p2.trans p1, q2⟩
theorem paired_hd {K : PySem.W.Frag} {I H : Hp} {M : DM} (ok : Ok K I H M) : ∀ {ps : List (Int × Dt)} {vs : List V}, Rls K I vs (ps.map hdD) → Paired (fun x k => HdV K H x k) vs (ps.map (·.1)) ∧ Paired (fun (x : V × Int) (p : Int × Dt) => Rl K I x.1 (hdD p) ∧ x.2 = p.1) (vs.zip (ps.map (·.1))) ps
  | [], _, h => by cases h; exact ⟨.nil, .nil⟩
  | p :: ps, _, h => by
    rw [List.map_cons] at h
    cases h with
    | cons r t =>
      obtain ⟨z1, z2⟩ := paired_hd ok t
      have r' := r
      cases r with
      | tup h1 r1 =>
        cases r1 with
        | cons q1 q2 =>
          cases q1
          cases q2 with
          | cons q3 q4 =>
            cases q4
            exact ⟨.cons ⟨_, _, rfl, ok.tupAt h1⟩ z1, .cons ⟨r', rfl⟩ z2⟩
theorem rls_of_zs {K : PySem.W.Frag} {I : Hp} : ∀ {zs : List (V × Int)} {qs : List (Int × Dt)}, Paired (fun (x : V × Int) (p : Int × Dt) => Rl K I x.1 (hdD p) ∧ x.2 = p.1) zs qs → Rls K I (zs.map (·.1)) (qs.map hdD) ∧ zs.map (·.2) = qs.map (·.1)
  | _, _, .nil => ⟨.nil, rfl⟩
  | _, _, .cons h t => by
    obtain ⟨a, b⟩ := rls_of_zs t
    refine ⟨.cons h.1 a, ?_⟩
    rw [List.map_cons, List.map_cons, b, h.2]
theorem l2_sortH {K : PySem.W.Frag} : L2b K (rSortedH K) bSortH := fun I H M vs ds Q R ok r h k => by
  match ds, r, h with
  | [.lst ds], .cons r1 .nil, h =>
    obtain ⟨ps, e, n, q⟩ := h
    subst e
    cases r1 with
    | lst h1 r =>
      obtain ⟨z1, z2⟩ := paired_hd ok r
      refine ⟨_, _, ps.map (·.1), rfl, ok.lstAt h1, z1, n, fun zs p hp hs hn => ?_⟩
      obtain ⟨qs, p1, p2⟩ := perm_rel hp z2
      obtain ⟨c1, c2⟩ := rls_of_zs p2
      refine k.new ok (q qs p1 ?_) (rl_lst c1) p hn
      have hs' : (zs.map (·.2)).Pairwise (· < ·) := List.pairwise_map.mpr hs
      rw [c2] at hs'
      exact List.pairwise_map.mp hs'
  | [], _, h => exact h.elim
theorem pd_sortH {p : Pos} {a : Expr} {da : DA} (hm : X.mg "sorted" = none) (ha : PDA X W w [a] da) (hv : bootBuiltins "sorted" = some (.builtin "sorted") := by decide +kernel) (hg : Gl X "sorted" := by rfl) (h3 : starEach [a] X.env = (false, eval a X.env) :: starEach [] X.env := by rfl) (h4 : (backTo pos (starEach [] X.env)).any (·.1) = false := by rfl) :
    PD X W w (.Call (.Name "sorted" p) [a] [] pos) (dCB bSortH da) := pd_callB cr_sortedH l2_sortH hm hv ha hg (by decide) (by decide) h3 h4
/-- list(x), tuple(x), int(x) -/
@[simp ↓] def listM (Q : DK) (M : DM) : Option MO → Prop
  | some (.lst ds) => Q (.lst ds) M
  | _ => False
@[simp ↓] def bList : DB
  | [.lst ds], M, Q => Q (.lst ds) M
  | [.tup ds], M, Q => Q (.lst ds) M
  | [.src ns], M, Q => Q (.lst (ns.map Dt.int)) M
  | [.ref p], M, Q => listM Q M (M p)
  | _, _, _ => False
theorem cr_list : ∃ r, CallR X (.type "list") r ∧ L2b X.K r bList := by
  refine ⟨_, call_list_of, fun I H M vs ds Q R ok r h k => ?_⟩
  match ds, r, h with
  | [], _, h => exact h.elim
  | d :: _ :: _, _, h => cases d <;> exact h.elim
  | [d], .cons (v := v) r1 .nil, h =>
    cases d <;> try exact h.elim
    · rename_i p
      cases r1
      have h : listM Q M (M p) := h
      cases e : M p with
      | none => rw [e] at h; exact h.elim
      | some o =>
        rw [e] at h
        cases o <;> try exact h.elim
        obtain ⟨vs, h2, r⟩ := ok.lists e
        exact ⟨_, _, rfl, .inl (SqL.of h2), k.new ok h (rl_lst r)⟩
    · cases r1 with
      | lst h1 r => exact ⟨_, _, rfl, .inl (ok.lstAt h1), k.new ok h (rl_lst r)⟩
    · cases r1 with
      | tup h1 r => exact ⟨_, _, rfl, .inr (ok.tupAt h1), k.new ok h (rl_lst r)⟩
    · cases r1 with
      | src h1 => exact ⟨_, _, rfl, .inl (ok.sub.seq h1), k.new ok h (rl_lst (Rls.of_ints _))⟩
theorem pd_list {p : Pos} {e : Expr} {da : DA} (hm : X.mg "list" = none) (ha : PDA X W w [e] da) (hv : bootBuiltins "list" = some (.type "list") := by decide +kernel) (hg : Gl X "list" := by rfl) (h3 : starEach [e] X.env = (false, eval e X.env) :: starEach [] X.env := by rfl) (h4 : (backTo pos (starEach [] X.env)).any (·.1) = false := by rfl) :
    PD X W w (.Call (.Name "list" p) [e] [] pos) (dCB bList da) := by
  obtain ⟨r, h1, h2⟩ := cr_list (X := X)
  exact pd_callTy h1 h2 hm hv ha hg (by decide) (by decide) h3 h4
@[simp ↓] def bTuple : DB
  | [.lst ds], M, Q => Q (.tup ds) M
  | [.tup ds], M, Q => Q (.tup ds) M
  | _, _, _ => False
theorem cr_tuple : ∃ r, CallR X (.type "tuple") r ∧ L2b X.K r bTuple := by
  refine ⟨_, call_tuple_of, fun I H M vs ds Q R ok r h k => ?_⟩
  match ds, r, h with
  | [], _, h => exact h.elim
  | d :: _ :: _, _, h => cases d <;> exact h.elim
  | [d], .cons (v := v) r1 .nil, h =>
    cases d <;> try exact h.elim
    · cases r1 with
      | lst h1 r => exact ⟨_, _, rfl, .inl ⟨ok.lstAt h1, k.new ok h (rl_tup r)⟩⟩
    · cases r1 with
      | tup h1 r => exact ⟨_, _, rfl, .inr ⟨ok.tupAt h1, k.now ok (.tup h1 r) h⟩⟩
theorem pd_tuple {p : Pos} {e : Expr} {da : DA} (hm : X.mg "tuple" = none) (ha : PDA X W w [e] da) (hv : bootBuiltins "tuple" = some (.type "tuple") := by decide +kernel) (hg : Gl X "tuple" := by rfl) (h3 : starEach [e] X.env = (false, eval e X.env) :: starEach [] X.env := by rfl) (h4 : (backTo pos (starEach [] X.env)).any (·.1) = false := by rfl) :
    PD X W w (.Call (.Name "tuple" p) [e] [] pos) (dCB bTuple da) := by
  obtain ⟨r, h1, h2⟩ := cr_tuple (X := X)
  exact pd_callTy h1 h2 hm hv ha hg (by decide) (by decide) h3 h4
@[simp ↓] def bInt : DB
  | [.int i], M, Q => Q (.int i) M
  | [.bl b], M, Q => Q (.int (if b = true then 1 else 0)) M
  | _, _, _ => False
theorem cr_int : ∃ r, CallR X (.type "int") r ∧ L2b X.K r bInt := by
  refine ⟨_, call_int1, fun I H M vs ds Q R ok r h k => ?_⟩
  match ds, r, h with
  | [], _, h => exact h.elim
  | d :: _ :: _, _, h => cases d <;> exact h.elim
  | [d], .cons (v := v) r1 .nil, h =>
    cases d <;> try exact h.elim
    · cases r1; exact .inr ⟨_, rfl, k.now ok (.int _) h⟩
    · cases r1; exact .inl ⟨_, rfl, k.now ok (.int _) h⟩
theorem pd_intc {p : Pos} {e : Expr} {da : DA} (hm : X.mg "int" = none) (ha : PDA X W w [e] da) (hv : bootBuiltins "int" = some (.type "int") := by decide +kernel) (hg : Gl X "int" := by rfl) (h3 : starEach [e] X.env = (false, eval e X.env) :: starEach [] X.env := by rfl) (h4 : (backTo pos (starEach [] X.env)).any (·.1) = false := by rfl) :
    PD X W w (.Call (.Name "int" p) [e] [] pos) (dCB bInt da) := by
  obtain ⟨r, h1, h2⟩ := cr_int (X := X)
  exact pd_callTy h1 h2 hm hv ha hg (by decide) (by decide) h3 h4
end
end DL

namespace DL
open PySem L2
section
variable {X : Cx} {W : WX} {w : WD} {pos : Pos}
/-! ### isinstance -/
@[simp] def tyM : Option MO → Option String
  | some (.lst _) => some "list"
  | some (.dK _) => some "dict"
  | _ => none
@[simp] def tyN (M : DM) : Dt → Option String
  | .non => some "NoneType"
  | .bl _ => some "bool"
  | .int _ => some "int"
  | .str _ => some "str"
  | .lst _ => some "list"
  | .tup _ => some "tuple"
  | .src _ => some "list"
  | .ref p => tyM (M p)
  | .ty _ => none
theorem tyx_of {K : PySem.W.Frag} {I H : Hp} {M : DM} (ok : Ok K I H M) {d : Dt} {v : V} {t : String} (r : Rl K I v d) (e : tyN M d = some t) : TyX K H v (.type t) := by
  cases r with
  | non => cases e; exact .base .non
  | bl b => cases e; exact .base (.bl b)
  | int b => cases e; exact .base (.int b)
  | str b => cases e; exact .base (.str b)
  | ty n => cases e
  | ref a =>
    have e : tyM (M a) = some t := e
    cases h : M a with
    | none => rw [h] at e; cases e
    | some o =>
      rw [h] at e
      obtain ⟨_, ho, h2, h3⟩ := ok.cel a _ h
      cases h3 with
      | lst r => cases e; exact .base (.lst h2)
      | dK r => cases e; exact .base (.dK h2)
      | ins => cases e
  | lst h1 r => cases e; exact .base (.lst (ok.sub _ _ h1))
  | tup h1 r =>
    cases e
    rcases ok.tupAt h1 with (h | ⟨o, h⟩) | ⟨o, its, n, h, hc, _⟩
    · exact .base (.tup h)
    · exact .fTuple h
    · exact .kTuple h hc
  | src h1 =>
    cases e
    rcases (ok.sub.seq h1 : SqL K H _ _) with (h | ⟨o, h⟩) | ⟨o, its, n, h, hc, _⟩
    · exact .base (.lst h)
    · exact .base (.frz h)
    · exact .kList h hc
@[simp ↓] def isiO (Q : DK) (M : DM) : Option Bool → Prop
  | some b => Q (.bl b) M
  | none => False
@[simp ↓] def isiT (n : String) : Option String → Option Bool
  | some t => kitB t n
  | none => none
@[simp ↓] def bIsi : DB
  | [x, .ty n], M, Q => isiO Q M (isiT n (tyN M x))
  | _, _, _ => False
theorem l2_isi {K : PySem.W.Frag} : L2b K (rIsi K) bIsi := fun I H M vs ds Q R ok r h k => by
  match ds, r, h with
  | [x, .ty n], .cons r1 (.cons r2 .nil), h =>
    cases r2
    have h : isiO Q M (isiT n (tyN M x)) := h
    cases e : tyN M x with
    | none => rw [e] at h; exact h.elim
    | some t =>
      rw [e] at h
      have h : isiO Q M (kitB t n) := h
      cases e2 : kitB t n with
      | none => rw [e2] at h; exact h.elim
      | some b =>
        rw [e2] at h
        exact ⟨_, _, _, _, b, rfl, .ty n, tyx_of ok r1 e, kit_ty e2, k.now ok (.bl _) h⟩
  | [], _, h => exact h.elim
theorem pd_isi {p : Pos} {a b : Expr} {da : DA} (hm : X.mg "isinstance" = none) (ha : PDA X W w [a, b] da) (hv : bootBuiltins "isinstance" = some (.builtin "isinstance") := by decide +kernel) (hg : Gl X "isinstance" := by rfl) (h3 : starEach [a, b] X.env = (false, eval a X.env) :: starEach [b] X.env := by rfl) (h4 : (backTo pos (starEach [b] X.env)).any (·.1) = false := by rfl) :
    PD X W w (.Call (.Name "isinstance" p) [a, b] [] pos) (dCB bIsi da) := pd_callB call_isi l2_isi hm hv ha hg (by decide) (by decide) h3 h4
/-! ### targets -/
theorem Sl.setV {K : PySem.W.Frag} {I : Hp} {v : V} {d : Dt} (r : Rl K I v d) (i : Nat) {σ : L2.St} {δ : DS} (h : Sl K I σ δ) : Sl K I (σ.set i (some v)) (δ.set i (some d)) := Sl.set (v := some v) (d := some d) r i h
abbrev DG := Dt → DS → DM → (DS → DM → Prop) → Prop
abbrev DGs := List Dt → DS → DM → (DS → DM → Prop) → Prop
/-- what comes behind a target: the slots sl alone may have changed -/
def PostG (K : PySem.W.Frag) (I : Hp) (σ0 : L2.St) (sl : List Nat) (Q : DS → DM → Prop) (R : L2.St → Hp → Prop) : Prop := ∀ (δ : DS) (M : DM) (σ : L2.St) (I' H : Hp), Same I I' → Sl K I' σ δ → Ok K I' H M → (∀ vs : List Nat, (∀ i ∈ sl, i ∈ vs) → wipe σ vs = wipe σ0 vs) → Q δ M → R σ H
structure PDG (X : Cx) (W : WX) (w : WD) (tg : Expr) (dg : DG) (sl : List Nat) : Prop where
  ex : ∃ g, PG X tg g ∧ ∀ (σ : L2.St) (δ : DS) (I H : Hp) (M : DM) (v : V) (d : Dt) (Q : DS → DM → Prop) (R : L2.St → Hp → Prop), Cn X.K W w I σ δ → Ok X.K I H M → Rl X.K I v d → dg d δ M Q → PostG X.K I σ sl Q R → g v σ H R
structure PDGs (X : Cx) (W : WX) (w : WD) (tg : List Expr) (dg : DGs) (sl : List Nat) : Prop where
  ex : ∃ g, PGs X tg g ∧ ∀ (σ : L2.St) (δ : DS) (I H : Hp) (M : DM) (v : List V) (d : List Dt) (Q : DS → DM → Prop) (R : L2.St → Hp → Prop), Cn X.K W w I σ δ → Ok X.K I H M → Rls X.K I v d → dg d δ M Q → PostG X.K I σ sl Q R → g v σ H R
@[simp ↓] def dgName (i : Nat) : DG := fun d δ M Q => Q (δ.set i (some d)) M
theorem wipe_len (σ : L2.St) : ∀ vs : List Nat, (wipe σ vs).length = σ.length
  | [] => rfl
  | v :: vs => by
    show ((wipe σ vs).set v none).length = _
    rw [List.length_set, wipe_len σ vs]
theorem wipe_get (σ : L2.St) (j : Nat) : ∀ vs : List Nat, (wipe σ vs)[j]? = if j ∈ vs then (if j < σ.length then some none else none) else σ[j]?
  | [] => by simp [wipe]
  | v :: vs => by
    show ((wipe σ vs).set v none)[j]? = _
    rw [List.getElem?_set, wipe_len, wipe_get σ j vs]
    by_cases h : v = j
    · subst h
      simp
    · by_cases h2 : j ∈ vs
      · simp [h, h2]
      · have h3 : ¬ j = v := fun z => h z.symm
        simp [h, h2, h3]
theorem wipe_set {σ : L2.St} {i : Nat} {x : Option V} {vs : List Nat} (h : i ∈ vs) : wipe (σ.set i x) vs = wipe σ vs := by
  apply List.ext_getElem?
  intro j
  rw [wipe_get, wipe_get, List.length_set]
  by_cases hj : j ∈ vs
  · simp [hj]
  · have : i ≠ j := fun z => hj (z ▸ h)
    simp [hj, List.getElem?_set, this]
theorem pdg_name {i : Nat} {x : Str} (hN : X.N.Nodup) (hi : X.N[i]? = some x := by rfl) (hx : L2.Loc X.env.scope x := by first | exact Or.inl rfl | exact Or.inr rfl) (hf : X.fn x = true ∨ X.env.scope.names.lookup x = some .local := by first | exact Or.inl rfl | exact Or.inr rfl) : PDG X W w (.Name x pos) (dgName i) [i] :=
  ⟨⟨_, pg_name hN hi hx hf, fun σ δ I H M v d Q R hs ok r q k => k _ M _ I H (Same.refl _) (Sl.setV r i hs.sl) ok (fun vs h => wipe_set (h i (by simp))) q⟩⟩
@[simp ↓] def kTupG (n : Nat) (ts : DGs) : DG := fun d δ M Q => match d with
  | .tup ds => ds.length = n ∧ ts ds δ M Q
  | _ => False
@[simp ↓] def dgNil : DGs := fun ds δ M Q => match ds with
  | [] => Q δ M
  | _ => False
@[simp ↓] def kgCons (r : DGs) (ds : List Dt) (Q : DS → DM → Prop) : DS → DM → Prop := fun δ' M' => r ds δ' M' Q
@[simp ↓] def dgCons (g : DG) (r : DGs) : DGs := fun ds δ M Q => match ds with
  | d :: ds => g d δ M (kgCons r ds Q)
  | [] => False
theorem pdgs_nil : PDGs X W w [] dgNil [] := ⟨⟨_, pgs_nil, fun σ δ I H M v d Q R hs ok r q k => by
  cases r with
  | nil => exact ⟨rfl, k δ M σ I H (Same.refl _) hs.sl ok (fun _ _ => rfl) q⟩
  | cons _ _ => exact q.elim⟩⟩
theorem pdgs_cons {e : Expr} {es : List Expr} {g : DG} {r : DGs} {s1 s2 : List Nat} (h : PDG X W w e g s1) (h' : PDGs X W w es r s2) (hm : (assignEach (e :: es) X.env).map (fun x => x.2) = assign e X.env :: (assignEach es X.env).map (fun x => x.2) := by rfl) : PDGs X W w (e :: es) (dgCons g r) (s1 ++ s2) := by
  obtain ⟨t, p1, l1⟩ := h.ex
  obtain ⟨u, p2, l2⟩ := h'.ex
  refine ⟨⟨_, pgs_cons p1 p2 hm, fun σ δ I H M v d Q R hs ok rr q k => ?_⟩⟩
  cases rr with
  | nil => exact q.elim
  | cons r1 r2 =>
    refine ⟨_, _, rfl, l1 σ δ I H M _ _ _ _ hs ok r1 q fun δ1 M1 σ1 I1 H1 e1 sl1 ok1 f1 q1 => ?_⟩
    refine l2 σ1 δ1 I1 H1 M1 _ _ _ _ ⟨sl1, hs.lw.mono e1⟩ ok1 (r2.mono e1) q1 fun δ2 M2 σ2 I2 H2 e2 sl2 ok2 f2 q2 => ?_
    exact k δ2 M2 σ2 I2 H2 (e1.trans e2) sl2 ok2 (fun vs hv => (f2 vs fun i hi => hv i (List.mem_append_right _ hi)).trans (f1 vs fun i hi => hv i (List.mem_append_left _ hi))) q2
theorem pdg_tup {es : List Expr} {k : Nat} {r : DGs} {n : Nat} {sl : List Nat} (hc : X.calm = true) (h : PDGs X W w es r sl) (h1 : (assignEach es X.env).length = n := by rfl) (h2 : (assignEach es X.env).findIdx? (fun x => x.1) = none := by rfl) : PDG X W w (.Tuple es k pos) (kTupG n r) sl := by
  obtain ⟨t, p1, l1⟩ := h.ex
  refine ⟨⟨_, pg_tup hc p1 h1 h2, fun σ δ I H M v d Q R hs ok rr q k => ?_⟩⟩
  cases d <;> try exact q.elim
  cases rr with
  | tup z1 z2 => exact ⟨_, _, rfl, ok.tupAt z1, by rw [z2.len]; exact q.1, l1 σ δ I H M _ _ _ _ hs ok z2 q.2 k⟩
/-- o[i] = v, a list that changes -/
@[simp ↓] def setO (i : Int) (d : Dt) (p : Addr) (Q : DM → Prop) (M : DM) : Option MO → Prop
  | some (.lst ds) => match ixN ds.length i with
    | some j => Q (updM M p (.lst (ds.set j d)))
    | none => False
  | _ => False
@[simp ↓] def kSub (d : Dt) (Q : DM → Prop) : Dt → Dt → DM → Prop
  | .ref p, .int i, M => setO i d p Q M (M p)
  | _, _, _ => False
@[simp ↓] def kgSub2 (d : Dt) (o : Dt) (Q : DM → Prop) : DK := fun i M2 => kSub d Q o i M2
@[simp ↓] def kgSub1 (d : Dt) (di : DE) (δ : DS) (Q : DM → Prop) : DK := fun o M1 => di δ M1 (kgSub2 d o Q)
@[simp ↓] def dgSub (da di : DE) : DG := fun d δ M Q => da δ M (kgSub1 d di δ (Q δ))
theorem pdg_sub {o i : Expr} {da di : DE} (ho : PD X W w o da) (hi : PD X W w i di) (ht : ∀ (v : Value), assign (.Subscript o i pos) X.env v = (do
      let ov ← holding [v] (eval o X.env)
      let iv ← holding [v, ov] (eval i X.env)
      standAt pos
      holding [v, ov, iv] (setItem ov iv v)
      release [v, ov, iv] []) := by intro _; rfl) : PDG X W w (.Subscript o i pos) (dgSub da di) [] := by
  obtain ⟨to, p1, l1⟩ := ho.ex
  obtain ⟨ti, p2, l2⟩ := hi.ex
  refine ⟨⟨_, pg_sub p1 p2 set_list ht, fun σ δ I H M v d Q R hs ok rr q k => ?_⟩⟩
  refine l1 σ δ I H M _ _ hs ok q fun od M1 ov I1 H1 s1 ok1 r1 q1 => l2 σ δ I1 H1 M1 _ _ (hs.mono s1) ok1 q1 fun id M2 iv I2 H2 s2 ok2 r2 q2 => ?_
  cases od <;> cases id <;> try exact q2.elim
  rename_i p j
  cases r1; cases r2
  have q2 : setO j d p (Q δ) M2 (M2 p) := q2
  cases e : M2 p with
  | none => rw [e] at q2; exact q2.elim
  | some o =>
    rw [e] at q2
    cases o <;> try exact q2.elim
    rename_i ds
    obtain ⟨vs, h2, r⟩ := ok2.lists e
    have q2 : (match ixN ds.length j with | some j => Q δ (updM M2 p (.lst (ds.set j d))) | none => False) := q2
    cases e2 : ixN ds.length j with
    | none => rw [e2] at q2; exact q2.elim
    | some n =>
      rw [e2] at q2
      exact ⟨p, vs, j, n, rfl, rfl, h2, by rw [r.len]; exact e2, k δ _ σ I2 _ (s1.trans s2) (hs.sl.mono (s1.trans s2)) (ok2.put (ok2.cel _ _ e).1 (.lst (r.set (rr.mono (s1.trans s2)) n))) (fun _ _ => rfl) q2⟩
/-! ### statements -/
abbrev DSt := DStm
@[simp ↓] def kAsg (g : DG) (δ : DS) (N : DS → DM → Prop) : DK := fun d M1 => g d δ M1 N
@[simp ↓] def dAsg (de : DE) (g : DG) : DStm := fun D δ M => de δ M (kAsg g δ D.nx)
theorem pds_asg {tg e : Expr} {de : DE} {dg : DG} {sl : List Nat} (he : PD X W w e de) (hg : PDG X W w tg dg sl) (h1 : swapsWithSole [tg] e pos.line X.env = pure false := by rfl) (h2 : swappedStores [tg] e X.env = pure none := by rfl) (h3 : (assignEach [tg] X.env).map (fun x => x.2) = [assign tg X.env] := by rfl) :
    PDS X W w (.Assign [tg] e pos) (dAsg de dg) := by
  obtain ⟨te, p1, l1⟩ := he.ex
  obtain ⟨t, p2, l2⟩ := hg.ex
  refine ⟨⟨_, ps_asg p1 p2 h1 h2 h3, fun D E σ δ I H M re hs ok q => ?_⟩⟩
  refine l1 σ δ I H M _ _ hs ok q fun d M1 v I1 H1 s1 ok1 r1 q1 => l2 σ δ I1 H1 M1 v d _ _ (hs.mono s1) ok1 r1 q1 fun δ2 M2 σ2 I2 H2 s2 sl2 ok2 _ q2 => ?_
  exact re.nx δ2 M2 σ2 I2 H2 (s1.trans s2) sl2 ok2 q2
theorem pds_set {i : Nat} {x : Str} {e : Expr} {de : DE} {pos' : Pos} (hN : X.N.Nodup) (he : PD X W w e de) (hi : X.N[i]? = some x := by rfl) (hx : L2.Loc X.env.scope x := by first | exact Or.inl rfl | exact Or.inr rfl) (h1 : swapsWith e (some (.Name x pos')) pos.line X.env = pure false := by rfl) (hf : X.fn x = true ∨ X.env.scope.names.lookup x = some .local := by first | exact Or.inl rfl | exact Or.inr rfl) :
    PDS X W w (.Assign [.Name x pos'] e pos) (dAsg de (dgName i)) := by
  obtain ⟨te, p1, l1⟩ := he.ex
  refine ⟨⟨_, ps_set hN hi hx p1 h1 hf, fun D E σ δ I H M re hs ok q => ?_⟩⟩
  refine l1 σ δ I H M _ _ hs ok q fun d M1 v I1 H1 s1 ok1 r1 q1 => ?_
  exact re.nx _ M1 _ I1 H1 s1 (Sl.setV r1 i (hs.sl.mono s1)) ok1 q1
@[simp ↓] def kPar2 (i j : Nat) (D : DEnds) (δ : DS) : List Dt → DM → Prop
  | [a, b], M => D.nx ((δ.set i (some a)).set j (some b)) M
  | _, _ => False
@[simp ↓] def dPar (i j : Nat) (da : DA) : DStm := fun D δ M => da δ M (kPar2 i j D δ)
theorem pds_par {i j : Nat} {x y : Str} {a b : Expr} {da : DA} {px py pt : Pos} {kt k2 : Nat} {pt2 : Pos} (hc : X.calm = true) (hN : X.N.Nodup) (ha : PDA X W w [a, b] da) (hi : X.N[i]? = some x := by rfl) (hj : X.N[j]? = some y := by rfl) (hij : i ≠ j := by decide)
    (hx : X.env.scope.names.lookup x = some .local := by rfl) (hy : X.env.scope.names.lookup y = some .local := by rfl) (h1 : swappedStores [.Tuple [.Name x px, .Name y py] kt pt] (.Tuple [a, b] k2 pt2) X.env = pure (some [x, y]) := by rfl)
    (h2 : swapsWithSole [.Tuple [.Name x px, .Name y py] kt pt] (.Tuple [a, b] k2 pt2) pos.line X.env = pure false := by rfl) : PDS X W w (.Assign [.Tuple [.Name x px, .Name y py] kt pt] (.Tuple [a, b] k2 pt2) pos) (dPar i j da) := by
  obtain ⟨ta, p1, l1⟩ := ha.ex
  refine ⟨⟨_, ps_par hc hN hi hj hij hx hy p1 h1 h2, fun D E σ δ I H M re hs ok q => l1 σ δ I H M _ _ hs ok q fun ds M1 vs I1 H1 s1 ok1 r1 q1 => ?_⟩⟩
  match ds, r1, q1 with
  | [d, e], .cons r1 (.cons r2 .nil), q1 => exact ⟨_, _, rfl, re.nx _ M1 _ I1 H1 s1 (Sl.setV r2 j (Sl.setV r1 i (hs.sl.mono s1))) ok1 q1⟩
  | [], _, q1 => exact q1.elim
@[simp ↓] def kPar3 (i j l : Nat) (D : DEnds) (δ : DS) : List Dt → DM → Prop
  | [a, b, c], M => D.nx (((δ.set i (some a)).set j (some b)).set l (some c)) M
  | _, _ => False
@[simp ↓] def dPar3 (i j l : Nat) (da : DA) : DStm := fun D δ M => da δ M (kPar3 i j l D δ)
theorem pds_par3 {i j l : Nat} {x y z : Str} {a b c : Expr} {da : DA} {px py pz pt : Pos} {kt k2 : Nat} {pt2 : Pos} (hc : X.calm = true) (hN : X.N.Nodup) (ha : PDA X W w [a, b, c] da) (hi : X.N[i]? = some x := by rfl) (hj : X.N[j]? = some y := by rfl) (hl : X.N[l]? = some z := by rfl) (hij : i ≠ j := by decide) (hil : i ≠ l := by decide) (hjl : j ≠ l := by decide)
    (hx : X.env.scope.names.lookup x = some .local := by rfl) (hy : X.env.scope.names.lookup y = some .local := by rfl) (hz : X.env.scope.names.lookup z = some .local := by rfl) (h1 : swappedStores [.Tuple [.Name x px, .Name y py, .Name z pz] kt pt] (.Tuple [a, b, c] k2 pt2) X.env = pure (some [x, y, z]) := by rfl)
    (h2 : swapsWithSole [.Tuple [.Name x px, .Name y py, .Name z pz] kt pt] (.Tuple [a, b, c] k2 pt2) pos.line X.env = pure false := by rfl) : PDS X W w (.Assign [.Tuple [.Name x px, .Name y py, .Name z pz] kt pt] (.Tuple [a, b, c] k2 pt2) pos) (dPar3 i j l da) := by
  obtain ⟨ta, p1, l1⟩ := ha.ex
  refine ⟨⟨_, ps_par3 hc hN hi hj hl hij hil hjl hx hy hz p1 h1 h2, fun D E σ δ I H M re hs ok q => l1 σ δ I H M _ _ hs ok q fun ds M1 vs I1 H1 s1 ok1 r1 q1 => ?_⟩⟩
  match ds, r1, q1 with
  | [d, e, f], .cons r1 (.cons r2 (.cons r3 .nil)), q1 => exact ⟨_, _, _, rfl, re.nx _ M1 _ I1 H1 s1 (Sl.setV r3 l (Sl.setV r2 j (Sl.setV r1 i (hs.sl.mono s1)))) ok1 q1⟩
  | [], _, q1 => exact q1.elim
/-- o.f = e -/
def putO (f : Str) (d : Dt) (a : Addr) (Q : DM → Prop) (M : DM) : Option MO → Prop
  | some (.ins C dx fs) => match fs.lookup f with
    | some _ => Q (updM M a (.ins C dx (putA f d fs)))
    | none => False
  | _ => False
def kPut (f : Str) (d : Dt) (Q : DM → Prop) : DK
  | .ref a, M => putO f d a Q M (M a)
  | _, _ => False
theorem putA_len' {f : Str} {d : Dt} : ∀ {gs : List (Str × Dt)} {x : Dt}, gs.lookup f = some x → (putA f d gs).length = gs.length
  | [], _, e => by simp at e
  | (k, y) :: r, x, e => by
    rw [show putA f d ((k, y) :: r) = (if k = f then (k, d) :: r else (k, y) :: putA f d r) from rfl]
    by_cases hk : k = f
    · rw [if_pos hk]; rfl
    · rw [if_neg hk]
      rw [List.lookup_cons] at e
      have h' : (f == k) = false := by simpa using fun z => hk z.symm
      rw [h'] at e
      rw [List.length_cons, List.length_cons, putA_len' e]
theorem Ok.putFld {K : PySem.W.Frag} {I H : Hp} {M : DM} (ok : Ok K I H M) {a C dx : Addr} {gs : List (Str × Dt)} {fs : List (Str × V)} {f : Str} {v : V} {d : Dt} (hi : I a = none) (r : Rfs K I fs gs) (c : Cls K C) (n : ∀ f d, (f, d) ∈ gs → NoAttr K C f) (l : gs.length ≤ 900) (rv : Rl K I v d) (nf : NoAttr K C f) (hl : (putA f d gs).length ≤ 900) : Ok K I (upd H a (.ins C dx (putF f v fs))) (updM M a (.ins C dx (putA f d gs))) :=
  ok.put hi (.ins (r.put rv) c (fun g x h => by
    rcases putA_mem h with e | e
    · rw [e]; exact nf
    · exact n g x e) hl)
@[simp ↓] def kPutF (de : DE) (f : Str) (δ : DS) (N : DM → Prop) : DK := fun d M1 => de δ M1 (kPut f d N)
@[simp ↓] def dPutF (dv de : DE) (f : Str) : DStm := fun D δ M => dv δ M (kPutF de f δ (D.nx δ))
theorem pds_fld {o v : Expr} {f : Str} {pos' : Pos} {da dv : DE} (ho : PD X W w o da) (hv : PD X W w v dv) (h1 : swapsWith v (some (.Attribute o f pos')) pos.line X.env = pure false := by rfl) : PDS X W w (.Assign [.Attribute o f pos'] v pos) (dPutF dv da f) := by
  obtain ⟨to, p1, l1⟩ := ho.ex
  obtain ⟨tv, p2, l2⟩ := hv.ex
  refine ⟨⟨_, ps_fld p1 p2 h1, fun D E σ δ I H M re hs ok q => ?_⟩⟩
  refine l2 σ δ I H M _ _ hs ok q fun d M1 y I1 H1 s1 ok1 r1 q1 => l1 σ δ I1 H1 M1 _ _ (hs.mono s1) ok1 q1 fun od M2 ov I2 H2 s2 ok2 r2 q2 => ?_
  cases od <;> try exact q2.elim
  rename_i a
  cases r2
  have q2 : putO f d a (D.nx δ) M2 (M2 a) := q2
  cases e : M2 a with
  | none => rw [e] at q2; exact q2.elim
  | some o =>
    rw [e] at q2
    cases o <;> try exact q2.elim
    rename_i C dx gs
    obtain ⟨hi, fs, h2, r, c, n, l⟩ := ok2.ins e
    cases e2 : gs.lookup f with
    | none => simp only [putO, e2] at q2
    | some x =>
      simp only [putO, e2] at q2
      have nf := n _ _ (mem_look e2)
      refine ⟨a, C, dx, fs, rfl, h2, c, nf, ?_, re.nx δ _ σ I2 _ (s1.trans s2) (hs.sl.mono (s1.trans s2)) (ok2.putFld hi r c n l (r1.mono s2) nf (by rw [putA_len' e2]; exact l)) q2⟩
      have := paired_len r
      omega
/-- o.f = e, a new field (in __init__) -/
@[simp ↓] def putNO (C : Addr) (f : Str) (d : Dt) (a : Addr) (Q : DM → Prop) (M : DM) : Option MO → Prop
  | some (.ins C' dx fs) => C' = C ∧ fs.length < 900 ∧ Q (updM M a (.ins C dx (putA f d fs)))
  | _ => False
@[simp ↓] def kPutN (C : Addr) (f : Str) (d : Dt) (Q : DM → Prop) : DK
  | .ref a, M => putNO C f d a Q M (M a)
  | _, _ => False
@[simp ↓] def kPutNF (C : Addr) (de : DE) (f : Str) (δ : DS) (N : DM → Prop) : DK := fun d M1 => de δ M1 (kPutN C f d N)
@[simp ↓] def dPutN (C : Addr) (dv de : DE) (f : Str) : DStm := fun D δ M => dv δ M (kPutNF C de f δ (D.nx δ))
theorem pds_fldN {o v : Expr} {f : Str} {pos' : Pos} {da dv : DE} {C : Addr} (nf : NoAttr X.K C f) (ho : PD X W w o da) (hv : PD X W w v dv) (h1 : swapsWith v (some (.Attribute o f pos')) pos.line X.env = pure false := by rfl) : PDS X W w (.Assign [.Attribute o f pos'] v pos) (dPutN C dv da f) := by
  obtain ⟨to, p1, l1⟩ := ho.ex
  obtain ⟨tv, p2, l2⟩ := hv.ex
  refine ⟨⟨_, ps_fld p1 p2 h1, fun D E σ δ I H M re hs ok q => ?_⟩⟩
  refine l2 σ δ I H M _ _ hs ok q fun d M1 y I1 H1 s1 ok1 r1 q1 => l1 σ δ I1 H1 M1 _ _ (hs.mono s1) ok1 q1 fun od M2 ov I2 H2 s2 ok2 r2 q2 => ?_
  cases od <;> try exact q2.elim
  rename_i a
  cases r2
  have q2 : putNO C f d a (D.nx δ) M2 (M2 a) := q2
  cases e : M2 a with
  | none => rw [e] at q2; exact q2.elim
  | some o =>
    rw [e] at q2
    cases o <;> try exact q2.elim
    rename_i C' dx gs
    obtain ⟨hi, fs, h2, r, c, n, l⟩ := ok2.ins e
    obtain ⟨rfl, hl, q2⟩ := q2
    refine ⟨a, C', dx, fs, rfl, h2, c, nf, ?_, re.nx δ _ σ I2 _ (s1.trans s2) (hs.sl.mono (s1.trans s2)) (ok2.putFld hi r c n l (r1.mono s2) nf (by have := putA_len f d gs; omega)) q2⟩
    have := paired_len r
    omega
/-- o.f += e, ints -/
@[simp ↓] def augO (f : Str) (j : Int) (C : Addr) (i : Int) (a : Addr) (Q : DM → Prop) (M : DM) : Option MO → Prop
  | some (.ins C' dx fs) => C' = C ∧ (fs.lookup f).isSome = true ∧ Q (updM M a (.ins C dx (putA f (.int (i + j)) fs)))
  | _ => False
@[simp ↓] def kAug2 (f : Str) (C : Addr) (i : Int) (a : Addr) (Q : DM → Prop) : DK
  | .int j, M => augO f j C i a Q M (M a)
  | _, _ => False
@[simp ↓] def augR (f : Str) (a : Addr) (N : Addr → Int → DM → Prop) (M : DM) : Option MO → Prop
  | some (.ins C dx fs) => match fs.lookup f with
    | some (.int i) => N C i M
    | _ => False
  | _ => False
@[simp ↓] def kAug1 (f : Str) (N : Addr → Addr → Int → DM → Prop) : DK
  | .ref a, M => augR f a (N a) M (M a)
  | _, _ => False
@[simp ↓] def kAugF (dv : DE) (f : Str) (δ : DS) (N : DM → Prop) : Addr → Addr → Int → DM → Prop := fun a C i M1 => dv δ M1 (kAug2 f C i a N)
@[simp ↓] def dAugF (de dv : DE) (f : Str) : DStm := fun D δ M => de δ M (kAug1 f (kAugF dv f δ (D.nx δ)))
theorem pds_fldaug {o v : Expr} {f : Str} {tpos : Pos} {da dv : DE} (ho : PD X W w o da) (hv : PD X W w v dv) : PDS X W w (.AugAssign (.Attribute o f tpos) .Add v pos) (dAugF da dv f) := by
  obtain ⟨to, p1, l1⟩ := ho.ex
  obtain ⟨tv, p2, l2⟩ := hv.ex
  refine ⟨⟨_, ps_fldaug p1 p2 in_add, fun D E σ δ I H M re hs ok q => l1 σ δ I H M _ _ hs ok q fun od M1 ov I1 H1 s1 ok1 r1 q1 => ?_⟩⟩
  cases od <;> try exact q1.elim
  rename_i a
  cases r1
  have q1 : augR f a (kAugF dv f δ (D.nx δ) a) M1 (M1 a) := q1
  cases e : M1 a with
  | none => rw [e] at q1; exact q1.elim
  | some o =>
    rw [e] at q1
    cases o <;> try exact q1.elim
    rename_i C dx gs
    obtain ⟨hi, fs, h2, r, c, n, l⟩ := ok1.ins e
    cases e2 : gs.lookup f with
    | none => simp only [augR, e2] at q1
    | some x =>
      cases x <;> simp only [augR, e2] at q1
      rename_i i
      obtain ⟨vv, z1, z2⟩ := r.look e2
      cases z2
      refine ⟨a, C, dx, fs, _, rfl, h2, c, n _ _ (mem_look e2), z1, ?_⟩
      refine l2 σ δ I1 H1 M1 _ _ (hs.mono s1) ok1 q1 fun d M2 y I2 H2 s2 ok2 r2 q2 => ?_
      cases d <;> try exact q2.elim
      rename_i j
      cases r2
      have q2 : augO f j C i a (D.nx δ) M2 (M2 a) := q2
      refine ⟨i, j, rfl, rfl, ?_⟩
      cases e3 : M2 a with
      | none => rw [e3] at q2; exact q2.elim
      | some o =>
        rw [e3] at q2
        cases o <;> try exact q2.elim
        rename_i C' dx' gs'
        obtain ⟨rfl, hq, q3⟩ := q2
        obtain ⟨hi', fs', h2', r', c', n', l'⟩ := ok2.ins e3
        obtain ⟨x', hx'⟩ := Option.isSome_iff_exists.mp hq
        refine ⟨dx', fs', h2', ?_, re.nx δ _ σ I2 _ (s1.trans s2) (hs.sl.mono (s1.trans s2)) (ok2.putFld hi' r' c' n' l' (.int _) (n' _ _ (mem_look hx')) (by rw [putA_len' hx']; exact l')) q3⟩
        have := paired_len r'
        omega
end
end DL

namespace DL
open PySem L2
section
variable {X : Cx} {W : WX} {w : WD} {pos : Pos}
/-! ### blocks -/
@[simp ↓] def dNext : DStm := fun D δ M => D.nx δ M
def dSeq (a b : DStm) : DStm := fun D δ M => a { nx := fun δ M => b D δ M, rt := D.rt, bk := D.bk, ct := D.ct } δ M
theorem pdss_nil : PDSs X W w [] dNext := ⟨⟨_, pss_nil, fun D E σ δ I H M re hs ok q => re.nx δ M σ I H (Same.refl _) hs.sl ok q⟩⟩
theorem pdss_one {st : Stmt} {a : DStm} (h : PDS X W w st a) : PDSs X W w [st] a := by
  obtain ⟨t, p, l⟩ := h.ex
  exact ⟨⟨_, pss_one p, l⟩⟩
theorem pdss_cons {st : Stmt} {rest : List Stmt} {a b : DStm} (h : PDS X W w st a) (hr : PDSs X W w rest b) : PDSs X W w (st :: rest) (dSeq a b) := by
  obtain ⟨t, p, l⟩ := h.ex
  obtain ⟨u, p2, l2⟩ := hr.ex
  refine ⟨⟨_, pss_cons p p2, fun D E σ δ I H M re hs ok q => ?_⟩⟩
  refine l { nx := fun δ M => b D δ M, rt := D.rt, bk := D.bk, ct := D.ct } _ σ δ I H M ⟨fun δ1 M1 σ1 I1 H1 s1 sl1 ok1 q1 => ?_, re.rt, re.bk, re.ct⟩ hs ok q
  exact l2 D E σ1 δ1 I1 H1 M1 (re.mono s1) ⟨sl1, hs.lw.mono s1⟩ ok1 q1
def dPass : DStm := dNext
theorem pds_pass : PDS X W w (.Pass pos) dNext := ⟨⟨_, ps_pass, fun D E σ δ I H M re hs ok q => re.nx δ M σ I H (Same.refl _) hs.sl ok q⟩⟩
@[simp ↓] def dNever : DStm := fun _ _ _ => False
theorem pds_never {st : Stmt} : PDS X W w st dNever := ⟨⟨_, ps_never, fun D E σ δ I H M re hs ok q => q.elim⟩⟩
@[simp ↓] def dBreak : DStm := fun D δ M => D.bk δ M
theorem pds_break : PDS X W w (.Break pos) dBreak := ⟨⟨_, ps_break, fun D E σ δ I H M re hs ok q => re.bk δ M σ I H (Same.refl _) hs.sl ok q⟩⟩
@[simp ↓] def dCont : DStm := fun D δ M => D.ct δ M
theorem pds_continue : PDS X W w (.Continue pos) dCont := ⟨⟨_, ps_continue, fun D E σ δ I H M re hs ok q => re.ct δ M σ I H (Same.refl _) hs.sl ok q⟩⟩
@[simp ↓] def kIf (a b : DStm) (D : DEnds) (δ : DS) : Bool → DM → Prop := fun k M1 => if k = true then a D δ M1 else b D δ M1
@[simp ↓] def dIf (c : DT) (a b : DStm) : DStm := fun D δ M => c δ M (kIf a b D δ)
theorem pds_if {c : Expr} {a b : List Stmt} {dc : DT} {da db : DStm} (hc : PDT X W w c dc) (ha : PDSs X W w a da) (hb : PDSs X W w b db) : PDS X W w (.If c a b pos) (dIf dc da db) := by
  obtain ⟨tc, p0, l0⟩ := hc.ex
  obtain ⟨ta, p1, l1⟩ := ha.ex
  obtain ⟨tb, p2, l2⟩ := hb.ex
  refine ⟨⟨_, ps_if p0 p1 p2, fun D E σ δ I H M re hs ok q => l0 σ δ I H M _ _ hs ok q fun k M1 I1 H1 s1 ok1 q1 => ?_⟩⟩
  show if k = true then _ else _
  cases k
  · exact l2 D E σ δ I1 H1 M1 (re.mono s1) (hs.mono s1) ok1 q1
  · exact l1 D E σ δ I1 H1 M1 (re.mono s1) (hs.mono s1) ok1 q1
@[simp ↓] def dRet (de : DE) : DStm := fun D δ M => de δ M D.rt
theorem pds_ret {e : Expr} {de : DE} (h : PD X W w e de) : PDS X W w (.Return (some e) pos) (dRet de) := by
  obtain ⟨te, p, l⟩ := h.ex
  exact ⟨⟨_, ps_ret p, fun D E σ δ I H M re hs ok q => l σ δ I H M _ _ hs ok q re.rt⟩⟩
@[simp ↓] def dRetN : DStm := fun D _ M => D.rt .non M
theorem pds_retN : PDS X W w (.Return none pos) dRetN := ⟨⟨_, ps_retN, fun D E σ δ I H M re hs ok q => re.rt .non M .non I H (Same.refl _) ok .non q⟩⟩
@[simp ↓] def kExpr (N : DM → Prop) : DK := fun _ M1 => N M1
@[simp ↓] def dExpr (de : DE) : DStm := fun D δ M => de δ M (kExpr (D.nx δ))
theorem pds_expr {e : Expr} {de : DE} (h : PD X W w e de) (h1 : swapsWith e none pos.line X.env = pure false := by rfl) : PDS X W w (.Expr e pos) (dExpr de) := by
  obtain ⟨te, p, l⟩ := h.ex
  exact ⟨⟨_, ps_expr p h1, fun D E σ δ I H M re hs ok q => l σ δ I H M _ _ hs ok q fun d M1 v I1 H1 s1 ok1 r1 q1 => re.nx δ M1 σ I1 H1 s1 (hs.sl.mono s1) ok1 q1⟩⟩
/-- x += e, ints -/
@[simp ↓] def kAugV (i : Nat) (a : Int) (D : DEnds) (δ : DS) : DK
  | .int j, M => D.nx (δ.set i (some (.int (a + j)))) M
  | _, _ => False
def dAugV (i : Nat) (de : DE) : DStm := fun D δ M => match δ[i]? with
  | some (some (.int a)) => de δ M (kAugV i a D δ)
  | _ => False
theorem pds_aug {i : Nat} {x : Str} {e : Expr} {de : DE} {pos' : Pos} (hN : X.N.Nodup) (he : PD X W w e de) (hi : X.N[i]? = some x := by rfl) (hx : L2.Loc X.env.scope x := by first | exact Or.inl rfl | exact Or.inr rfl) (hf : X.fn x = true ∨ X.env.scope.names.lookup x = some .local := by first | exact Or.inl rfl | exact Or.inr rfl) :
    PDS X W w (.AugAssign (.Name x pos') .Add e pos) (dAugV i de) := by
  obtain ⟨te, p1, l1⟩ := he.ex
  refine ⟨⟨_, ps_aug hN hi hx p1 ip_add hf, fun D E σ δ I H M re hs ok q => ?_⟩⟩
  unfold dAugV at q
  split at q
  · rename_i a e
    obtain ⟨v, hv, r⟩ := hs.sl.get e
    cases r
    refine ⟨_, hv, l1 σ δ I H M _ _ hs ok q fun d M1 u I1 H1 s1 ok1 r1 q1 => ?_⟩
    cases d <;> try exact q1.elim
    cases r1
    exact ⟨_, _, rfl, rfl, re.nx _ M1 _ I1 H1 s1 (Sl.setV (.int _) i (hs.sl.mono s1)) ok1 q1⟩
  · exact q.elim
/-- o.append(e) -/
@[simp ↓] def appO (p : Addr) (d : Dt) (Q : DM → Prop) (M : DM) : Option MO → Prop
  | some (.lst ds) => ds.length < sizeLine ∧ Q (updM M p (.lst (ds ++ [d])))
  | _ => False
@[simp ↓] def isL : Option MO → Prop
  | some (.lst _) => True
  | _ => False
@[simp ↓] def kApp2 (p : Addr) (Q : DM → Prop) : List Dt → DM → Prop
  | [d], M => appO p d Q M (M p)
  | _, _ => False
@[simp ↓] def kApp1 (N : Addr → DM → Prop) : DK
  | .ref p, M => isL (M p) ∧ N p M
  | _, _ => False
@[simp ↓] def kApp (da : DA) (δ : DS) (N : DM → Prop) : Addr → DM → Prop := fun p M1 => da δ M1 (kApp2 p N)
@[simp ↓] def dApp (de : DE) (da : DA) : DStm := fun D δ M => de δ M (kApp1 (kApp da δ (D.nx δ)))
theorem pds_append {o e : Expr} {de : DE} {da : DA} {apos cpos : Pos} (ho : PD X W w o de) (ha : PDA X W w [e] da) (h0 : swapsWith (.Call (.Attribute o "append" apos) [e] [] cpos) none pos.line X.env = pure false := by rfl)
    (h1 : attributeBase o "append" X.env (eval o X.env) = eval o X.env := by rfl)
    (h2 : ((((backTo cpos (starEach [e] X.env)).all fun x => !x.1) && ((backToKw cpos (keywordEach [] X.env)).all fun x => x.1.isSome)) && decide (([e].length + ([] : List Keyword).length + if ([] : List Keyword).isEmpty = true then 0 else 1) < 30)) = true := by rfl)
    (h3 : (apos.endLine == cpos.line) = true := by rfl) (h4 : starEach [e] X.env = (false, eval e X.env) :: starEach [] X.env := by rfl) (h5 : (backTo cpos (starEach [] X.env)).any (·.1) = false := by rfl) :
    PDS X W w (.Expr (.Call (.Attribute o "append" apos) [e] [] cpos) pos) (dApp de da) := by
  obtain ⟨te, p1, l1⟩ := ho.ex
  obtain ⟨ta, p2, l2⟩ := ha.ex
  refine ⟨⟨_, ps_expr (pe_bm PySem.F.plainAttrs_list PySem.F.slot_list_append PySem.F.type_list_append mt_append p1 p2 h1 h2 h3 h4 h5) h0, fun D E σ δ I H M re hs ok q => ?_⟩⟩
  refine l1 σ δ I H M _ _ hs ok q fun od M1 ov I1 H1 s1 ok1 r1 q1 => ?_
  cases od <;> try exact q1.elim
  rename_i p
  cases r1
  obtain ⟨q0, q1⟩ := q1
  refine ⟨?_, l2 σ δ I1 H1 M1 _ _ (hs.mono s1) ok1 q1 fun ds M2 vs I2 H2 s2 ok2 r2 q2 => ?_⟩
  · cases e : M1 p with
    | none => rw [e] at q0; exact q0.elim
    | some o =>
      rw [e] at q0
      cases o <;> try exact q0.elim
      obtain ⟨vs, h2, r⟩ := ok1.lists e
      exact Or.inl ⟨rfl, _, SqL.of h2⟩
  · match ds, r2, q2 with
    | [d], .cons r2 .nil, q2 =>
      have q2 : appO p d (D.nx δ) M2 (M2 p) := q2
      cases e : M2 p with
      | none => rw [e] at q2; exact q2.elim
      | some o =>
        rw [e] at q2
        cases o <;> try exact q2.elim
        obtain ⟨vs, h2, r⟩ := ok2.lists e
        refine ⟨p, vs, _, rfl, rfl, h2, by rw [r.len]; exact q2.1, ?_⟩
        exact re.nx δ _ σ I2 _ (s1.trans s2) (hs.sl.mono (s1.trans s2)) (ok2.put (ok2.cel _ _ e).1 (.lst (r.append (.one r2)))) q2.2
    | [], _, q2 => exact q2.elim
/-! ### what a for walks -/
abbrev DI := DS → DM → (List Dt → DM → Prop) → Prop
def ItOk (K : PySem.W.Frag) (I : Hp) (J : It) (ds : List Dt) : Prop := ∀ (I2 H2 : Hp) (M2 : DM), Same I I2 → Ok K I2 H2 M2 → (∀ i, ds.length ≤ i → J.stop i H2) ∧ ∀ i d, ds[i]? = some d → J.go i H2 ∧ ∀ x H', J.yld i H2 x H' → H' = H2 ∧ Rl K I x d
structure PDI (X : Cx) (W : WX) (w : WD) (tg iter : Expr) (di : DI) : Prop where
  ex : ∃ wi, PI X tg iter wi ∧ ∀ (σ : L2.St) (δ : DS) (I H : Hp) (M : DM) (Q : List Dt → DM → Prop) (R : It → Hp → Prop), Cn X.K W w I σ δ → Ok X.K I H M → di δ M Q →
    (∀ (ds : List Dt) (M' : DM) (I' H' : Hp) (J : It), Same I I' → Ok X.K I' H' M' → Q ds M' → ItOk X.K I' J ds → R J H') → wi σ H R
def delM (M : DM) (p : Addr) : DM := fun b => if b = p then none else M b
@[simp ↓] def frzO (p : Addr) (Q : List Dt → DM → Prop) (M : DM) : Option MO → Prop
  | some (.lst ds) => Q ds (delM M p)
  | _ => False
@[simp ↓] def kSeq (Q : List Dt → DM → Prop) : DK
  | .lst ds, M => Q ds M
  | .src ns, M => Q (ns.map Dt.int) M
  | .ref p, M => frzO p Q M (M p)
  | _, _ => False
@[simp ↓] def iSeq (de : DE) : DI := fun δ M Q => de δ M (kSeq Q)
theorem itok_lst {K : PySem.W.Frag} {I : Hp} {a : Addr} {vs : List V} {ds : List Dt} (h : SqL K I a vs) (r : Rls K I vs ds) : ItOk K I (Itl K a) ds := fun I2 H2 M2 s ok => by
  have hq : SqL K H2 a vs := ok.sub.seq (s.seq h)
  refine ⟨fun i hi => ⟨vs, hq, by rw [r.len]; exact hi⟩, fun i d e => ?_⟩
  obtain ⟨v, h1, h2⟩ := r.get e
  refine ⟨⟨vs, v, hq, h1⟩, fun x H' hy => ⟨hy.1, ?_⟩⟩
  have := hy.2 vs hq
  rw [h1] at this
  cases this
  exact h2
theorem pdi_seq {tg l : Expr} {de : DE} (h : PD X W w l de) : PDI X W w tg l (iSeq de) := by
  obtain ⟨te, p, l1⟩ := h.ex
  refine ⟨⟨_, pi_list p, fun σ δ I H M Q R hs ok q k => l1 σ δ I H M _ _ hs ok q fun d M1 v I1 H1 s1 ok1 r1 q1 => ?_⟩⟩
  cases d <;> try exact q1.elim
  · rename_i p
    cases r1
    have q1 : frzO p Q M1 (M1 p) := q1
    cases e : M1 p with
    | none => rw [e] at q1; exact q1.elim
    | some o =>
      rw [e] at q1
      cases o <;> try exact q1.elim
      obtain ⟨vs, h2, r⟩ := ok1.lists e
      obtain ⟨I2, s2, ok2, r2⟩ := ok1.freeze e
      cases r2 with
      | lst z1 z2 => exact ⟨p, rfl, ⟨_, SqL.of h2⟩, k _ _ I2 H1 _ (s1.trans s2) ok2 q1 (itok_lst (.inl (.inl z1)) z2)⟩
  · cases r1 with
    | lst z1 z2 => exact ⟨_, rfl, ⟨_, ok1.lstAt z1⟩, k _ _ I1 H1 _ s1 ok1 q1 (itok_lst (.inl (.inl z1)) z2)⟩
  · cases r1 with
    | src z1 => exact ⟨_, rfl, ⟨_, ok1.sub.seq z1⟩, k _ _ I1 H1 _ s1 ok1 q1 (itok_lst z1 (Rls.of_ints _))⟩
@[simp ↓] def kSeqT (Q : List Dt → DM → Prop) : DK
  | .tup ds, M => Q ds M
  | _, _ => False
@[simp ↓] def iSeqT (de : DE) : DI := fun δ M Q => de δ M (kSeqT Q)
theorem pdi_tup {tg l : Expr} {de : DE} (h : PD X W w l de) : PDI X W w tg l (iSeqT de) := by
  obtain ⟨te, p, l1⟩ := h.ex
  refine ⟨⟨_, pi_tup p, fun σ δ I H M Q R hs ok q k => l1 σ δ I H M _ _ hs ok q fun d M1 v I1 H1 s1 ok1 r1 q1 => ?_⟩⟩
  cases d <;> try exact q1.elim
  cases r1 with
  | tup z1 z2 =>
    refine ⟨_, rfl, ⟨_, ok1.tupAt z1⟩, k _ _ I1 H1 _ s1 ok1 q1 fun I2 H2 M2 s ok2 => ?_⟩
    have hq := ok2.tupAt (sqT_mono s z1)
    refine ⟨fun i hi => ⟨_, hq, by rw [z2.len]; exact hi⟩, fun i d e => ?_⟩
    obtain ⟨v, h1, h2⟩ := z2.get e
    refine ⟨⟨_, v, hq, h1⟩, fun x H' hy => ⟨hy.1, ?_⟩⟩
    have := hy.2 _ hq
    rw [h1] at this
    cases this
    exact h2
def rngD (lo : Int) (n : Nat) : List Dt := (List.range n).map fun k : Nat => Dt.int (lo + (k : Int))
theorem rngD_len (lo : Int) (n : Nat) : (rngD lo n).length = n := by unfold rngD; rw [List.length_map, List.length_range]
theorem itok_rng {K : PySem.W.Frag} {I : Hp} {lo : Int} {n : Nat} : ItOk K I (Itr lo n) (rngD lo n) := fun I2 H2 M2 s ok => by
  refine ⟨fun i hi => by rw [rngD_len] at hi; exact hi, fun i d e => ?_⟩
  unfold rngD at e
  rw [List.getElem?_map] at e
  by_cases hi : i < n
  · rw [List.getElem?_range hi] at e
    cases e
    exact ⟨hi, fun x H' hy => ⟨hy.1, by rw [hy.2]; exact .int _⟩⟩
  · rw [List.getElem?_eq_none (by simpa using hi)] at e
    cases e
@[simp ↓] def kR1 (Q : List Dt → DM → Prop) : List Dt → DM → Prop
  | [.int j], M => -(2 ^ 62) ≤ j ∧ j < 2 ^ 62 ∧ Q (rngD 0 j.toNat) M
  | _, _ => False
@[simp ↓] def iR1 (da : DA) : DI := fun δ M Q => da δ M (kR1 Q)
theorem pdi_range1 {tg a : Expr} {da : DA} {p : Pos} (hm : X.mg "range" = none) (ha : PDA X W w [a] da) (hg : Gl X "range" := by rfl) (h1 : starEach [a] X.env = [(false, eval a X.env)] := by rfl) : PDI X W w tg (.Call (.Name "range" p) [a] [] pos) (iR1 da) := by
  obtain ⟨ta, p1, l1⟩ := ha.ex
  refine ⟨⟨_, pi_range1 hg hm p1 h1, fun σ δ I H M Q R hs ok q k => l1 σ δ I H M _ _ hs ok q fun ds M1 vs I1 H1 s1 ok1 r1 q1 => ?_⟩⟩
  match ds, r1, q1 with
  | [.int j], .cons r1 .nil, q1 =>
    cases r1
    exact ⟨j, rfl, q1.1, q1.2.1, k _ _ I1 H1 _ s1 ok1 q1.2.2 itok_rng⟩
  | [], _, q1 => exact q1.elim
@[simp ↓] def kR2 (Q : List Dt → DM → Prop) : List Dt → DM → Prop
  | [.int i, .int j], M => (-(2 ^ 62) ≤ i ∧ i < 2 ^ 62 ∧ -(2 ^ 62) ≤ j ∧ j < 2 ^ 62) ∧ Q (rngD i (j - i).toNat) M
  | _, _ => False
@[simp ↓] def iR2 (da : DA) : DI := fun δ M Q => da δ M (kR2 Q)
theorem pdi_range2 {tg a b : Expr} {da : DA} {p : Pos} (hm : X.mg "range" = none) (ha : PDA X W w [a, b] da) (hg : Gl X "range" := by rfl) (h1 : starEach [a, b] X.env = [(false, eval a X.env), (false, eval b X.env)] := by rfl) (h2 : starEach [b] X.env = [(false, eval b X.env)] := by rfl) : PDI X W w tg (.Call (.Name "range" p) [a, b] [] pos) (iR2 da) := by
  obtain ⟨ta, p1, l1⟩ := ha.ex
  refine ⟨⟨_, pi_range2 hg hm p1 h1 h2, fun σ δ I H M Q R hs ok q k => l1 σ δ I H M _ _ hs ok q fun ds M1 vs I1 H1 s1 ok1 r1 q1 => ?_⟩⟩
  match ds, r1, q1 with
  | [.int i, .int j], .cons r1 (.cons r2 .nil), q1 =>
    cases r1; cases r2
    exact ⟨i, j, rfl, q1.1, k _ _ I1 H1 _ s1 ok1 q1.2 itok_rng⟩
  | [], _, q1 => exact q1.elim
/-! ### for -/
def walkD (dg : DG) (db : DStm) (D : DEnds) : List Dt → DS → DM → Prop
  | [], δ, M => D.nx δ M
  | d :: ds, δ, M => dg d δ M (db { nx := walkD dg db D ds, rt := D.rt, bk := D.nx, ct := walkD dg db D ds })
@[simp ↓] def kFor (dg : DG) (db : DStm) (D : DEnds) (δ : DS) : List Dt → DM → Prop := fun ds M1 => walkD dg db D ds δ M1
@[simp ↓] def dFor (di : DI) (dg : DG) (db : DStm) : DStm := fun D δ M => di δ M (kFor dg db D δ)
theorem drop_of {α : Type} : ∀ {ds : List α} {i : Nat}, (ds.length ≤ i ∧ ds.drop i = []) ∨ ∃ d, ds[i]? = some d ∧ ds.drop i = d :: ds.drop (i + 1)
  | [], i => .inl ⟨Nat.zero_le _, List.drop_nil⟩
  | d :: ds, 0 => .inr ⟨d, rfl, rfl⟩
  | d :: ds, i + 1 => by
    rcases drop_of (ds := ds) (i := i) with ⟨h1, h2⟩ | ⟨e, h1, h2⟩
    · exact .inl ⟨Nat.succ_le_succ h1, h2⟩
    · exact .inr ⟨e, h1, h2⟩
theorem pds_for {tg iter : Expr} {body : List Stmt} {di : DI} {dg : DG} {sl : List Nat} {db : DStm} (hp : PassesOwn (model X.prog X.w) X.A X.env X.xe) (hc : X.calm = true) (hi : PDI X W w tg iter di) (hg : PDG X W w tg dg sl) (hb : PDSs X W w body db)
    (hf : ∀ (x : Value), foldedSetIterable iter X.env x = pure x := by intro _; rfl) : PDS X W w (.For tg iter body [] pos) (dFor di dg db) := by
  obtain ⟨wi, p1, l1⟩ := hi.ex
  obtain ⟨g, p2, l2⟩ := hg.ex
  obtain ⟨tb, p3, l3⟩ := hb.ex
  refine ⟨⟨_, ps_for hp hc p1 p2 p3 hf, fun D E σ δ I H M re hs ok q => ?_⟩⟩
  refine l1 σ δ I H M _ _ hs ok q fun ds M1 I1 H1 J s1 ok1 q1 hJ => ?_
  refine ⟨fun i m σ H => ∃ (I' : Hp) (δ : DS) (M : DM), Same I1 I' ∧ Cn X.K W w I' σ δ ∧ Ok X.K I' H M ∧ m = ds.length - i ∧ walkD dg db D (ds.drop i) δ M, ⟨_, I1, δ, M1, Same.refl _, hs.mono s1, ok1, rfl, q1⟩, ?_⟩
  rintro i m σ1 H1 ⟨I2, δ2, M2, s2, hs2, ok2, em, q2⟩
  obtain ⟨j1, j2⟩ := hJ I2 H1 M2 s2 ok2
  rcases drop_of (ds := ds) (i := i) with ⟨h1, h2⟩ | ⟨d, h1, h2⟩
  · rw [h2] at q2
    exact .inl ⟨j1 i h1, re.nx δ2 M2 σ1 I2 H1 (s1.trans s2) hs2.sl ok2 q2⟩
  · rw [h2] at q2
    obtain ⟨go, yl⟩ := j2 i d h1
    have hlt : i < ds.length := by
      rcases Nat.lt_or_ge i ds.length with z | z
      · exact z
      · rw [List.getElem?_eq_none z] at h1; cases h1
    refine .inr ⟨go, fun σ' H' => ∃ (I' : Hp) (δ : DS) (M : DM), Same I1 I' ∧ Cn X.K W w I' σ' δ ∧ Ok X.K I' H' M ∧ walkD dg db D (ds.drop (i + 1)) δ M, ?_, fun x H' hy => ?_⟩
    · rintro σ' H' ⟨I3, δ3, M3, s3, hs3, ok3, q3⟩
      exact ⟨ds.length - (i + 1), by omega, I3, δ3, M3, s3, hs3, ok3, rfl, q3⟩
    · obtain ⟨e, rx⟩ := yl x H' hy
      subst e
      refine l2 σ1 δ2 I2 H' M2 x d _ _ hs2 ok2 (rx.mono s2) q2 fun δ3 M3 σ3 I3 H3 s3 sl3 ok3 _ q3 => ?_
      refine l3 _ _ σ3 δ3 I3 H3 M3 ⟨?_, ?_, ?_, ?_⟩ ⟨sl3, hs2.lw.mono s3⟩ ok3 q3
      · intro δ4 M4 σ4 I4 H4 s4 sl4 ok4 q4
        exact ⟨I4, δ4, M4, (s2.trans s3).trans s4, ⟨sl4, (hs2.lw.mono s3).mono s4⟩, ok4, q4⟩
      · exact re.rt.mono (s1.trans (s2.trans s3))
      · exact re.nx.mono (s1.trans (s2.trans s3))
      · intro δ4 M4 σ4 I4 H4 s4 sl4 ok4 q4
        exact ⟨I4, δ4, M4, (s2.trans s3).trans s4, ⟨sl4, (hs2.lw.mono s3).mono s4⟩, ok4, q4⟩
/-! ### while -/
def dWhile (c : DT) (db : DStm) : DStm := fun D δ M => ∃ Wv : Nat → DS → DM → Prop, (∃ m, Wv m δ M) ∧ ∀ m δ M, Wv m δ M → c δ M fun b M1 => if b = true then db { nx := fun δ' M' => ∃ m', m' < m ∧ Wv m' δ' M', rt := D.rt, bk := D.nx, ct := fun δ' M' => ∃ m', m' < m ∧ Wv m' δ' M' } δ M1 else D.nx δ M1
theorem pds_while {c : Expr} {body : List Stmt} {dc : DT} {db : DStm} (hp : PassesOwn (model X.prog X.w) X.A X.env X.xe) (hc : PDT X W w c dc) (hb : PDSs X W w body db) : PDS X W w (.While c body [] pos) (dWhile dc db) := by
  obtain ⟨tc, p1, l1⟩ := hc.ex
  obtain ⟨tb, p3, l3⟩ := hb.ex
  refine ⟨⟨_, ps_while hp p1 p3, fun D E σ δ I H M re hs ok q => ?_⟩⟩
  obtain ⟨Wv, ⟨m0, w0⟩, q⟩ := q
  refine ⟨fun m σ H => ∃ (I' : Hp) (δ : DS) (M : DM), Same I I' ∧ Cn X.K W w I' σ δ ∧ Ok X.K I' H M ∧ Wv m δ M, ⟨m0, I, δ, M, Same.refl _, hs, ok, w0⟩, ?_⟩
  rintro m σ1 H1 ⟨I2, δ2, M2, s2, hs2, ok2, w2⟩
  refine l1 σ1 δ2 I2 H1 M2 _ _ hs2 ok2 (q m δ2 M2 w2) fun b M3 I3 H3 s3 ok3 q3 => ?_
  show if b = true then _ else _
  cases b
  · exact re.nx δ2 M3 σ1 I3 H3 (s2.trans s3) (hs2.sl.mono s3) ok3 q3
  · refine ⟨fun σ' H' => ∃ m', m' < m ∧ ∃ (I' : Hp) (δ : DS) (M : DM), Same I I' ∧ Cn X.K W w I' σ' δ ∧ Ok X.K I' H' M ∧ Wv m' δ M, fun σ' H' h => h, ?_⟩
    refine l3 _ _ σ1 δ2 I3 H3 M3 ⟨?_, ?_, ?_, ?_⟩ (hs2.mono s3) ok3 q3
    · rintro δ4 M4 σ4 I4 H4 s4 sl4 ok4 ⟨m', hm, q4⟩
      exact ⟨m', hm, I4, δ4, M4, (s2.trans s3).trans s4, ⟨sl4, (hs2.lw.mono s3).mono s4⟩, ok4, q4⟩
    · exact re.rt.mono (s2.trans s3)
    · exact re.nx.mono (s2.trans s3)
    · rintro δ4 M4 σ4 I4 H4 s4 sl4 ok4 ⟨m', hm, q4⟩
      exact ⟨m', hm, I4, δ4, M4, (s2.trans s3).trans s4, ⟨sl4, (hs2.lw.mono s3).mono s4⟩, ok4, q4⟩
/-! ### comprehensions -/
abbrev W0 : WX := fun _ _ _ _ => False
abbrev w0 : WD := fun _ _ _ _ => False
def liftE (K : PySem.W.Frag) (W : WX) (w : WD) (de : DE) : TE := fun σ H R => ∃ (δ : DS) (I : Hp) (M : DM) (Q : DK), Cn K W w I σ δ ∧ Ok K I H M ∧ de δ M Q ∧ Post K I Q R
theorem PD.lift {e : Expr} {de : DE} (h : PD X W w e de) : PE X e (liftE X.K W w de) := by
  obtain ⟨te, p, l⟩ := h.ex
  exact ⟨fun pins s σ H Q I ⟨δ, I', M, Q', h1, h2, h3, h4⟩ => p.run pins s σ H Q I (l σ δ I' H M Q' Q h1 h2 h3 h4)⟩
def liftT (K : PySem.W.Frag) (W : WX) (w : WD) (dt : DT) : TT := fun σ H R => ∃ (δ : DS) (I : Hp) (M : DM) (Q : Bool → DM → Prop), Cn K W w I σ δ ∧ Ok K I H M ∧ dt δ M Q ∧ PostB K I Q R
structure PDTs (X : Cx) (W : WX) (w : WD) (es : List Expr) (dt : DT) : Prop where
  run : PTs X es (liftT X.K W w dt)
@[simp ↓] def dYes : DT := fun _ M Q => Q true M
theorem pdts_nil : PDTs X W w [] dYes := ⟨⟨fun pins s σ H Q I ⟨δ, I', M, Q', h1, h2, h3, h4⟩ => pts_nil.run pins s σ H Q I (h4 true M I' H (Same.refl _) h2 h3)⟩⟩
theorem pdts_one {c : Expr} {dt : DT} (h : PDT X W w c dt) : PDTs X W w [c] dt := by
  obtain ⟨t, p, l⟩ := h.ex
  exact ⟨⟨fun pins s σ H Q I ⟨δ, I', M, Q', h1, h2, h3, h4⟩ => (pts_one p).run pins s σ H Q I (l σ δ I' H M Q' Q h1 h2 h3 h4)⟩⟩
def liftG (K : PySem.W.Frag) (W : WX) (w : WD) (dg : DG) (sl : List Nat) : TG := fun v σ H R => ∃ (δ : DS) (I : Hp) (M : DM) (d : Dt) (Q : DS → DM → Prop), Cn K W w I σ δ ∧ Ok K I H M ∧ Rl K I v d ∧ dg d δ M Q ∧ PostG K I σ sl Q R
theorem PDG.lift {tg : Expr} {dg : DG} {sl : List Nat} (h : PDG X W w tg dg sl) : PG X tg (liftG X.K W w dg sl) := by
  obtain ⟨g, p, l⟩ := h.ex
  exact ⟨fun pins s σ H v u Q I r ⟨δ, I', M, d, Q', h1, h2, h3, h4, h5⟩ => p.run pins s σ H v u Q I r (l σ δ I' H M v d Q' Q h1 h2 h3 h4 h5)⟩
def endC (p : Addr) (Q : DK) (M : DM) : Option MO → Prop
  | some (.lst acc) => Q (.lst acc) (delM M p)
  | _ => False
@[simp ↓] def addC (p : Addr) (y : Dt) (N : DM → Prop) (M : DM) : Option MO → Prop
  | some (.lst acc) => acc.length < sizeLine ∧ N (updM M p (.lst (acc ++ [y])))
  | _ => False
@[simp ↓] def kC3 (p : Addr) (Wk : DM → Prop) : DK := fun y M3 => addC p y Wk M3 (M3 p)
@[simp ↓] def kC2 (de : DE) (p : Addr) (Wk : DM → Prop) (δ' : DS) : Bool → DM → Prop := fun b M2 => if b = true then de δ' M2 (kC3 p Wk) else Wk M2
@[simp ↓] def kC1 (dt : DT) (de : DE) (p : Addr) (Wk : DM → Prop) : DS → DM → Prop := fun δ' M' => dt δ' M' (kC2 de p Wk δ')
def walkC (dg : DG) (dt : DT) (de : DE) (δ : DS) (p : Addr) (Q : DK) : List Dt → DM → Prop
  | [], M => endC p Q M (M p)
  | d :: ds, M => dg d δ M (kC1 dt de p (walkC dg dt de δ p Q ds))
@[simp ↓] def kLc (dg : DG) (dt : DT) (de : DE) (δ : DS) (Q : DK) : List Dt → DM → Prop := fun ds M1 => ∀ p, M1 p = none → walkC dg dt de δ p Q ds (updM M1 p (.lst []))
@[simp ↓] def dLc (di : DI) (dg : DG) (dt : DT) (de : DE) (vs : List Nat) : DE := fun δ M Q => di δ M (kLc dg dt de (wipeD δ vs) Q)
theorem wipe_wipe (σ : L2.St) (vs : List Nat) : wipe (wipe σ vs) vs = wipe σ vs := by
  apply List.ext_getElem?
  intro j
  rw [wipe_get, wipe_get, wipe_len]
  by_cases hj : j ∈ vs
  · simp [hj]
  · simp [hj]
theorem le_lc {K : PySem.W.Frag} {wi : TI} {di : DI} {dg : DG} {dt : DT} {de : DE} {vs sl : List Nat} (hsl : ∀ i ∈ sl, i ∈ vs)
    (l1 : ∀ (σ : L2.St) (δ : DS) (I H : Hp) (M : DM) (Q : List Dt → DM → Prop) (R : It → Hp → Prop), Cn K W w I σ δ → Ok K I H M → di δ M Q → (∀ (ds : List Dt) (M' : DM) (I' H' : Hp) (J : It), Same I I' → Ok K I' H' M' → Q ds M' → ItOk K I' J ds → R J H') → wi σ H R) :
    LE K W w (tLc wi (liftG K W0 w0 dg sl) (liftT K W0 w0 dt) (liftE K W0 w0 de) vs) (dLc di dg dt de vs) := fun σ δ I H M Q R hs ok q k => by
  refine l1 σ δ I H M _ _ hs ok q fun ds M1 I1 H1 J s1 ok1 q1 hJ => ?_
  intro D hD
  refine ⟨fun i m H => ∃ (I' : Hp) (M : DM), Same I1 I' ∧ Ok K I' H M ∧ m = ds.length - i ∧ walkC dg dt de (wipeD δ vs) D Q (ds.drop i) M, ⟨_, I1, _, Same.refl _, ok1.put (ok1.sub.free hD) (.lst .nil), rfl, q1 D (ok1.fresh hD)⟩, ?_⟩
  rintro i m H2 ⟨I2, M2, s2, ok2, em, q2⟩
  obtain ⟨j1, j2⟩ := hJ I2 H2 M2 s2 ok2
  rcases drop_of (ds := ds) (i := i) with ⟨h1, h2⟩ | ⟨d, h1, h2⟩
  · rw [h2] at q2
    refine .inl ⟨j1 i h1, ?_⟩
    have q2 : endC D Q M2 (M2 D) := q2
    cases e : M2 D with
    | none => rw [e] at q2; exact q2.elim
    | some o =>
      rw [e] at q2
      cases o <;> try exact q2.elim
      obtain ⟨I3, s3, ok3, r3⟩ := ok2.freeze e
      exact k _ _ _ I3 H2 ((s1.trans s2).trans s3) ok3 r3 q2
  · rw [h2] at q2
    obtain ⟨go, yl⟩ := j2 i d h1
    have hlt : i < ds.length := by
      rcases Nat.lt_or_ge i ds.length with z | z
      · exact z
      · rw [List.getElem?_eq_none z] at h1; cases h1
    refine .inr ⟨go, fun H' => ∃ (I' : Hp) (M : DM), Same I1 I' ∧ Ok K I' H' M ∧ walkC dg dt de (wipeD δ vs) D Q (ds.drop (i + 1)) M, ?_, fun x H' hy => ?_⟩
    · rintro H' ⟨I3, M3, s3, ok3, q3⟩
      exact ⟨ds.length - (i + 1), by omega, I3, M3, s3, ok3, rfl, q3⟩
    · obtain ⟨e, rx⟩ := yl x H' hy
      subst e
      have lw0 : ∀ I, LW K I W0 w0 := fun _ _ _ _ _ _ _ _ _ _ _ _ _ _ _ h => h
      refine ⟨wipeD δ vs, I2, M2, d, _, ⟨Sl.wipe vs ((hs.sl.mono s1).mono s2), lw0 _⟩, ok2, rx.mono s2, q2, fun δ3 M3 σ3 I3 H3 s3 sl3 ok3 fr q3 => ⟨(fr vs hsl).trans (wipe_wipe σ vs), ?_⟩⟩
      refine ⟨δ3, I3, M3, _, ⟨sl3, lw0 _⟩, ok3, q3, fun b M4 I4 H4 s4 ok4 q4 => ?_⟩
      show if b = true then _ else _
      cases b
      · exact ⟨I4, M4, (s2.trans s3).trans s4, ok4, q4⟩
      · have q4 : de δ3 M4 _ := q4
        refine ⟨δ3, I4, M4, _, ⟨sl3.mono s4, lw0 _⟩, ok4, q4, fun y M5 v I5 H5 s5 ok5 r5 q5 => ?_⟩
        have q5 : addC D y (walkC dg dt de (wipeD δ vs) D Q (ds.drop (i + 1))) M5 (M5 D) := q5
        cases e : M5 D with
        | none => rw [e] at q5; exact q5.elim
        | some o =>
          rw [e] at q5
          cases o <;> try exact q5.elim
          obtain ⟨vs', z2, r⟩ := ok5.lists e
          exact ⟨vs', z2, by rw [r.len]; exact q5.1, I5, _, ((s2.trans s3).trans s4).trans s5, ok5.put (ok5.cel _ _ e).1 (.lst (r.append (.one r5))), q5.2⟩
theorem pd_lc {elt tg iter : Expr} {ifs : List Expr} {scope : Scope} {own : List (Str × Nat)} {di : DI} {dg : DG} {sl : List Nat} {dt : DT} {de : DE} (hc : X.calm = true) (hN : X.N.Nodup) (hi : PDI X W w tg iter di) (hb : BlkOk X.N X.env.scope scope own)
    (h1 : ∀ (s : Shared) (H : Hp) (C : Addr) (cl : List (Str × Addr)) (fp : List Addr), PDG (X.blk s H scope (compEnvC scope cl C X.env) fp) W0 w0 tg dg sl)
    (h2 : ∀ (s : Shared) (H : Hp) (C : Addr) (cl : List (Str × Addr)) (fp : List Addr), PDTs (X.blk s H scope (compEnvC scope cl C X.env) fp) W0 w0 ifs dt)
    (h3 : ∀ (s : Shared) (H : Hp) (C : Addr) (cl : List (Str × Addr)) (fp : List Addr), PD (X.blk s H scope (compEnvC scope cl C X.env) fp) W0 w0 elt de)
    (hsl : ∀ i ∈ sl, i ∈ own.map (·.2) := by decide) (hf : ∀ (x : Value), foldedSetIterable iter X.env x = pure x := by intro _; rfl) :
    PD X W w (.ListComp elt [{ target := tg, iter := iter, ifs := ifs, is_async := 0 }] scope pos) (dLc di dg dt de (own.map (·.2))) := by
  obtain ⟨wi, p1, l1⟩ := hi.ex
  exact ⟨⟨_, pe_lc (g := liftG X.K W0 w0 dg sl) (tt := liftT X.K W0 w0 dt) (te := liftE X.K W0 w0 de) hc hN p1 hb (fun s H C cl fp => (h1 s H C cl fp).lift) (fun s H C cl fp => (h2 s H C cl fp).run) (fun s H C cl fp => (h3 s H C cl fp).lift) hf, le_lc hsl l1⟩⟩
theorem pds_setLc {i : Nat} {y : Str} {py spos : Pos} {elt tg iter : Expr} {ifs : List Expr} {scope : Scope} {own : List (Str × Nat)} {di : DI} {dg : DG} {sl : List Nat} {dt : DT} {de : DE} (hc : X.calm = true) (hN : X.N.Nodup)
    (hy : X.env.scope.names.lookup y = some .local) (hsw : swapsWith (.ListComp elt [{ target := tg, iter := iter, ifs := ifs, is_async := 0 }] scope pos) (some (.Name y py)) spos.line X.env = pure true)
    (hi : PDI X W w tg iter di) (hb : BlkOk X.N X.env.scope scope own)
    (h1 : ∀ (s : Shared) (H : Hp) (C : Addr) (cl : List (Str × Addr)) (fp : List Addr), PDG (X.blk s H scope (compEnvC scope cl C X.env) fp) W0 w0 tg dg sl)
    (h2 : ∀ (s : Shared) (H : Hp) (C : Addr) (cl : List (Str × Addr)) (fp : List Addr), PDTs (X.blk s H scope (compEnvC scope cl C X.env) fp) W0 w0 ifs dt)
    (h3 : ∀ (s : Shared) (H : Hp) (C : Addr) (cl : List (Str × Addr)) (fp : List Addr), PD (X.blk s H scope (compEnvC scope cl C X.env) fp) W0 w0 elt de)
    (hiN : X.N[i]? = some y := by rfl) (hsl : ∀ i ∈ sl, i ∈ own.map (·.2) := by decide) (hf : ∀ (x : Value), foldedSetIterable iter X.env x = pure x := by intro _; rfl) :
    PDS X W w (.Assign [.Name y py] (.ListComp elt [{ target := tg, iter := iter, ifs := ifs, is_async := 0 }] scope pos) spos) (dAsg (dLc di dg dt de (own.map (·.2))) (dgName i)) := by
  obtain ⟨wi, p1, l1⟩ := hi.ex
  refine ⟨⟨_, ps_setLc (g := liftG X.K W0 w0 dg sl) (tt := liftT X.K W0 w0 dt) (te := liftE X.K W0 w0 de) hc hN hiN hy hsw p1 hb (fun s H C cl fp => (h1 s H C cl fp).lift) (fun s H C cl fp => (h2 s H C cl fp).run) (fun s H C cl fp => (h3 s H C cl fp).lift) hf, fun D E σ δ I H M re hs ok q => ?_⟩⟩
  refine le_lc hsl l1 σ δ I H M _ _ hs ok q fun d M1 v I1 H1 s1 ok1 r1 q1 => ?_
  exact re.nx _ M1 _ I1 H1 s1 (Sl.setV r1 i (hs.sl.mono s1)) ok1 q1
end
end DL

namespace L2
open PySem PySem.Spec PyProof.Rows
section
variable {X : Cx} {CX : CXT} {k : Nat} {f C : Addr} {fd : FuncData} {ps : List Str} {sp : Sp} {dvs : List V} {ds : List Value} {E : St → XK} {m : Str} {pos apos : Pos} {e o : Expr} {es : List Expr} {ta : TE} {t : TA}
/-- o.m(e, ..), what is raised wished for at the caller's slots -/
def tMethSD (C : Addr) (m : Str) (sp : Sp) (dvs : List V) (E : St → XK) (ta : TE) (t : TA) : TE := fun σ H Q => ta σ H fun x H1 => ∃ a dx fs, x = .ref a ∧ H1 a = some (.ins C dx fs) ∧ fs.lookup m = none ∧ t σ H1 fun vs H2 => sp (x :: (vs ++ dvs)) H2 Q (E σ)
theorem pe_methSD {pl : Sem Bool} (he : PE X o ta) (c : Cls X.K C) (hm : Meth X.K C m f) (F : FnOk X.prog X.w X.K X.mg X.base CX k f fd ps sp) (hr : Room k X.A) (hb : Binds X.K fd ps ds) (hd : Vals dvs ds) (hx : ∀ σ, PassesAt CX X σ (E σ)) (ha : PA X (e :: es) t)
    (hst : starEach (e :: es) X.env = (false, eval e X.env) :: starEach es X.env := by rfl) (hpl : (backTo pos (starEach es X.env)).any (·.1) = false := by rfl)
    (ht : eval (.Call (.Attribute o m apos) (e :: es) [] pos) X.env = (do
      let ov ← eval o X.env
      standAt apos.atName
      let (f, first) ← holding [ov] (getMethod ov m pl)
      callWith pos f first (backTo pos (starEach (e :: es) X.env)) (backToKw pos (keywordEach [] X.env))) := by rfl) :
    PE X (.Call (.Attribute o m apos) (e :: es) [] pos) (tMethSD C m sp dvs E ta t) := by
  refine ⟨fun pins s σ H Q I h => ?_⟩
  refine PySem.W.methodCall_KW (pl := pl) (thn (he.run pins s σ H _ I h) fun u s1 ⟨x, H1, I1, rx, a, dx, fs, ex, ea, l, q⟩ => ?_) ht
  subst ex
  obtain rfl : u = Value.ref a := rx
  refine getmeth_ok I1 ea c hm l ?_
  refine PySem.W.callWith_K (first := [.ref a]) (h₀ := X.base) I.ok.mod.kin hm.kp (thn (ha.run pos pins s1 σ H1 _ I1 q) fun us s2 ⟨vs, H2, I2, r, q2⟩ => ⟨I2.kIn, ?_⟩) hst hpl
  exact run_fnSD (us := .ref a :: us) (vs := .ref a :: vs) F hr hb hd (hx σ) I2 (.cons rfl r) q2
theorem pe_methSD0 {pl : Sem Bool} (he : PE X o ta) (c : Cls X.K C) (hm : Meth X.K C m f) (F : FnOk X.prog X.w X.K X.mg X.base CX k f fd ps sp) (hr : Room k X.A) (hb : Binds X.K fd ps ds) (hd : Vals dvs ds) (hx : ∀ σ, PassesAt CX X σ (E σ))
    (ht : eval (.Call (.Attribute o m apos) [] [] pos) X.env = (do
      let ov ← eval o X.env
      standAt apos.atName
      let (f, first) ← holding [ov] (getMethod ov m pl)
      callWith pos f first (backTo pos (starEach [] X.env)) (backToKw pos (keywordEach [] X.env))) := by rfl) :
    PE X (.Call (.Attribute o m apos) [] [] pos) (tMethSD C m sp dvs E ta tNil) := by
  refine ⟨fun pins s σ H Q I h => ?_⟩
  refine PySem.W.methodCall_KW (pl := pl) (thn (he.run pins s σ H _ I h) fun u s1 ⟨x, H1, I1, rx, a, dx, fs, ex, ea, l, q⟩ => ?_) ht
  subst ex
  obtain rfl : u = Value.ref a := rx
  refine getmeth_ok I1 ea c hm l ?_
  exact PySem.W.callWith_K0 (first := [.ref a]) I1.kIn hm.kp (run_fnSD (us := [.ref a]) (vs := [.ref a]) F hr hb hd (hx σ) I1 (.cons rfl .nil) q)
end
end L2
namespace DL
open PySem L2
/-! ### promises by data -/
abbrev DSp := List Dt → DM → DK → (Addr → Dt → DM → Prop) → Prop
def PostX (K : PySem.W.Frag) (I : Hp) (E0 : Addr → Dt → DM → Prop) (E : XK) : Prop := ∀ (C : Addr) (d : Dt) (M : DM) (v : V) (dx : Addr) (I' H : Hp), Same I I' → Ok K I' H M → H dx = some (.xd [(("at" : Str), v)]) → Rl K I' v d → E0 C d M → E (.ref C) (some dx) H
def liftS (K : PySem.W.Frag) (sd : DSp) : Sp := fun vs H Q E => ∃ (ds : List Dt) (I : Hp) (M : DM) (Q0 : DK) (E0 : Addr → Dt → DM → Prop), Rls K I vs ds ∧ Ok K I H M ∧ sd ds M Q0 E0 ∧ Post K I Q0 Q ∧ PostX K I E0 E
section
variable {X : Cx} {W : WX} {w : WD} {pos : Pos}
theorem sd_call {K : PySem.W.Frag} {σ : L2.St} {δ : DS} {I H : Hp} {M : DM} {sd : DSp} {vs : List V} {ds : List Dt} {Q : DK} {R : VK} (hs : Cn K W w I σ δ) (ok : Ok K I H M) (r : Rls K I vs ds) (h : sd ds M Q fun C d M' => w C d δ M') (k : Post K I Q R) : liftS K sd vs H R (WE W σ) :=
  ⟨ds, I, M, Q, _, r, ok, h, k, fun C d M' v dx I' H' s ok' hx rv q => hs.lw C d δ M' σ v dx I' H' s (hs.sl.mono s) ok' hx rv q⟩
/-- f(e, ..) -/
@[simp ↓] def kW (w : WD) (δ : DS) : Addr → Dt → DM → Prop := fun C d M' => w C d δ M'
@[simp ↓] def kCall (w : WD) (sd : DSp) (δ : DS) (Q : DK) : List Dt → DM → Prop := fun ds M1 => sd ds M1 Q (kW w δ)
@[simp ↓] def dCall (w : WD) (sd : DSp) (da : DA) : DE := fun δ M Q => da δ M (kCall w sd δ Q)
theorem pd_call {k : Nat} {f : Addr} {fd : FuncData} {ps : List Str} {sd : DSp} {x : Str} {p : Pos} {e : Expr} {es : List Expr} {da : DA} (F : FnOk X.prog X.w X.K X.mg X.base (CX X.prog X.w) k f fd ps (liftS X.K sd)) (hr : Room k X.A) (hm : X.mg x = some (.ref f)) (hk : PySem.W.keepIn X.K (.ref f) = true) (hb : Binds X.K fd ps []) (tk : Takes X W)
    (ha : PDA X W w (e :: es) da) (hg : Gl X x := by rfl) (hdb : (x == ("__debug__" : Str)) = false := by decide) (he : starEach (e :: es) X.env = (false, eval e X.env) :: starEach es X.env := by rfl) (hpl : (backTo pos (starEach es X.env)).any (·.1) = false := by rfl) :
    PD X W w (.Call (.Name x p) (e :: es) [] pos) (dCall w sd da) := by
  obtain ⟨ta, p1, l1⟩ := ha.ex
  refine ⟨⟨_, pe_callSD F hr hg hm hk hb .nil (E := WE W) (fun σ => passAt tk σ) p1 hdb he hpl, fun σ δ I H M Q R hs ok q k => l1 σ δ I H M _ _ hs ok q fun ds M1 vs I1 H1 s1 ok1 r1 q1 => ?_⟩⟩
  rw [List.append_nil]
  exact sd_call (hs.mono s1) ok1 r1 q1 (k.mono s1)
/-- o.m(e, ..) -/
def methO (C : Addr) (m : Str) (N : DM → Prop) (M : DM) : Option MO → Prop
  | some (.ins C' _ fs) => C' = C ∧ fs.lookup m = none ∧ N M
  | _ => False
def kMeth (C : Addr) (m : Str) (N : Addr → DM → Prop) : DK
  | .ref a, M => methO C m (N a) M (M a)
  | _, _ => False
@[simp ↓] def kMeth2 (w : WD) (sd : DSp) (δ : DS) (Q : DK) (a : Addr) : List Dt → DM → Prop := fun ds M2 => sd (.ref a :: ds) M2 Q (kW w δ)
@[simp ↓] def kMeth1 (w : WD) (sd : DSp) (da : DA) (δ : DS) (Q : DK) : Addr → DM → Prop := fun a M1 => da δ M1 (kMeth2 w sd δ Q a)
@[simp ↓] def dMeth (C : Addr) (m : Str) (w : WD) (sd : DSp) (de : DE) (da : DA) : DE := fun δ M Q => de δ M (kMeth C m (kMeth1 w sd da δ Q))
theorem methO_inv {C : Addr} {m : Str} {N : DM → Prop} {M : DM} {o : Option MO} (h : methO C m N M o) : ∃ dx fs, o = some (.ins C dx fs) ∧ fs.lookup m = none ∧ N M := by
  cases o with
  | none => exact h.elim
  | some o =>
    cases o with
    | lst _ => exact h.elim
    | dK _ => exact h.elim
    | ins C' dx fs =>
      obtain ⟨rfl, h2, h3⟩ := h
      exact ⟨dx, fs, rfl, h2, h3⟩
theorem pd_meth {k : Nat} {f C : Addr} {fd : FuncData} {ps : List Str} {sd : DSp} {m : Str} {apos : Pos} {o e : Expr} {es : List Expr} {de : DE} {da : DA} {pl : Sem Bool} (ho : PD X W w o de) (c : Cls X.K C) (hm : Meth X.K C m f) (F : FnOk X.prog X.w X.K X.mg X.base (CX X.prog X.w) k f fd ps (liftS X.K sd)) (hr : Room k X.A) (hb : Binds X.K fd ps []) (tk : Takes X W)
    (ha : PDA X W w (e :: es) da) (hst : starEach (e :: es) X.env = (false, eval e X.env) :: starEach es X.env := by rfl) (hpl : (backTo pos (starEach es X.env)).any (·.1) = false := by rfl)
    (ht : eval (.Call (.Attribute o m apos) (e :: es) [] pos) X.env = (do
      let ov ← eval o X.env
      standAt apos.atName
      let (f, first) ← holding [ov] (getMethod ov m pl)
      callWith pos f first (backTo pos (starEach (e :: es) X.env)) (backToKw pos (keywordEach [] X.env))) := by rfl) :
    PD X W w (.Call (.Attribute o m apos) (e :: es) [] pos) (dMeth C m w sd de da) := by
  obtain ⟨to, p0, l0⟩ := ho.ex
  obtain ⟨ta, p1, l1⟩ := ha.ex
  refine ⟨⟨_, pe_methSD p0 c hm F hr hb .nil (E := WE W) (fun σ => passAt tk σ) p1 hst hpl ht, fun σ δ I H M Q R hs ok q k => l0 σ δ I H M _ _ hs ok q fun d M1 v I1 H1 s1 ok1 r1 q1 => ?_⟩⟩
  cases d <;> try exact q1.elim
  rename_i a
  cases r1
  obtain ⟨dx, gs, e1, e2, q1⟩ := methO_inv (C := C) (m := m) (N := kMeth1 w sd da δ Q a) (M := M1) (o := M1 a) q1
  obtain ⟨_, fs, h2, r2, _⟩ := ok1.ins e1
  refine ⟨a, dx, fs, rfl, h2, r2.no e2, l1 σ δ I1 H1 M1 _ _ (hs.mono s1) ok1 q1 fun ds M2 vs I2 H2 s2 ok2 r3 q2 => ?_⟩
  rw [List.append_nil]
  exact sd_call (hs.mono (s1.trans s2)) ok2 (.cons (.ref a) r3) q2 (k.mono (s1.trans s2))
theorem pd_meth0 {k : Nat} {f C : Addr} {fd : FuncData} {ps : List Str} {sd : DSp} {m : Str} {apos : Pos} {o : Expr} {de : DE} {pl : Sem Bool} (ho : PD X W w o de) (c : Cls X.K C) (hm : Meth X.K C m f) (F : FnOk X.prog X.w X.K X.mg X.base (CX X.prog X.w) k f fd ps (liftS X.K sd)) (hr : Room k X.A) (hb : Binds X.K fd ps []) (tk : Takes X W)
    (ht : eval (.Call (.Attribute o m apos) [] [] pos) X.env = (do
      let ov ← eval o X.env
      standAt apos.atName
      let (f, first) ← holding [ov] (getMethod ov m pl)
      callWith pos f first (backTo pos (starEach [] X.env)) (backToKw pos (keywordEach [] X.env))) := by rfl) :
    PD X W w (.Call (.Attribute o m apos) [] [] pos) (dMeth C m w sd de dNil) := by
  obtain ⟨to, p0, l0⟩ := ho.ex
  refine ⟨⟨_, pe_methSD0 p0 c hm F hr hb .nil (E := WE W) (fun σ => passAt tk σ) ht, fun σ δ I H M Q R hs ok q k => l0 σ δ I H M _ _ hs ok q fun d M1 v I1 H1 s1 ok1 r1 q1 => ?_⟩⟩
  cases d <;> try exact q1.elim
  rename_i a
  cases r1
  obtain ⟨dx, gs, e1, e2, q1⟩ := methO_inv (C := C) (m := m) (N := kMeth1 w sd dNil δ Q a) (M := M1) (o := M1 a) q1
  obtain ⟨_, fs, h2, r2, _⟩ := ok1.ins e1
  refine ⟨a, dx, fs, rfl, h2, r2.no e2, ?_⟩
  show liftS _ _ _ _ _ _
  exact sd_call (hs.mono s1) ok1 (.cons (.ref a) .nil) q1 (k.mono s1)
/-- C(e, ..), an __init__ that raises nothing -/
@[simp ↓] def kMade (x : Addr) (Q : DK) : DK := fun v M2 => v = .non ∧ Q (.ref x) M2
@[simp ↓] def kMake (C : Addr) (sd : DSp) (Q : DK) : List Dt → DM → Prop := fun ds M1 => ∀ x dx, M1 x = none → sd (.ref x :: ds) (updM M1 x (.ins C dx [])) (kMade x Q) fun _ _ _ => False
@[simp ↓] def dMake (C : Addr) (sd : DSp) (da : DA) : DE := fun δ M Q => da δ M (kMake C sd Q)
theorem pd_make {k : Nat} {f C : Addr} {fd : FuncData} {ps : List Str} {sd : DSp} {x : Str} {p : Pos} {e : Expr} {es : List Expr} {da : DA} (hM : Mk X.K C f) (c : Cls X.K C) (F : FnOk X.prog X.w X.K X.mg X.base (CX X.prog X.w) k f fd ps (liftS X.K sd)) (hr : Room (k + 1) X.A) (hm : X.mg x = some (.ref C)) (hb : Binds X.K fd ps [])
    (ha : PDA X W w (e :: es) da) (hg : Gl X x := by rfl) (hdb : (x == ("__debug__" : Str)) = false := by decide) (he : starEach (e :: es) X.env = (false, eval e X.env) :: starEach es X.env := by rfl) (hpl : (backTo pos (starEach es X.env)).any (·.1) = false := by rfl) :
    PD X W w (.Call (.Name x p) (e :: es) [] pos) (dMake C sd da) := by
  obtain ⟨ta, p1, l1⟩ := ha.ex
  refine ⟨⟨_, pe_make hM F hr hg hm hb .nil (E := E0) passL p1 hdb he hpl, fun σ δ I H M Q R hs ok q k => l1 σ δ I H M _ _ hs ok q fun ds M1 vs I1 H1 s1 ok1 r1 q1 => ?_⟩⟩
  intro x dx hx hdx hne
  rw [List.append_nil]
  have ok2 := ok1.side (o := .own x) hdx
  have hx2 : upd H1 dx (.own x) x = none := by rw [upd_ne (Ne.symm hne)]; exact hx
  have ok3 := ok2.put (ho := .ins C dx []) (o := .ins C dx []) (ok2.sub.free hx2) (.ins .nil c (fun _ _ h => by cases h) (Nat.zero_le _))
  refine ⟨_, I1, _, _, _, .cons (.ref x) r1, ok3, q1 x dx (ok2.fresh hx2), ?_, fun _ _ _ _ _ _ _ _ _ _ _ h => h.elim⟩
  rintro d M2 v I2 H2 s2 ok4 r2 ⟨e, q2⟩
  subst e
  cases r2
  exact ⟨rfl, k _ _ _ I2 H2 (s1.trans s2) ok4 (.ref x) q2⟩
/-- raise nm(e) -/
@[simp ↓] def kRaise (C : Addr) (w : WD) (δ : DS) : List Dt → DM → Prop
  | [d], M => w C d δ M
  | _, _ => False
@[simp ↓] def dRaise (C : Addr) (w : WD) (da : DA) : DStm := fun _ δ M => da δ M (kRaise C w δ)
theorem pds_raise {C fI : Addr} {nm : Str} {a : Expr} {da : DA} {p pos2 : Pos} {k : Nat} (hc : X.calm = true) (T : PySem.WireX.Txt X.prog X.K X.mg nm C fI) (hr : Room k X.A) (tk : Takes X W) (ha : PDA X W w [a] da) (hg : Gl X nm := by rfl) (hdb : (nm == ("__debug__" : Str)) = false := by decide)
    (he : starEach (a :: []) X.env = (false, eval a X.env) :: starEach [] X.env := by rfl) (hpl : (backTo pos (starEach [] X.env)).any (·.1) = false := by rfl) :
    PDS X W w (.Raise (some (.Call (.Name nm p) [a] [] pos)) none pos2) (dRaise C w da) := by
  obtain ⟨ta, p1, l1⟩ := ha.ex
  refine ⟨⟨_, ps_raiseW hc T hr tk p1 hg hdb he hpl, fun D E σ δ I H M re hs ok q => l1 σ δ I H M _ _ hs ok q fun ds M1 vs I1 H1 s1 ok1 r1 q1 => ?_⟩⟩
  match ds, r1, q1 with
  | [d], .cons (v := v) r1 .nil, q1 =>
    refine ⟨v, rfl, fun dx hdx => ?_⟩
    exact hs.lw C d δ M1 σ v dx I1 _ s1 (hs.sl.mono s1) (ok1.side hdx) upd_same r1 q1
  | [], _, q1 => exact q1.elim
/-! ### a def keeps its promise -/
@[simp] def startD (n : Nat) (ds : List Dt) : DS := ds.map some ++ List.replicate (n - ds.length) none
theorem sl_start {K : PySem.W.Frag} {I : Hp} (N : List Str) {vs : List V} {ds : List Dt} (r : Rls K I vs ds) : Sl K I (L2.start N vs) (startD N.length ds) := by
  unfold L2.start startD
  rw [r.len]
  have h1 : ∀ {vs : List V} {ds : List Dt}, Rls K I vs ds → Sl K I (vs.map some) (ds.map some) := by
    intro vs ds r
    induction vs generalizing ds with
    | nil => cases r; exact .nil
    | cons v vs ih => cases r with | cons r t => exact .cons r (ih t)
  have h2 : ∀ n, Sl K I (List.replicate n none) (List.replicate n none) := by
    intro n
    induction n with
    | zero => exact .nil
    | succ n ih => exact .cons (by trivial) ih
  have h3 : ∀ {a b : L2.St} {c d : DS}, Sl K I a c → Sl K I b d → Sl K I (a ++ b) (c ++ d) := by
    intro a b c d h k
    induction a generalizing c with
    | nil => cases h; exact k
    | cons x a ih => cases h with | cons r t => exact .cons r (ih t)
  exact h3 (h1 r) (h2 _)
/-- what a def leaves behind need not be told -/
def Sub (M M' : DM) : Prop := ∀ a o, M a = some o → M' a = some o
theorem Sub.refl (M : DM) : Sub M M := fun _ _ h => h
theorem Sub.new {M : DM} {p : Addr} {o : MO} (h : M p = none) : Sub M (updM M p o) := fun a u e => by
  rw [updM_ne (fun z => by rw [z, h] at e; cases e)]
  exact e
theorem Sub.trans {M M' M'' : DM} (h : Sub M M') (k : Sub M' M'') : Sub M M'' := fun a o e => k a o (h a o e)
theorem Ok.sub' {K : PySem.W.Frag} {I H : Hp} {M M' : DM} (ok : Ok K I H M') (s : Sub M M') : Ok K I H M := ⟨ok.sub, fun a o e => ok.cel a o (s a o e)⟩
def Qg (Q : DK) : DK := fun v M => ∃ M2, Sub M2 M ∧ Q v M2
def Eg (E : Addr → Dt → DM → Prop) : Addr → Dt → DM → Prop := fun C d M => ∃ M2, Sub M2 M ∧ E C d M2
theorem fn_okD {P : Program} {wd : World} {K : PySem.W.Frag} {mg : Str → Option Value} {base : Heap} {x qual : Str} {st : Stmt} {f : Addr} {fd : FuncData} {N ps : List Str} {k : Nat} {sd : DSp} {dt : WD → DStm} (F : Fun K x qual st f fd) (S : FnScope N ps (defScope st))
    (hl : ∀ ds M Q E, sd ds M Q E → ds.length = ps.length)
    (hb : ∀ (cdv : Value) (A : Around) (outer : List Env) (s : Shared) (H : Hp) (E : XK) (w : WD), Room k (A.deeper (PyProof.Rows.envOfC qual (defScope st) s.heap.objs.size f cdv)) → Takes (cxOf (CX P wd) P wd K mg base N qual (defScope st) f cdv A outer s H E) (fun cls d _ H => E cls d H) →
      PDSs (cxOf (CX P wd) P wd K mg base N qual (defScope st) f cdv A outer s H E) (fun cls d _ H => E cls d H) w (defBody st) (dt w))
    (hq : ∀ ds M Q E, sd ds M Q E → dt (fun C d _ M => Eg E C d M) { nx := fun _ M => Qg Q .non M, rt := Qg Q } (startD N.length ds) M) : FnOk P wd K mg base (CX P wd) (k + 1) f fd ps (liftS K sd) := by
  refine F.okX S (fun vs H Q E h => ?_) (fun cdv A outer s H vs Q E hr h => ?_)
  · obtain ⟨ds, I, M, Q0, E0, r, ok, h, _⟩ := h
    rw [r.len]
    exact hl _ _ _ _ h
  · obtain ⟨ds, I, M, Q0, E0, r, ok, h, kQ, kE⟩ := h
    obtain ⟨t, p, l⟩ := (hb cdv A outer s H E (fun C d _ M => Eg E0 C d M) hr (takes_of rfl rfl rfl rfl)).ex
    refine ⟨t, p, l { nx := fun _ M => Qg Q0 .non M, rt := Qg Q0 } _ (L2.start N vs) (startD N.length ds) I H M ⟨?_, ?_, ?_, ?_⟩ ⟨sl_start N r, ?_⟩ ok (hq _ _ _ _ h)⟩
    · rintro δ M1 σ I1 H1 s1 _ ok1 ⟨M2, sb, q1⟩
      exact kQ .non M2 .non I1 H1 s1 (ok1.sub' sb) .non q1
    · rintro d M1 v I1 H1 s1 ok1 r1 ⟨M2, sb, q1⟩
      exact kQ d M2 v I1 H1 s1 (ok1.sub' sb) r1 q1
    · intro δ M1 σ I1 H1 s1 _ ok1 q1; exact q1
    · intro δ M1 σ I1 H1 s1 _ ok1 q1; exact q1
    · rintro C d δ M1 σ v dx I1 H1 s1 _ ok1 hx rv ⟨M2, sb, q1⟩
      exact kE C d M2 v dx I1 H1 s1 (ok1.sub' sb) hx rv q1
theorem fn_never {P : Program} {wd : World} {K : PySem.W.Frag} {mg : Str → Option Value} {base : Heap} {CX : CXT} {k : Nat} {f : Addr} {fd : FuncData} {ps : List Str} : FnOk P wd K mg base CX k f fd ps (liftS K fun _ _ _ _ => False) :=
  ⟨fun vs H Q E ⟨_, _, _, _, _, _, _, h, _⟩ => h.elim, fun _ _ _ _ _ _ _ _ _ _ _ _ _ ⟨_, _, _, _, _, _, _, h, _⟩ => h.elim⟩
/-! ### try: .. return ..; except nm as e: return (word, e.at) -/
@[simp ↓] def wTry (C : Addr) (i : Nat) (word : Str) (R : DK) : WD := fun C' d δ' M' => C' = C ∧ i < δ'.length ∧ 2 ≤ sizeLine ∧ R (.tup [.str word, d]) M'
@[simp ↓] def dTryAt (C : Addr) (i : Nat) (word : Str) (db : WD → DStm) : DStm := fun D δ M => db (wTry C i word D.rt) D δ M
theorem pds_tryAt {C fI : Addr} {nm n : Str} {i : Nat} {db : WD → DStm} {body : List Stmt} {word : Str} {np pos' p1 p2 p3 p4 p5 : Pos} {kd} {k1 : Nat} (T : PySem.WireX.Txt X.prog X.K X.mg nm C fI) (hst : X.stack = X.env :: X.outer) (hfr : X.env.frame = some X.env.locals) (hN : X.N.Nodup) (hi : X.N[i]? = some n) (hk : X.env.kindOf n = some .local) (hx : Names X nm (.ref C))
    (hv : Vis X.env.scope n) (hd1 : (n == ("__debug__" : Str)) = false := by decide) (hd2 : (n == ("__classdict__" : Str)) = false := by decide)
    (hb : ∀ (W : WX) (w : WD) (pn : List (Addr × Obj)) (xe : Value → Shared → Prop), Takes (X.tr pn xe) W → PassesOwn (model X.prog X.w) X.A X.env xe → PDSs (X.tr pn xe) W w body (db w))
    (he : ∀ (pn : List (Addr × Obj)) (a : Addr), attributeBase (.Name n p3) "at" (X.suite a pn).env (eval (.Name n p3) (X.suite a pn).env) = eval (.Name n p3) (X.suite a pn).env := by intro _ _; rfl)
    (hs1 : ∀ (pn : List (Addr × Obj)) (a : Addr), starEach [.Constant (.str word) kd p2, .Attribute (.Name n p3) "at" p4] (X.suite a pn).env = (false, eval (.Constant (.str word) kd p2) (X.suite a pn).env) :: starEach [.Attribute (.Name n p3) "at" p4] (X.suite a pn).env := by intro _ _; rfl)
    (hs2 : ∀ (pn : List (Addr × Obj)) (a : Addr), starEach [.Attribute (.Name n p3) "at" p4] (X.suite a pn).env = (false, eval (.Attribute (.Name n p3) "at" p4) (X.suite a pn).env) :: starEach [] (X.suite a pn).env := by intro _ _; rfl) :
    PDS X W w (.Try body [.ExceptHandler (some (.Name nm np)) (some n) [.Return (some (.Tuple [.Constant (.str word) kd p2, .Attribute (.Name n p3) "at" p4] k1 p5)) p1] pos'] [] [] pos) (dTryAt C i word db) := by
  let tb : WX → TS := fun W => fun E σ H => ∃ (w : WD) (D : DEnds) (δ : DS) (I : Hp) (M : DM), RE X.K I D E ∧ Cn X.K W w I σ δ ∧ Ok X.K I H M ∧ db w D δ M
  let ts : Addr → Value → Option Addr → TS := fun a cls d => tRet (tTup (tCons (tC (.str word)) (tCons (tAtW C a cls d (tVar i)) tNil)))
  refine ⟨⟨_, ps_try_as (tb := tb) (ts := ts) (Wout := fun _ _ _ _ => False) hst hfr hN hi hk hx takes0 (fun W pn xe tk po => ?_) (fun a oe cls d pn hz hf => ?_), fun D E σ δ I H M re hs ok q => ?_⟩⟩
  · refine ⟨fun pins s σ H D I ⟨w, D', δ, I', M, h1, h2, h3, h4⟩ => ?_⟩
    obtain ⟨t, p, l⟩ := (hb W w pn xe tk po).ex
    exact p.run pins s σ H D I (l D' D σ δ I' H M h1 h2 h3 h4)
  · exact pss_one (ps_ret (pe_tup (pa_cons pe_str (pa_cons (pe_atW T hz hf (pe_var hi hv hd1 hd2) (he ((a, oe) :: pn) a)) pa_nil (hs2 ((a, oe) :: pn) a)) (hs1 ((a, oe) :: pn) a))))
  · show tb _ E σ H
    refine ⟨_, D, δ, I, M, re, ⟨hs.sl, ?_⟩, ok, q⟩
    intro C' d δ' M' σ' v dx I' H' s' sl' ok' hx' rv hw
    obtain ⟨rfl, hln, hz, hw⟩ := hw
    refine ⟨true, T.te, fun _ a ha => ?_, fun z => nomatch z⟩
    have hlen : i < σ'.length := by
      rw [paired_len sl']
      exact hln
    refine ⟨.ref a, ?_, rfl, rfl, dx, v, rfl, hx', ?_⟩
    · rw [List.getElem?_set]
      simp [hlen]
    · refine ⟨hz, fun p hp => ?_⟩
      exact (re.rt.mono s').new ok' hw (rl_tup (.cons (.str _) (.cons rv .nil))) p hp
end
end DL

namespace DL
open PySem L2
section
variable {X : Cx} {W : WX} {w : WD} {pos : Pos} {a b : Expr} {da db : DE} {k : Nat}
theorem pd_globI {x : Str} {n : Int} {t : Tok} (hm : X.mg x = some (.int n t)) (hg : Gl X x := by rfl) (hd : (x == ("__debug__" : Str)) = false := by decide) : PD X W w (.Name x pos) (dC (.int n)) := pd_glob (v := .int n) (d := .int n) hg hm ⟨t, rfl⟩ (fun _ => .int _) hd
theorem op_dMul : ∃ r, OpR X (binaryOp .Mult) r ∧ L2r X.K r dMul := by
  refine ⟨_, op_mulW.or op_rep, fun I H M x y dx dy Q R ok rx ry h k => ?_⟩
  cases dx <;> cases dy <;> try exact h.elim
  · cases rx; cases ry
    exact .inl ⟨_, _, rfl, rfl, h.1, k.now ok (.int _) h.2⟩
  · cases ry
    cases rx with
    | lst h1 r =>
      refine .inr ⟨_, _, _, rfl, rfl, ok.sub _ _ h1, h.1, h.2.1, by rw [r.len]; exact h.2.2.1, k.new ok h.2.2.2 (rl_lst (rls_rep r _))⟩
theorem pd_mul (ha : PD X W w a da) (hb : PD X W w b db) : PD X W w (.BinOp a .Mult b pos) (dOp dMul da db) := by
  obtain ⟨r, h1, h2⟩ := op_dMul (X := X)
  exact pd_op h1 h2 ha hb
theorem pd_lt (ha : PD X W w a da) (hb : PD X W w b db) : PD X W w (.Compare a [.Lt] [b] pos) (dOp dLt da db) := pd_cmp op_lt l2_cmpI ha hb (nomark _)
theorem pd_le (ha : PD X W w a da) (hb : PD X W w b db) : PD X W w (.Compare a [.LtE] [b] pos) (dOp dLe da db) := pd_cmp op_le l2_cmpI ha hb (nomark _)
theorem pd_gt (ha : PD X W w a da) (hb : PD X W w b db) : PD X W w (.Compare a [.Gt] [b] pos) (dOp dGt da db) := pd_cmp op_gt l2_cmpI ha hb (nomark _)
theorem pd_ge (ha : PD X W w a da) (hb : PD X W w b db) : PD X W w (.Compare a [.GtE] [b] pos) (dOp dGe da db) := pd_cmp op_ge l2_cmpI ha hb (nomark _)
theorem pdt_lt (ha : PD X W w a da) (hb : PD X W w b db) : PDT X W w (.Compare a [.Lt] [b] pos) (dTest (dOp dLt da db)) := pdt_cmp op_lt l2_cmpI ha hb (nomark _)
theorem pdt_le (ha : PD X W w a da) (hb : PD X W w b db) : PDT X W w (.Compare a [.LtE] [b] pos) (dTest (dOp dLe da db)) := pdt_cmp op_le l2_cmpI ha hb (nomark _)
theorem pdt_gt (ha : PD X W w a da) (hb : PD X W w b db) : PDT X W w (.Compare a [.Gt] [b] pos) (dTest (dOp dGt da db)) := pdt_cmp op_gt l2_cmpI ha hb (nomark _)
theorem pdt_ge (ha : PD X W w a da) (hb : PD X W w b db) : PDT X W w (.Compare a [.GtE] [b] pos) (dTest (dOp dGe da db)) := pdt_cmp op_ge l2_cmpI ha hb (nomark _)
theorem pd_eq (hr : Room k X.A) (ha : PD X W w a da) (hb : PD X W w b db) : PD X W w (.Compare a [.Eq] [b] pos) (dOp (dEq false) da db) := by
  obtain ⟨r, h1, h2⟩ := op_dEq (X := X) hr.units
  exact pd_cmp h1 h2 ha hb (nomark _)
theorem pd_ne (hr : Room k X.A) (ha : PD X W w a da) (hb : PD X W w b db) : PD X W w (.Compare a [.NotEq] [b] pos) (dOp (dEq true) da db) := by
  obtain ⟨r, h1, h2⟩ := op_dNe (X := X) hr.units
  exact pd_cmp h1 h2 ha hb (nomark _)
theorem pdt_eq (hr : Room k X.A) (ha : PD X W w a da) (hb : PD X W w b db) : PDT X W w (.Compare a [.Eq] [b] pos) (dTest (dOp (dEq false) da db)) := by
  obtain ⟨r, h1, h2⟩ := op_dEq (X := X) hr.units
  exact pdt_cmp h1 h2 ha hb (nomark _)
theorem pdt_ne (hr : Room k X.A) (ha : PD X W w a da) (hb : PD X W w b db) : PDT X W w (.Compare a [.NotEq] [b] pos) (dTest (dOp (dEq true) da db)) := by
  obtain ⟨r, h1, h2⟩ := op_dNe (X := X) hr.units
  exact pdt_cmp h1 h2 ha hb (nomark _)
theorem pd_is (ha : PD X W w a da) (hb : PD X W w b db) : PD X W w (.Compare a [.Is] [b] pos) (dOp (dIs false) da db) := by
  obtain ⟨r, h1, h2⟩ := op_dIs (X := X)
  exact pd_cmp h1 h2 ha hb (nomark _)
theorem pd_isnot (ha : PD X W w a da) (hb : PD X W w b db) : PD X W w (.Compare a [.IsNot] [b] pos) (dOp (dIs true) da db) := by
  obtain ⟨r, h1, h2⟩ := op_dIsNot (X := X)
  exact pd_cmp h1 h2 ha hb (nomark _)
theorem pdt_is (ha : PD X W w a da) (hb : PD X W w b db) : PDT X W w (.Compare a [.Is] [b] pos) (dTest (dOp (dIs false) da db)) := by
  obtain ⟨r, h1, h2⟩ := op_dIs (X := X)
  exact pdt_cmp h1 h2 ha hb (nomark _)
theorem pdt_isnot (ha : PD X W w a da) (hb : PD X W w b db) : PDT X W w (.Compare a [.IsNot] [b] pos) (dTest (dOp (dIs true) da db)) := by
  obtain ⟨r, h1, h2⟩ := op_dIsNot (X := X)
  exact pdt_cmp h1 h2 ha hb (nomark _)
theorem pd_in (ha : PD X W w a da) (hb : PD X W w b db) (hm : behindInMarks .In b = false := by rfl) : PD X W w (.Compare a [.In] [b] pos) (dOp (dIn false) da db) := pd_cmp op_in_seq l2_in ha hb hm
theorem pd_notin (ha : PD X W w a da) (hb : PD X W w b db) (hm : behindInMarks .NotIn b = false := by rfl) : PD X W w (.Compare a [.NotIn] [b] pos) (dOp (dIn true) da db) := pd_cmp op_notIn_seq l2_in ha hb hm
theorem pdt_in (ha : PD X W w a da) (hb : PD X W w b db) (hm : behindInMarks .In b = false := by rfl) : PDT X W w (.Compare a [.In] [b] pos) (dTest (dOp (dIn false) da db)) := pdt_cmp op_in_seq l2_in ha hb hm
theorem pdt_notin (ha : PD X W w a da) (hb : PD X W w b db) (hm : behindInMarks .NotIn b = false := by rfl) : PDT X W w (.Compare a [.NotIn] [b] pos) (dTest (dOp (dIn true) da db)) := pdt_cmp op_notIn_seq l2_in ha hb hm
end
end DL
namespace L2
open PySem PySem.Spec PyProof.Rows
section
variable {X : Cx} {o : Expr} {f : Str} {pos : Pos} {ta : TE}
/-- o.f as a target -/
def gFld (K : PySem.W.Frag) (ta : TE) (f : Str) : TG := fun v σ H Q => ta σ H fun x H1 => ∃ a C dx fs, x = .ref a ∧ H1 a = some (.ins C dx fs) ∧ Cls K C ∧ NoAttr K C f ∧ fs.length < 1000 ∧ Q σ (upd H1 a (.ins C dx (putF f v fs)))
theorem pg_fld (ho : PE X o ta) : PG X (.Attribute o f pos) (gFld X.K ta f) := by
  refine ⟨fun pins s σ H v u Q I r h => ?_⟩
  rw [PySem.assign_Attribute]
  refine wpAny_bind (wpAny_holding (thn (ho.run pins s σ H _ I h) fun ov s1 ⟨x, H1, I1, r1, a, C, dx, fs, ex, ea, c, n, l, q2⟩ => ?_))
  subst ex
  obtain rfl : ov = Value.ref a := r1
  refine wpAny_bind (wpAny_standAt (wpAny_bind (wpAny_holding (setattr_ok I1 ea c n l r fun s3 I3 => ?_))))
  exact wpAny_release ⟨σ, _, I3, q2⟩
end
end L2
namespace DL
open PySem L2
section
variable {X : Cx} {W : WX} {w : WD} {pos : Pos}
@[simp ↓] def dgFld (de : DE) (f : Str) : DG := fun d δ M Q => de δ M (kPut f d (Q δ))
theorem pdg_fld {o : Expr} {f : Str} {da : DE} (ho : PD X W w o da) : PDG X W w (.Attribute o f pos) (dgFld da f) [] := by
  obtain ⟨to, p1, l1⟩ := ho.ex
  refine ⟨⟨_, pg_fld p1, fun σ δ I H M v d Q R hs ok rr q k => ?_⟩⟩
  refine l1 σ δ I H M _ _ hs ok q fun od M2 ov I2 H2 s2 ok2 r2 q2 => ?_
  cases od <;> try exact q2.elim
  rename_i a
  cases r2
  have q2 : putO f d a (Q δ) M2 (M2 a) := q2
  cases e : M2 a with
  | none => rw [e] at q2; exact q2.elim
  | some o =>
    rw [e] at q2
    cases o <;> try exact q2.elim
    rename_i C dx gs
    obtain ⟨hi, fs, h2, r, c, n, l⟩ := ok2.ins e
    cases e2 : gs.lookup f with
    | none => simp only [putO, e2] at q2
    | some x =>
      simp only [putO, e2] at q2
      have nf := n _ _ (mem_look e2)
      refine ⟨a, C, dx, fs, rfl, h2, c, nf, ?_, k δ _ σ I2 _ s2 (hs.sl.mono s2) (ok2.putFld hi r c n l (rr.mono s2) nf (by rw [putA_len' e2]; exact l)) (fun _ _ => rfl) q2⟩
      have := paired_len r
      omega
end
end DL

namespace DL
open PySem L2
@[simp ↓] theorem dVar_zero (d : Dt) (δ : DS) (M : DM) (Q : DK) : dVar 0 (some d :: δ) M Q = Q d M := rfl
@[simp ↓] theorem dVar_succ (i : Nat) (x : Option Dt) (δ : DS) (M : DM) (Q : DK) : dVar (i + 1) (x :: δ) M Q = dVar i δ M Q := rfl
@[simp ↓] theorem dSeq_at (a b : DStm) (D : DEnds) (δ : DS) (M : DM) : dSeq a b D δ M = a { nx := b D, rt := D.rt, bk := D.bk, ct := D.ct } δ M := rfl
@[simp ↓] theorem dAugV_at (i : Nat) (de : DE) (D : DEnds) (δ : DS) (M : DM) : dAugV i de D δ M = dVar i δ M fun x M1 => match x with
  | .int a => de δ M1 (kAugV i a D δ)
  | _ => False := by
  unfold dAugV dVar
  cases h : δ[i]? with
  | none => rfl
  | some o =>
    cases o with
    | none => rfl
    | some d => cases d <;> rfl
@[simp] theorem walkD_nil (dg : DG) (db : DStm) (D : DEnds) (δ : DS) (M : DM) : walkD dg db D [] δ M = D.nx δ M := rfl
theorem walkD_cons (dg : DG) (db : DStm) (D : DEnds) (d : Dt) (ds : List Dt) (δ : DS) (M : DM) : walkD dg db D (d :: ds) δ M = dg d δ M fun δ' M' => db { nx := walkD dg db D ds, rt := D.rt, bk := D.nx, ct := walkD dg db D ds } δ' M' := rfl
@[simp ↓] theorem atI_0 {α : Type} (x : α) (xs : List α) : atI (x :: xs) (0 : Int) = some x := atI_nat (j := 0) rfl
@[simp ↓] theorem atI_1 {α : Type} (x y : α) (xs : List α) : atI (x :: y :: xs) (1 : Int) = some y := atI_nat (j := 1) rfl
@[simp ↓] theorem atI_2 {α : Type} (x y z : α) (xs : List α) : atI (x :: y :: z :: xs) (2 : Int) = some z := atI_nat (j := 2) rfl
@[simp ↓] theorem atI_3 {α : Type} (x y z u : α) (xs : List α) : atI (x :: y :: z :: u :: xs) (3 : Int) = some u := atI_nat (j := 3) rfl
@[simp ↓] theorem atI_4 {α : Type} (x y z u v : α) (xs : List α) : atI (x :: y :: z :: u :: v :: xs) (4 : Int) = some v := atI_nat (j := 4) rfl
@[simp] theorem kitB_int_int : kitB "int" "int" = some true := by decide +kernel
@[simp] theorem kitB_int_bool : kitB "int" "bool" = some false := by decide +kernel
/-! pairs of ints -/
def pr (p : Int × Int) : Dt := .tup [.int p.1, .int p.2]
abbrev rgs (rs : List (Int × Int)) : Dt := .lst (rs.map pr)
theorem sizeLine_big : 10000000 ≤ sizeLine := by decide
end DL

namespace K23
open PySem L2 DL
def top (i : Nat) : Stmt := PySem.Challenge.pw_fairwire_k23_streams_broken_off.main.body.getD i (.Pass ⟨0, 0, 0, 0⟩)
abbrev s_put_range : Stmt := top 6
abbrev N_put_range : List Str := ["ranges", "low", "high", "found", "one", "other"]
abbrev P_put_range : List Str := ["ranges", "low", "high"]
theorem sc_put_range : FnScope N_put_range P_put_range (defScope s_put_range) := ⟨rfl, rfl, rfl, by decide +kernel, rfl, by decide +kernel, by decide +kernel⟩
abbrev s_drop_range : Stmt := top 7
abbrev N_drop_range : List Str := ["ranges", "low", "high", "found", "one", "other", "pair"]
abbrev P_drop_range : List Str := ["ranges", "low", "high"]
theorem sc_drop_range : FnScope N_drop_range P_drop_range (defScope s_drop_range) := ⟨rfl, rfl, rfl, by decide +kernel, rfl, by decide +kernel, by decide +kernel⟩
abbrev s_drop_all : Stmt := top 9
abbrev N_drop_all : List Str := ["ranges", "others", "low", "high"]
abbrev P_drop_all : List Str := ["ranges", "others"]
theorem sc_drop_all : FnScope N_drop_all P_drop_all (defScope s_drop_all) := ⟨rfl, rfl, rfl, by decide +kernel, rfl, by decide +kernel, by decide +kernel⟩
abbrev s_gaps : Stmt := top 8
abbrev N_gaps : List Str := ["ranges", "low", "high"]
abbrev P_gaps : List Str := ["ranges", "low", "high"]
theorem sc_gaps : FnScope N_gaps P_gaps (defScope s_gaps) := ⟨rfl, rfl, rfl, by decide +kernel, rfl, by decide +kernel, by decide +kernel⟩
abbrev s_count : Stmt := top 10
abbrev N_count : List Str := ["ranges", "low", "high"]
abbrev P_count : List Str := ["ranges"]
theorem sc_count : FnScope N_count P_count (defScope s_count) := ⟨rfl, rfl, rfl, by decide +kernel, rfl, by decide +kernel, by decide +kernel⟩
abbrev s_Outgoing___init__ : Stmt := inClass (top 13) 0
abbrev N_Outgoing___init__ : List Str := ["self", "stream", "keep"]
abbrev P_Outgoing___init__ : List Str := ["self", "stream", "keep"]
theorem sc_Outgoing___init__ : FnScope N_Outgoing___init__ P_Outgoing___init__ (defScope s_Outgoing___init__) := ⟨rfl, rfl, rfl, by decide +kernel, rfl, by decide +kernel, by decide +kernel⟩
abbrev s_Outgoing_must_stand : Stmt := inClass (top 13) 2
abbrev N_Outgoing_must_stand : List Str := ["self"]
abbrev P_Outgoing_must_stand : List Str := ["self"]
theorem sc_Outgoing_must_stand : FnScope N_Outgoing_must_stand P_Outgoing_must_stand (defScope s_Outgoing_must_stand) := ⟨rfl, rfl, rfl, by decide +kernel, rfl, by decide +kernel, by decide +kernel⟩
abbrev s_Outgoing_is_done : Stmt := inClass (top 13) 10
abbrev N_Outgoing_is_done : List Str := ["self"]
abbrev P_Outgoing_is_done : List Str := ["self"]
theorem sc_Outgoing_is_done : FnScope N_Outgoing_is_done P_Outgoing_is_done (defScope s_Outgoing_is_done) := ⟨rfl, rfl, rfl, by decide +kernel, rfl, by decide +kernel, by decide +kernel⟩
abbrev s_Outgoing_write : Stmt := inClass (top 13) 1
abbrev N_Outgoing_write : List Str := ["self", "octets", "many"]
abbrev P_Outgoing_write : List Str := ["self", "octets"]
theorem sc_Outgoing_write : FnScope N_Outgoing_write P_Outgoing_write (defScope s_Outgoing_write) := ⟨rfl, rfl, rfl, by decide +kernel, rfl, by decide +kernel, by decide +kernel⟩
abbrev s_Outgoing_breaks : Stmt := inClass (top 13) 3
abbrev N_Outgoing_breaks : List Str := ["self"]
abbrev P_Outgoing_breaks : List Str := ["self"]
theorem sc_Outgoing_breaks : FnScope N_Outgoing_breaks P_Outgoing_breaks (defScope s_Outgoing_breaks) := ⟨rfl, rfl, rfl, by decide +kernel, rfl, by decide +kernel, by decide +kernel⟩
abbrev s_Outgoing_finish : Stmt := inClass (top 13) 4
abbrev N_Outgoing_finish : List Str := ["self"]
abbrev P_Outgoing_finish : List Str := ["self"]
theorem sc_Outgoing_finish : FnScope N_Outgoing_finish P_Outgoing_finish (defScope s_Outgoing_finish) := ⟨rfl, rfl, rfl, by decide +kernel, rfl, by decide +kernel, by decide +kernel⟩
abbrev s_Outgoing_next_break : Stmt := inClass (top 13) 6
abbrev N_Outgoing_next_break : List Str := ["self"]
abbrev P_Outgoing_next_break : List Str := ["self"]
theorem sc_Outgoing_next_break : FnScope N_Outgoing_next_break P_Outgoing_next_break (defScope s_Outgoing_next_break) := ⟨rfl, rfl, rfl, by decide +kernel, rfl, by decide +kernel, by decide +kernel⟩
abbrev s_Outgoing_piece : Stmt := inClass (top 13) 7
abbrev N_Outgoing_piece : List Str := ["self", "low", "high", "is_last"]
abbrev P_Outgoing_piece : List Str := ["self", "low", "high"]
theorem sc_Outgoing_piece : FnScope N_Outgoing_piece P_Outgoing_piece (defScope s_Outgoing_piece) := ⟨rfl, rfl, rfl, by decide +kernel, rfl, by decide +kernel, by decide +kernel⟩
abbrev s_Outgoing_next : Stmt := inClass (top 13) 5
abbrev N_Outgoing_next : List Str := ["self", "most", "upto", "low", "high"]
abbrev P_Outgoing_next : List Str := ["self", "most", "upto"]
theorem sc_Outgoing_next : FnScope N_Outgoing_next P_Outgoing_next (defScope s_Outgoing_next) := ⟨rfl, rfl, rfl, by decide +kernel, rfl, by decide +kernel, by decide +kernel⟩
abbrev s_Outgoing_got : Stmt := inClass (top 13) 8
abbrev N_Outgoing_got : List Str := ["self", "piece", "low", "high", "here"]
abbrev P_Outgoing_got : List Str := ["self", "piece"]
theorem sc_Outgoing_got : FnScope N_Outgoing_got P_Outgoing_got (defScope s_Outgoing_got) := ⟨rfl, rfl, rfl, by decide +kernel, rfl, by decide +kernel, by decide +kernel⟩
abbrev s_Outgoing_lost : Stmt := inClass (top 13) 9
abbrev N_Outgoing_lost : List Str := ["self", "piece", "low", "high", "due", "one", "other"]
abbrev P_Outgoing_lost : List Str := ["self", "piece"]
theorem sc_Outgoing_lost : FnScope N_Outgoing_lost P_Outgoing_lost (defScope s_Outgoing_lost) := ⟨rfl, rfl, rfl, by decide +kernel, rfl, by decide +kernel, by decide +kernel⟩
abbrev s_Outgoing_is_due : Stmt := inClass (top 13) 11
abbrev N_Outgoing_is_due : List Str := ["self", "upto"]
abbrev P_Outgoing_is_due : List Str := ["self", "upto"]
theorem sc_Outgoing_is_due : FnScope N_Outgoing_is_due P_Outgoing_is_due (defScope s_Outgoing_is_due) := ⟨rfl, rfl, rfl, by decide +kernel, rfl, by decide +kernel, by decide +kernel⟩
abbrev s_Outgoing_memory : Stmt := inClass (top 13) 12
abbrev N_Outgoing_memory : List Str := ["self"]
abbrev P_Outgoing_memory : List Str := ["self"]
theorem sc_Outgoing_memory : FnScope N_Outgoing_memory P_Outgoing_memory (defScope s_Outgoing_memory) := ⟨rfl, rfl, rfl, by decide +kernel, rfl, by decide +kernel, by decide +kernel⟩
abbrev s_Incoming___init__ : Stmt := inClass (top 16) 0
abbrev N_Incoming___init__ : List Str := ["self", "stream", "room"]
abbrev P_Incoming___init__ : List Str := ["self", "stream", "room"]
theorem sc_Incoming___init__ : FnScope N_Incoming___init__ P_Incoming___init__ (defScope s_Incoming___init__) := ⟨rfl, rfl, rfl, by decide +kernel, rfl, by decide +kernel, by decide +kernel⟩
abbrev s_Incoming_wrong : Stmt := inClass (top 16) 1
abbrev N_Incoming_wrong : List Str := ["self", "piece", "high"]
abbrev P_Incoming_wrong : List Str := ["self", "piece"]
theorem sc_Incoming_wrong : FnScope N_Incoming_wrong P_Incoming_wrong (defScope s_Incoming_wrong) := ⟨rfl, rfl, rfl, by decide +kernel, rfl, by decide +kernel, by decide +kernel⟩
abbrev s_Incoming_ready : Stmt := inClass (top 16) 4
abbrev N_Incoming_ready : List Str := ["self"]
abbrev P_Incoming_ready : List Str := ["self"]
theorem sc_Incoming_ready : FnScope N_Incoming_ready P_Incoming_ready (defScope s_Incoming_ready) := ⟨rfl, rfl, rfl, by decide +kernel, rfl, by decide +kernel, by decide +kernel⟩
abbrev s_Incoming_is_whole : Stmt := inClass (top 16) 9
abbrev N_Incoming_is_whole : List Str := ["self"]
abbrev P_Incoming_is_whole : List Str := ["self"]
theorem sc_Incoming_is_whole : FnScope N_Incoming_is_whole P_Incoming_is_whole (defScope s_Incoming_is_whole) := ⟨rfl, rfl, rfl, by decide +kernel, rfl, by decide +kernel, by decide +kernel⟩
abbrev s_Incoming_take_break : Stmt := inClass (top 16) 3
abbrev N_Incoming_take_break : List Str := ["self", "size"]
abbrev P_Incoming_take_break : List Str := ["self", "size"]
theorem sc_Incoming_take_break : FnScope N_Incoming_take_break P_Incoming_take_break (defScope s_Incoming_take_break) := ⟨rfl, rfl, rfl, by decide +kernel, rfl, by decide +kernel, by decide +kernel⟩
abbrev s_Incoming_take : Stmt := inClass (top 16) 2
abbrev N_Incoming_take : List Str := ["self", "piece", "word", "low", "high", "one", "other"]
abbrev P_Incoming_take : List Str := ["self", "piece"]
theorem sc_Incoming_take : FnScope N_Incoming_take P_Incoming_take (defScope s_Incoming_take) := ⟨rfl, rfl, rfl, by decide +kernel, rfl, by decide +kernel, by decide +kernel⟩
abbrev s_Incoming_read : Stmt := inClass (top 16) 5
abbrev N_Incoming_read : List Str := ["self", "most", "many", "found", "low", "octets", "some", "rest", "high"]
abbrev P_Incoming_read : List Str := ["self", "most"]
theorem sc_Incoming_read : FnScope N_Incoming_read P_Incoming_read (defScope s_Incoming_read) := ⟨rfl, rfl, rfl, by decide +kernel, rfl, by decide +kernel, by decide +kernel⟩
abbrev s_Incoming_grown : Stmt := inClass (top 16) 6
abbrev N_Incoming_grown : List Str := ["self", "new"]
abbrev P_Incoming_grown : List Str := ["self"]
theorem sc_Incoming_grown : FnScope N_Incoming_grown P_Incoming_grown (defScope s_Incoming_grown) := ⟨rfl, rfl, rfl, by decide +kernel, rfl, by decide +kernel, by decide +kernel⟩
abbrev s_Incoming_let : Stmt := inClass (top 16) 7
abbrev N_Incoming_let : List Str := ["self", "upto"]
abbrev P_Incoming_let : List Str := ["self", "upto"]
theorem sc_Incoming_let : FnScope N_Incoming_let P_Incoming_let (defScope s_Incoming_let) := ⟨rfl, rfl, rfl, by decide +kernel, rfl, by decide +kernel, by decide +kernel⟩
abbrev s_Incoming_memory : Stmt := inClass (top 16) 10
abbrev N_Incoming_memory : List Str := ["self"]
abbrev P_Incoming_memory : List Str := ["self"]
theorem sc_Incoming_memory : FnScope N_Incoming_memory P_Incoming_memory (defScope s_Incoming_memory) := ⟨rfl, rfl, rfl, by decide +kernel, rfl, by decide +kernel, by decide +kernel⟩
abbrev s__law_draws : Stmt := top 18
abbrev N__law_draws : List Str := ["script"]
abbrev P__law_draws : List Str := ["script"]
theorem sc__law_draws : FnScope N__law_draws P__law_draws (defScope s__law_draws) := ⟨rfl, rfl, rfl, by decide +kernel, rfl, by decide +kernel, by decide +kernel⟩
abbrev s__law_draw : Stmt := top 19
abbrev N__law_draw : List Str := ["draws", "limit", "cell", "value"]
abbrev P__law_draw : List Str := ["draws", "limit"]
theorem sc__law_draw : FnScope N__law_draw P__law_draw (defScope s__law_draw) := ⟨rfl, rfl, rfl, by decide +kernel, rfl, by decide +kernel, by decide +kernel⟩
abbrev s__law_same : Stmt := top 20
abbrev N__law_same : List Str := ["x", "due", "right", "key", "at"]
abbrev P__law_same : List Str := ["x", "due"]
theorem sc__law_same : FnScope N__law_same P__law_same (defScope s__law_same) := ⟨rfl, rfl, rfl, by decide +kernel, rfl, by decide +kernel, by decide +kernel⟩
abbrev s__law_copy : Stmt := top 21
abbrev N__law_copy : List Str := ["thing", "found", "key", "part"]
abbrev P__law_copy : List Str := ["thing"]
theorem sc__law_copy : FnScope N__law_copy P__law_copy (defScope s__law_copy) := ⟨rfl, rfl, rfl, by decide +kernel, rfl, by decide +kernel, by decide +kernel⟩
abbrev s__law_refused : Stmt := top 22
abbrev N__law_refused : List Str := ["out", "word", "e"]
abbrev P__law_refused : List Str := ["out", "word"]
theorem sc__law_refused : FnScope N__law_refused P__law_refused (defScope s__law_refused) := ⟨rfl, rfl, rfl, by decide +kernel, rfl, by decide +kernel, by decide +kernel⟩
abbrev s__law_broken : Stmt := top 23
abbrev N__law_broken : List Str := ["draws", "out", "far", "told", "word"]
abbrev P__law_broken : List Str := ["draws", "out", "far"]
theorem sc__law_broken : FnScope N__law_broken P__law_broken (defScope s__law_broken) := ⟨rfl, rfl, rfl, by decide +kernel, rfl, by decide +kernel, by decide +kernel⟩
abbrev s_law : Stmt := top 24
abbrev N_law : List Str := ["script", "draws", "text", "room", "size", "breaking", "out", "into", "read", "flying", "far", "broken", "all_came", "now", "piece", "rest", "kind", "was_whole", "before", "new", "k"]
abbrev P_law : List Str := ["script"]
theorem sc_law : FnScope N_law P_law (defScope s_law) := ⟨rfl, rfl, rfl, by decide +kernel, rfl, by decide +kernel, by decide +kernel⟩
structure Ad where
  f_put_range : Addr
  fd_put_range : FuncData
  f_drop_range : Addr
  fd_drop_range : FuncData
  f_drop_all : Addr
  fd_drop_all : FuncData
  f_gaps : Addr
  fd_gaps : FuncData
  f_count : Addr
  fd_count : FuncData
  f_Outgoing___init__ : Addr
  fd_Outgoing___init__ : FuncData
  f_Outgoing_must_stand : Addr
  fd_Outgoing_must_stand : FuncData
  f_Outgoing_is_done : Addr
  fd_Outgoing_is_done : FuncData
  f_Outgoing_write : Addr
  fd_Outgoing_write : FuncData
  f_Outgoing_breaks : Addr
  fd_Outgoing_breaks : FuncData
  f_Outgoing_finish : Addr
  fd_Outgoing_finish : FuncData
  f_Outgoing_next_break : Addr
  fd_Outgoing_next_break : FuncData
  f_Outgoing_piece : Addr
  fd_Outgoing_piece : FuncData
  f_Outgoing_next : Addr
  fd_Outgoing_next : FuncData
  f_Outgoing_got : Addr
  fd_Outgoing_got : FuncData
  f_Outgoing_lost : Addr
  fd_Outgoing_lost : FuncData
  f_Outgoing_is_due : Addr
  fd_Outgoing_is_due : FuncData
  f_Outgoing_memory : Addr
  fd_Outgoing_memory : FuncData
  f_Incoming___init__ : Addr
  fd_Incoming___init__ : FuncData
  f_Incoming_wrong : Addr
  fd_Incoming_wrong : FuncData
  f_Incoming_ready : Addr
  fd_Incoming_ready : FuncData
  f_Incoming_is_whole : Addr
  fd_Incoming_is_whole : FuncData
  f_Incoming_take_break : Addr
  fd_Incoming_take_break : FuncData
  f_Incoming_take : Addr
  fd_Incoming_take : FuncData
  f_Incoming_read : Addr
  fd_Incoming_read : FuncData
  f_Incoming_grown : Addr
  fd_Incoming_grown : FuncData
  f_Incoming_let : Addr
  fd_Incoming_let : FuncData
  f_Incoming_memory : Addr
  fd_Incoming_memory : FuncData
  f__law_draws : Addr
  fd__law_draws : FuncData
  f__law_draw : Addr
  fd__law_draw : FuncData
  f__law_same : Addr
  fd__law_same : FuncData
  f__law_copy : Addr
  fd__law_copy : FuncData
  f__law_refused : Addr
  fd__law_refused : FuncData
  f__law_broken : Addr
  fd__law_broken : FuncData
  f_law : Addr
  fd_law : FuncData
  c_Outgoing : Addr
  c_Incoming : Addr
  c_Wrong : Addr
  c_DeedWrong : Addr
  f_WireError___init__ : Addr
  tk_FURTHEST_incoming : Nat
  tk_FURTHEST_outgoing : Nat
structure Facts (P : Program) (K : PySem.W.Frag) (mg : Str → Option Value) (A : Ad) : Prop where
  n_all : mg "all" = none
  n_bool : mg "bool" = none
  n_dict : mg "dict" = none
  n_int : mg "int" = none
  n_isinstance : mg "isinstance" = none
  n_len : mg "len" = none
  n_list : mg "list" = none
  n_max : mg "max" = none
  n_min : mg "min" = none
  n_range : mg "range" = none
  n_sorted : mg "sorted" = none
  n_str : mg "str" = none
  n_sum : mg "sum" = none
  n_tuple : mg "tuple" = none
  g_FURTHEST_incoming : mg "FURTHEST_incoming" = some (.int 16777215 A.tk_FURTHEST_incoming)
  g_FURTHEST_outgoing : mg "FURTHEST_outgoing" = some (.int 16777215 A.tk_FURTHEST_outgoing)
  F_put_range : Fun K "put_range" "put_range" s_put_range A.f_put_range A.fd_put_range
  b_put_range : Binds K A.fd_put_range P_put_range []
  g_put_range : mg "put_range" = some (.ref A.f_put_range)
  k_put_range : PySem.W.keepIn K (.ref A.f_put_range) = true
  F_drop_range : Fun K "drop_range" "drop_range" s_drop_range A.f_drop_range A.fd_drop_range
  b_drop_range : Binds K A.fd_drop_range P_drop_range []
  g_drop_range : mg "drop_range" = some (.ref A.f_drop_range)
  k_drop_range : PySem.W.keepIn K (.ref A.f_drop_range) = true
  F_drop_all : Fun K "drop_all" "drop_all" s_drop_all A.f_drop_all A.fd_drop_all
  b_drop_all : Binds K A.fd_drop_all P_drop_all []
  g_drop_all : mg "drop_all" = some (.ref A.f_drop_all)
  k_drop_all : PySem.W.keepIn K (.ref A.f_drop_all) = true
  F_gaps : Fun K "gaps" "gaps" s_gaps A.f_gaps A.fd_gaps
  b_gaps : Binds K A.fd_gaps P_gaps []
  g_gaps : mg "gaps" = some (.ref A.f_gaps)
  k_gaps : PySem.W.keepIn K (.ref A.f_gaps) = true
  F_count : Fun K "count" "count" s_count A.f_count A.fd_count
  b_count : Binds K A.fd_count P_count []
  g_count : mg "count" = some (.ref A.f_count)
  k_count : PySem.W.keepIn K (.ref A.f_count) = true
  F_Outgoing___init__ : Fun K "__init__" "Outgoing.__init__" s_Outgoing___init__ A.f_Outgoing___init__ A.fd_Outgoing___init__
  b_Outgoing___init__ : Binds K A.fd_Outgoing___init__ P_Outgoing___init__ []
  mk_Outgoing : Mk K A.c_Outgoing A.f_Outgoing___init__
  g_Outgoing : mg "Outgoing" = some (.ref A.c_Outgoing)
  F_Outgoing_must_stand : Fun K "must_stand" "Outgoing.must_stand" s_Outgoing_must_stand A.f_Outgoing_must_stand A.fd_Outgoing_must_stand
  b_Outgoing_must_stand : Binds K A.fd_Outgoing_must_stand P_Outgoing_must_stand []
  m_Outgoing_must_stand : Meth K A.c_Outgoing "must_stand" A.f_Outgoing_must_stand
  F_Outgoing_is_done : Fun K "is_done" "Outgoing.is_done" s_Outgoing_is_done A.f_Outgoing_is_done A.fd_Outgoing_is_done
  b_Outgoing_is_done : Binds K A.fd_Outgoing_is_done P_Outgoing_is_done []
  m_Outgoing_is_done : Meth K A.c_Outgoing "is_done" A.f_Outgoing_is_done
  F_Outgoing_write : Fun K "write" "Outgoing.write" s_Outgoing_write A.f_Outgoing_write A.fd_Outgoing_write
  b_Outgoing_write : Binds K A.fd_Outgoing_write P_Outgoing_write []
  m_Outgoing_write : Meth K A.c_Outgoing "write" A.f_Outgoing_write
  F_Outgoing_breaks : Fun K "breaks" "Outgoing.breaks" s_Outgoing_breaks A.f_Outgoing_breaks A.fd_Outgoing_breaks
  b_Outgoing_breaks : Binds K A.fd_Outgoing_breaks P_Outgoing_breaks []
  m_Outgoing_breaks : Meth K A.c_Outgoing "breaks" A.f_Outgoing_breaks
  F_Outgoing_finish : Fun K "finish" "Outgoing.finish" s_Outgoing_finish A.f_Outgoing_finish A.fd_Outgoing_finish
  b_Outgoing_finish : Binds K A.fd_Outgoing_finish P_Outgoing_finish []
  m_Outgoing_finish : Meth K A.c_Outgoing "finish" A.f_Outgoing_finish
  F_Outgoing_next_break : Fun K "next_break" "Outgoing.next_break" s_Outgoing_next_break A.f_Outgoing_next_break A.fd_Outgoing_next_break
  b_Outgoing_next_break : Binds K A.fd_Outgoing_next_break P_Outgoing_next_break []
  m_Outgoing_next_break : Meth K A.c_Outgoing "next_break" A.f_Outgoing_next_break
  F_Outgoing_piece : Fun K "piece" "Outgoing.piece" s_Outgoing_piece A.f_Outgoing_piece A.fd_Outgoing_piece
  b_Outgoing_piece : Binds K A.fd_Outgoing_piece P_Outgoing_piece []
  m_Outgoing_piece : Meth K A.c_Outgoing "piece" A.f_Outgoing_piece
  F_Outgoing_next : Fun K "next" "Outgoing.next" s_Outgoing_next A.f_Outgoing_next A.fd_Outgoing_next
  b_Outgoing_next : Binds K A.fd_Outgoing_next P_Outgoing_next []
  m_Outgoing_next : Meth K A.c_Outgoing "next" A.f_Outgoing_next
  F_Outgoing_got : Fun K "got" "Outgoing.got" s_Outgoing_got A.f_Outgoing_got A.fd_Outgoing_got
  b_Outgoing_got : Binds K A.fd_Outgoing_got P_Outgoing_got []
  m_Outgoing_got : Meth K A.c_Outgoing "got" A.f_Outgoing_got
  F_Outgoing_lost : Fun K "lost" "Outgoing.lost" s_Outgoing_lost A.f_Outgoing_lost A.fd_Outgoing_lost
  b_Outgoing_lost : Binds K A.fd_Outgoing_lost P_Outgoing_lost []
  m_Outgoing_lost : Meth K A.c_Outgoing "lost" A.f_Outgoing_lost
  F_Outgoing_is_due : Fun K "is_due" "Outgoing.is_due" s_Outgoing_is_due A.f_Outgoing_is_due A.fd_Outgoing_is_due
  b_Outgoing_is_due : Binds K A.fd_Outgoing_is_due P_Outgoing_is_due []
  m_Outgoing_is_due : Meth K A.c_Outgoing "is_due" A.f_Outgoing_is_due
  F_Outgoing_memory : Fun K "memory" "Outgoing.memory" s_Outgoing_memory A.f_Outgoing_memory A.fd_Outgoing_memory
  b_Outgoing_memory : Binds K A.fd_Outgoing_memory P_Outgoing_memory []
  m_Outgoing_memory : Meth K A.c_Outgoing "memory" A.f_Outgoing_memory
  F_Incoming___init__ : Fun K "__init__" "Incoming.__init__" s_Incoming___init__ A.f_Incoming___init__ A.fd_Incoming___init__
  b_Incoming___init__ : Binds K A.fd_Incoming___init__ P_Incoming___init__ []
  mk_Incoming : Mk K A.c_Incoming A.f_Incoming___init__
  g_Incoming : mg "Incoming" = some (.ref A.c_Incoming)
  F_Incoming_wrong : Fun K "wrong" "Incoming.wrong" s_Incoming_wrong A.f_Incoming_wrong A.fd_Incoming_wrong
  b_Incoming_wrong : Binds K A.fd_Incoming_wrong P_Incoming_wrong []
  m_Incoming_wrong : Meth K A.c_Incoming "wrong" A.f_Incoming_wrong
  F_Incoming_ready : Fun K "ready" "Incoming.ready" s_Incoming_ready A.f_Incoming_ready A.fd_Incoming_ready
  b_Incoming_ready : Binds K A.fd_Incoming_ready P_Incoming_ready []
  m_Incoming_ready : Meth K A.c_Incoming "ready" A.f_Incoming_ready
  F_Incoming_is_whole : Fun K "is_whole" "Incoming.is_whole" s_Incoming_is_whole A.f_Incoming_is_whole A.fd_Incoming_is_whole
  b_Incoming_is_whole : Binds K A.fd_Incoming_is_whole P_Incoming_is_whole []
  m_Incoming_is_whole : Meth K A.c_Incoming "is_whole" A.f_Incoming_is_whole
  F_Incoming_take_break : Fun K "take_break" "Incoming.take_break" s_Incoming_take_break A.f_Incoming_take_break A.fd_Incoming_take_break
  b_Incoming_take_break : Binds K A.fd_Incoming_take_break P_Incoming_take_break []
  m_Incoming_take_break : Meth K A.c_Incoming "take_break" A.f_Incoming_take_break
  F_Incoming_take : Fun K "take" "Incoming.take" s_Incoming_take A.f_Incoming_take A.fd_Incoming_take
  b_Incoming_take : Binds K A.fd_Incoming_take P_Incoming_take []
  m_Incoming_take : Meth K A.c_Incoming "take" A.f_Incoming_take
  F_Incoming_read : Fun K "read" "Incoming.read" s_Incoming_read A.f_Incoming_read A.fd_Incoming_read
  b_Incoming_read : Binds K A.fd_Incoming_read P_Incoming_read []
  m_Incoming_read : Meth K A.c_Incoming "read" A.f_Incoming_read
  F_Incoming_grown : Fun K "grown" "Incoming.grown" s_Incoming_grown A.f_Incoming_grown A.fd_Incoming_grown
  b_Incoming_grown : Binds K A.fd_Incoming_grown P_Incoming_grown []
  m_Incoming_grown : Meth K A.c_Incoming "grown" A.f_Incoming_grown
  F_Incoming_let : Fun K "let" "Incoming.let" s_Incoming_let A.f_Incoming_let A.fd_Incoming_let
  b_Incoming_let : Binds K A.fd_Incoming_let P_Incoming_let []
  m_Incoming_let : Meth K A.c_Incoming "let" A.f_Incoming_let
  F_Incoming_memory : Fun K "memory" "Incoming.memory" s_Incoming_memory A.f_Incoming_memory A.fd_Incoming_memory
  b_Incoming_memory : Binds K A.fd_Incoming_memory P_Incoming_memory []
  m_Incoming_memory : Meth K A.c_Incoming "memory" A.f_Incoming_memory
  F__law_draws : Fun K "_law_draws" "_law_draws" s__law_draws A.f__law_draws A.fd__law_draws
  b__law_draws : Binds K A.fd__law_draws P__law_draws []
  g__law_draws : mg "_law_draws" = some (.ref A.f__law_draws)
  k__law_draws : PySem.W.keepIn K (.ref A.f__law_draws) = true
  F__law_draw : Fun K "_law_draw" "_law_draw" s__law_draw A.f__law_draw A.fd__law_draw
  b__law_draw : Binds K A.fd__law_draw P__law_draw []
  g__law_draw : mg "_law_draw" = some (.ref A.f__law_draw)
  k__law_draw : PySem.W.keepIn K (.ref A.f__law_draw) = true
  F__law_same : Fun K "_law_same" "_law_same" s__law_same A.f__law_same A.fd__law_same
  b__law_same : Binds K A.fd__law_same P__law_same []
  g__law_same : mg "_law_same" = some (.ref A.f__law_same)
  k__law_same : PySem.W.keepIn K (.ref A.f__law_same) = true
  F__law_copy : Fun K "_law_copy" "_law_copy" s__law_copy A.f__law_copy A.fd__law_copy
  b__law_copy : Binds K A.fd__law_copy P__law_copy []
  g__law_copy : mg "_law_copy" = some (.ref A.f__law_copy)
  k__law_copy : PySem.W.keepIn K (.ref A.f__law_copy) = true
  F__law_refused : Fun K "_law_refused" "_law_refused" s__law_refused A.f__law_refused A.fd__law_refused
  b__law_refused : Binds K A.fd__law_refused P__law_refused []
  g__law_refused : mg "_law_refused" = some (.ref A.f__law_refused)
  k__law_refused : PySem.W.keepIn K (.ref A.f__law_refused) = true
  F__law_broken : Fun K "_law_broken" "_law_broken" s__law_broken A.f__law_broken A.fd__law_broken
  b__law_broken : Binds K A.fd__law_broken P__law_broken []
  g__law_broken : mg "_law_broken" = some (.ref A.f__law_broken)
  k__law_broken : PySem.W.keepIn K (.ref A.f__law_broken) = true
  F_law : Fun K "law" "law" s_law A.f_law A.fd_law
  b_law : Binds K A.fd_law P_law []
  g_law : mg "law" = some (.ref A.f_law)
  k_law : PySem.W.keepIn K (.ref A.f_law) = true
  cl_Outgoing : Cls K A.c_Outgoing
  nf_Outgoing_stream : NoAttr K A.c_Outgoing "stream"
  nf_Outgoing_keep : NoAttr K A.c_Outgoing "keep"
  nf_Outgoing_base : NoAttr K A.c_Outgoing "base"
  nf_Outgoing_kept : NoAttr K A.c_Outgoing "kept"
  nf_Outgoing_taken : NoAttr K A.c_Outgoing "taken"
  nf_Outgoing_sent : NoAttr K A.c_Outgoing "sent"
  nf_Outgoing_got_ranges : NoAttr K A.c_Outgoing "got_ranges"
  nf_Outgoing_lost_ranges : NoAttr K A.c_Outgoing "lost_ranges"
  nf_Outgoing_finished : NoAttr K A.c_Outgoing "finished"
  nf_Outgoing_last : NoAttr K A.c_Outgoing "last"
  nf_Outgoing_broken : NoAttr K A.c_Outgoing "broken"
  cl_Incoming : Cls K A.c_Incoming
  nf_Incoming_stream : NoAttr K A.c_Incoming "stream"
  nf_Incoming_room : NoAttr K A.c_Incoming "room"
  nf_Incoming_upto : NoAttr K A.c_Incoming "upto"
  nf_Incoming_read_upto : NoAttr K A.c_Incoming "read_upto"
  nf_Incoming_greatest : NoAttr K A.c_Incoming "greatest"
  nf_Incoming_end : NoAttr K A.c_Incoming "end"
  nf_Incoming_come : NoAttr K A.c_Incoming "come"
  nf_Incoming_parts : NoAttr K A.c_Incoming "parts"
  nf_Incoming_is_broken : NoAttr K A.c_Incoming "is_broken"
  nf_Incoming_skipped : NoAttr K A.c_Incoming "skipped"
  t_Wrong : PySem.WireX.Txt P K mg "Wrong" A.c_Wrong A.f_WireError___init__
  t_DeedWrong : PySem.WireX.Txt P K mg "DeedWrong" A.c_DeedWrong A.f_WireError___init__
end K23

/-! RG: ranges of whole numbers, plainly -/
namespace RG
abbrev RL := List (Int × Int)
def Gap (a b : Int × Int) : Prop := a.2 + 1 < b.1
def Rg (rs : RL) : Prop := rs.Pairwise Gap ∧ ∀ r ∈ rs, r.1 ≤ r.2
def cov (rs : RL) (x : Int) : Prop := ∃ r ∈ rs, r.1 ≤ x ∧ x ≤ r.2
theorem cov_nil (x : Int) : ¬ cov [] x := fun ⟨_, h, _⟩ => by cases h
theorem cov_cons {r : Int × Int} {rs : RL} {x : Int} : cov (r :: rs) x ↔ (r.1 ≤ x ∧ x ≤ r.2) ∨ cov rs x := by
  constructor
  · rintro ⟨q, h, k⟩
    rcases List.mem_cons.mp h with e | e
    · subst e; exact .inl k
    · exact .inr ⟨q, e, k⟩
  · rintro (k | ⟨q, h, k⟩)
    · exact ⟨r, List.mem_cons_self, k⟩
    · exact ⟨q, List.mem_cons_of_mem _ h, k⟩
theorem cov_append {a b : RL} {x : Int} : cov (a ++ b) x ↔ cov a x ∨ cov b x := by
  induction a with
  | nil => simp [cov_nil]
  | cons r a ih => rw [List.cons_append, cov_cons, cov_cons, ih, or_assoc]
theorem cov_one {r : Int × Int} {x : Int} : cov [r] x ↔ r.1 ≤ x ∧ x ≤ r.2 := by simp [cov_cons, cov_nil]
theorem Rg.nil : Rg [] := ⟨.nil, fun _ h => by cases h⟩
theorem Rg.one {a b : Int} (h : a ≤ b) : Rg [(a, b)] := ⟨List.pairwise_singleton _ _, fun r hr => by simp at hr; subst hr; exact h⟩
theorem Rg.tail {r : Int × Int} {rs : RL} (h : Rg (r :: rs)) : Rg rs := ⟨(List.pairwise_cons.mp h.1).2, fun q hq => h.2 q (List.mem_cons_of_mem _ hq)⟩
theorem Rg.head {r : Int × Int} {rs : RL} (h : Rg (r :: rs)) : r.1 ≤ r.2 ∧ ∀ x, cov rs x → r.2 + 1 < x := ⟨h.2 r List.mem_cons_self, fun x ⟨q, hq, h1, _⟩ => by
  have := (List.pairwise_cons.mp h.1).1 q hq
  unfold Gap at this
  omega⟩
theorem cov_perm {a b : RL} (h : a.Perm b) (x : Int) : cov a x ↔ cov b x := by
  unfold cov
  constructor
  · rintro ⟨r, h1, h2⟩; exact ⟨r, h.mem_iff.mp h1, h2⟩
  · rintro ⟨r, h1, h2⟩; exact ⟨r, h.mem_iff.mpr h1, h2⟩
/-- how many they can be -/
theorem Rg.len {rs : RL} (h : Rg rs) : ∀ {lo hi : Int}, (∀ x, cov rs x → lo ≤ x ∧ x < hi) → lo ≤ hi → (rs.length : Int) ≤ hi - lo := by
  induction rs with
  | nil => intro lo hi _ hh; simp; omega
  | cons r rs ih =>
    intro lo hi hc hh
    have hd := h.head
    have c1 := hc r.1 (cov_cons.mpr (.inl ⟨by omega, hd.1⟩))
    have c2 := hc r.2 (cov_cons.mpr (.inl ⟨hd.1, by omega⟩))
    have := ih h.tail (lo := r.2 + 1) (hi := hi) (fun x hx => ⟨by have := hd.2 x hx; omega, (hc x (cov_cons.mpr (.inr hx))).2⟩) (by omega)
    rw [List.length_cons]
    push_cast
    omega
theorem Rg.sum {rs : RL} (h : Rg rs) : ∀ {lo hi : Int}, (∀ x, cov rs x → lo ≤ x ∧ x < hi) → lo ≤ hi → (rs.map fun r => r.2 - r.1 + 1).sum ≤ hi - lo := by
  induction rs with
  | nil => intro lo hi _ hh; simp; omega
  | cons r rs ih =>
    intro lo hi hc hh
    have hd := h.head
    have c1 := hc r.1 (cov_cons.mpr (.inl ⟨by omega, hd.1⟩))
    have c2 := hc r.2 (cov_cons.mpr (.inl ⟨hd.1, by omega⟩))
    have := ih h.tail (lo := r.2 + 1) (hi := hi) (fun x hx => ⟨by have := hd.2 x hx; omega, (hc x (cov_cons.mpr (.inr hx))).2⟩) (by omega)
    rw [List.map_cons, List.sum_cons]
    omega
/-! ### put -/
structure PutI (rs0 : RL) (lo0 hi0 : Int) (f rs : RL) (lo hi : Int) : Prop where
  le : lo ≤ hi
  rg : Rg (f ++ rs)
  apart : ∀ r ∈ f, r.2 + 1 < lo ∨ hi + 1 < r.1
  cv : ∀ x, (cov f x ∨ cov rs x ∨ (lo ≤ x ∧ x ≤ hi)) ↔ (cov rs0 x ∨ (lo0 ≤ x ∧ x ≤ hi0))
theorem PutI.start {rs : RL} {lo hi : Int} (h : Rg rs) (hl : lo ≤ hi) : PutI rs lo hi [] rs lo hi :=
  ⟨hl, h, fun _ h => (by cases h), fun x => (by simp [cov_nil])⟩
theorem PutI.keep {rs0 f rs : RL} {lo0 hi0 lo hi a b : Int} (h : PutI rs0 lo0 hi0 f ((a, b) :: rs) lo hi) (hc : b + 1 < lo ∨ hi + 1 < a) : PutI rs0 lo0 hi0 (f ++ [(a, b)]) rs lo hi := by
  refine ⟨h.le, by rw [List.append_assoc]; exact h.rg, fun r hr => ?_, fun x => ?_⟩
  · rcases List.mem_append.mp hr with e | e
    · exact h.apart r e
    · simp at e; subst e; exact hc
  · rw [← h.cv x, cov_append, cov_one, cov_cons]
    constructor
    · rintro ((c | c) | c | c) <;> simp [c]
    · rintro (c | (c | c) | c) <;> simp [c]
theorem PutI.eat {rs0 f rs : RL} {lo0 hi0 lo hi a b : Int} (h : PutI rs0 lo0 hi0 f ((a, b) :: rs) lo hi) (hc : ¬ (b + 1 < lo)) (hc2 : ¬ (hi + 1 < a)) : PutI rs0 lo0 hi0 f rs (min lo a) (max hi b) := by
  have hg := h.rg
  have hab : a ≤ b := hg.2 (a, b) (by simp)
  have hle := h.le
  refine ⟨by omega, ⟨?_, fun r hr => hg.2 r (by rcases List.mem_append.mp hr with e | e <;> simp [e])⟩, fun r hr => ?_, fun x => ?_⟩
  · rw [List.pairwise_append] at *
    have h1 := List.pairwise_append.mp hg.1
    exact ⟨h1.1, (List.pairwise_cons.mp h1.2.1).2, fun x hx y hy => h1.2.2 x hx y (List.mem_cons_of_mem _ hy)⟩
  · have h1 := (List.pairwise_append.mp hg.1).2.2 r hr (a, b) List.mem_cons_self
    have h2 := hg.2 r (List.mem_append_left _ hr)
    unfold Gap at h1
    simp only at h1
    rcases h.apart r hr with c | c
    · left; omega
    · exfalso; omega
  · rw [← h.cv x, cov_cons]
    simp only
    constructor
    · rintro (c | c | c)
      · simp [c]
      · simp [c]
      · by_cases q : lo ≤ x ∧ x ≤ hi
        · simp [q]
        · have : a ≤ x ∧ x ≤ b := by omega
          simp [this]
    · rintro (c | (c | c) | c)
      · simp [c]
      · right; right; omega
      · simp [c]
      · right; right; omega
def Apart (a b : Int × Int) : Prop := a.2 + 1 < b.1 ∨ b.2 + 1 < a.1
theorem PutI.done {rs0 f : RL} {lo0 hi0 lo hi : Int} (h : PutI rs0 lo0 hi0 f [] lo hi) :
    ((f ++ [(lo, hi)]).map (·.1)).Nodup ∧ ∀ qs : RL, qs.Perm (f ++ [(lo, hi)]) → qs.Pairwise (fun x y => x.1 < y.1) → Rg qs ∧ ∀ x, cov qs x ↔ cov rs0 x ∨ (lo0 ≤ x ∧ x ≤ hi0) := by
  have hg : Rg f := by have := h.rg; simpa using this
  have hap : (f ++ [(lo, hi)]).Pairwise Apart := by
    rw [List.pairwise_append]
    refine ⟨hg.1.imp fun {a b} q => .inl q, List.pairwise_singleton _ _, fun r hr q hq => ?_⟩
    simp at hq
    subst hq
    exact h.apart r hr
  have hne : ∀ r ∈ f ++ [(lo, hi)], r.1 ≤ r.2 := fun r hr => by
    rcases List.mem_append.mp hr with e | e
    · exact hg.2 r e
    · simp at e; subst e; exact h.le
  have hboth := List.Pairwise.and_mem.mp hap
  constructor
  · show List.Pairwise _ _
    rw [List.pairwise_map]
    refine hboth.imp fun {a b} ⟨m1, m2, q⟩ e => ?_
    have := hne a m1
    have := hne b m2
    rcases q with q | q <;> omega
  · intro qs hp hs
    have hq : qs.Pairwise Apart := hp.symm.pairwise hap (fun {x y} h => h.symm)
    have hqm := List.Pairwise.and_mem.mp (hq.and hs)
    have hgap : qs.Pairwise Gap := hqm.imp fun {a b} z => by
      obtain ⟨m1, m2, q, l⟩ := z
      have := hne a (hp.mem_iff.mp m1)
      have := hne b (hp.mem_iff.mp m2)
      unfold Gap
      rcases q with q | q <;> omega
    refine ⟨⟨hgap, fun r hr => hne r (hp.mem_iff.mp hr)⟩, fun x => ?_⟩
    · rw [cov_perm hp x, cov_append, cov_one, ← h.cv x]
      constructor
      · rintro (c | c) <;> simp [c]
      · rintro (c | c | c)
        · simp [c]
        · exact absurd c (cov_nil x)
        · simp [c]
/-! ### drop -/
def drop1 (lo hi : Int) (r : Int × Int) : RL := (if r.1 < lo then [(r.1, min r.2 (lo - 1))] else []) ++ (if hi < r.2 then [(max r.1 (hi + 1), r.2)] else [])
def dropR (rs : RL) (lo hi : Int) : RL := rs.flatMap (drop1 lo hi)
theorem drop1_mem {lo hi : Int} {r q : Int × Int} (h : q ∈ drop1 lo hi r) : (r.1 < lo ∧ q = (r.1, min r.2 (lo - 1))) ∨ (hi < r.2 ∧ q = (max r.1 (hi + 1), r.2)) := by
  unfold drop1 at h
  rcases List.mem_append.mp h with h | h
  · split at h
    · simp at h; exact .inl ⟨by assumption, h⟩
    · cases h
  · split at h
    · simp at h; exact .inr ⟨by assumption, h⟩
    · cases h
theorem drop1_cov {lo hi : Int} {r : Int × Int} (hr : r.1 ≤ r.2) (h : lo ≤ hi) (x : Int) : cov (drop1 lo hi r) x ↔ (r.1 ≤ x ∧ x ≤ r.2) ∧ ¬ (lo ≤ x ∧ x ≤ hi) := by
  unfold drop1
  rw [cov_append]
  split <;> split <;> simp only [cov_one, cov_nil, or_false, false_or, false_iff] <;> (try dsimp only) <;> omega
theorem dropR_rg {rs : RL} {lo hi : Int} (h : Rg rs) (hl : lo ≤ hi) : Rg (dropR rs lo hi) := by
  unfold dropR
  constructor
  · rw [List.pairwise_flatMap]
    constructor
    · intro r hr
      have := h.2 r hr
      unfold drop1
      split <;> split <;> simp [Gap] <;> omega
    · refine (List.Pairwise.and_mem.mp h.1).imp fun {a b} ⟨m1, m2, g⟩ x hx y hy => ?_
      have q1 := h.2 a m1
      have q2 := h.2 b m2
      unfold Gap at *
      rcases drop1_mem hx with ⟨c, e⟩ | ⟨c, e⟩ <;> rcases drop1_mem hy with ⟨c', e'⟩ | ⟨c', e'⟩ <;> subst e <;> subst e' <;> simp only <;> omega
  · intro q hq
    obtain ⟨r, h1, h2⟩ := List.mem_flatMap.mp hq
    have := h.2 r h1
    rcases drop1_mem h2 with ⟨c, e⟩ | ⟨c, e⟩ <;> subst e <;> simp only <;> omega
theorem dropR_cov {rs : RL} {lo hi : Int} (h : Rg rs) (hl : lo ≤ hi) (x : Int) : cov (dropR rs lo hi) x ↔ cov rs x ∧ ¬ (lo ≤ x ∧ x ≤ hi) := by
  unfold dropR
  induction rs with
  | nil => simp [cov_nil]
  | cons r rs ih =>
    rw [List.flatMap_cons, cov_append, cov_cons, drop1_cov (h.2 r List.mem_cons_self) hl, ih h.tail]
    constructor
    · rintro (⟨a, b⟩ | ⟨a, b⟩) <;> simp [a, b]
    · rintro ⟨a | a, b⟩ <;> simp [a, b]
theorem dropR_filter {rs : RL} {lo hi : Int} (h : Rg rs) (hl : lo ≤ hi) : (dropR rs lo hi).filter (fun p => decide (p.1 ≤ p.2)) = dropR rs lo hi :=
  List.filter_eq_self.mpr fun r hr => decide_eq_true ((dropR_rg h hl).2 r hr)
theorem drop1_len (lo hi : Int) (r : Int × Int) : (drop1 lo hi r).length ≤ 2 := by
  unfold drop1
  split <;> split <;> simp
theorem dropR_len (rs : RL) (lo hi : Int) : (dropR rs lo hi).length ≤ 2 * rs.length := by
  unfold dropR
  induction rs with
  | nil => simp
  | cons r rs ih =>
    rw [List.flatMap_cons, List.length_append, List.length_cons]
    have := drop1_len lo hi r
    omega
end RG

namespace K23
open PySem L2 DL RG
/-! ### the promises -/
abbrev nums (ns : List Int) : List Dt := ns.map Dt.int
def Small (rs : RL) : Prop := ∀ x, cov rs x → 0 ≤ x ∧ x < 1000000
def sd_put_range (A : Ad) : DSp := fun ds M Q _ => ∃ (rs : RL) (lo hi : Int), ds = [rgs rs, .int lo, .int hi] ∧ Rg rs ∧ lo ≤ hi ∧ Small rs ∧ ∀ rs', Rg rs' → (∀ x, cov rs' x ↔ cov rs x ∨ (lo ≤ x ∧ x ≤ hi)) → Q (rgs rs') M
def sd_drop_range (A : Ad) : DSp := fun ds M Q _ => ∃ (rs : RL) (lo hi : Int), ds = [rgs rs, .int lo, .int hi] ∧ Rg rs ∧ lo ≤ hi ∧ Small rs ∧ Q (rgs (dropR rs lo hi)) M
def sd_drop_all (A : Ad) : DSp := fun ds M Q _ => ∃ (rs os : RL), ds = [rgs rs, rgs os] ∧ Rg rs ∧ (∀ r ∈ os, r.1 ≤ r.2) ∧ Small rs ∧ ∀ rs', Rg rs' → (∀ x, cov rs' x ↔ cov rs x ∧ ¬ cov os x) → Q (rgs rs') M
def sd_gaps (A : Ad) : DSp := fun ds M Q _ => ∃ (rs : RL) (lo hi : Int), ds = [rgs rs, .int lo, .int hi] ∧ Rg rs ∧ 0 ≤ lo ∧ hi < 1000000 ∧ ∀ rs', Rg rs' → (∀ x, cov rs' x ↔ (lo ≤ x ∧ x ≤ hi) ∧ ¬ cov rs x) → Q (rgs rs') M
def sd_count (A : Ad) : DSp := fun ds M Q _ => ∃ (rs : RL), ds = [rgs rs] ∧ rs.length ≤ 1000000 ∧ Q (.int (rs.map fun r => r.2 - r.1 + 1).sum) M
/-- the words -/
inductive La where
  | unsent | flying | lost | got
  deriving DecidableEq
def La.s : La → Str
  | .unsent => "unsent" | .flying => "flying" | .lost => "lost" | .got => "got"
inductive Br where
  | no | due | flying | got
  deriving DecidableEq
def Br.d : Br → Dt
  | .no => .non | .due => .str "due" | .flying => .str "flying" | .got => .str "got"
structure Out where
  stream : Int
  keep : Int
  base : Int
  kept : List Int
  taken : Int
  sent : Int
  got : RL
  lost : RL
  fin : Bool
  last : La
  brk : Br
def outF (o : Out) : List (Str × Dt) := [("stream", .int o.stream), ("keep", .int o.keep), ("base", .int o.base), ("kept", .lst (nums o.kept)), ("taken", .int o.taken), ("sent", .int o.sent), ("got_ranges", rgs o.got), ("lost_ranges", rgs o.lost), ("finished", .bl o.fin), ("last", .str o.last.s), ("broken", o.brk.d)]
abbrev outM (A : Ad) (dx : Addr) (o : Out) : MO := .ins A.c_Outgoing dx (outF o)
structure OI (text : List Int) (o : Out) : Prop where
  brk : o.brk = .no
  str : o.stream = 4
  base0 : 0 ≤ o.base
  bs : o.base ≤ o.sent
  st : o.sent ≤ o.taken
  tk : o.taken = text.length
  kept : o.kept = text.drop o.base.toNat
  rgG : Rg o.got
  rgL : Rg o.lost
  cG : ∀ x, cov o.got x → o.base ≤ x ∧ x < o.sent
  cL : ∀ x, cov o.lost x → o.base ≤ x ∧ x < o.sent ∧ ¬ cov o.got x
  small : text.length ≤ 1000
def slc (text : List Int) (lo hi : Int) : List Int := (text.drop lo.toNat).take (hi - lo).toNat
def dataP (low : Int) (os : List Int) (fl : Bool) : Dt := .tup [.str "data", .int 4, .int low, .tup (nums os), .int (if fl = true then 1 else 0)]
def brkP (size : Int) : Dt := .tup [.str "break", .int 4, .int size]
def doneB (o : Out) : Bool := if o.brk = .no then o.fin && (decide (o.last = .got) && decide (o.base = o.taken)) else decide (o.brk = .got)
def sd_Outgoing___init__ (A : Ad) : DSp := fun ds M Q _ => ∃ (a dx : Addr) (st kp : Int), ds = [.ref a, .int st, .int kp] ∧ 1 ≤ kp ∧ M a = some (.ins A.c_Outgoing dx []) ∧ Q .non (updM M a (outM A dx ⟨st, kp, 0, [], 0, 0, [], [], false, .unsent, .no⟩))
def sd_Outgoing_must_stand (A : Ad) : DSp := fun ds M Q E => ∃ (a dx : Addr) (o : Out), ds = [.ref a] ∧ M a = some (outM A dx o) ∧ (o.brk = .no → Q .non M) ∧ (o.brk ≠ .no → E A.c_DeedWrong (.str "broken") M)
def sd_Outgoing_is_done (A : Ad) : DSp := fun ds M Q _ => ∃ (a dx : Addr) (o : Out), ds = [.ref a] ∧ M a = some (outM A dx o) ∧ Q (.bl (doneB o)) M
def sd_Outgoing_write (A : Ad) : DSp := fun ds M Q E => ∃ (a dx : Addr) (o : Out) (os : List Int), ds = [.ref a, .lst (nums os)] ∧ M a = some (outM A dx o) ∧ o.kept.length ≤ 1000 ∧
  (o.brk ≠ .no → E A.c_DeedWrong (.str "broken") M) ∧ (o.brk = .no → o.fin = false ∧ os.length ≤ o.base + o.keep - o.taken ∧ os.length ≤ 16777215 - o.taken ∧ os.length ≤ 1000 ∧ Q (.int os.length) (updM M a (outM A dx { o with kept := o.kept ++ os, taken := o.taken + os.length })))
def sd_Outgoing_breaks (A : Ad) : DSp := fun ds M Q E => ∃ (a dx : Addr) (o : Out), ds = [.ref a] ∧ M a = some (outM A dx o) ∧ (o.brk ≠ .no → E A.c_DeedWrong (.str "broken") M) ∧ (o.brk = .no → doneB o = true → E A.c_DeedWrong (.str "done") M) ∧
  (o.brk = .no → doneB o = false → Q .non (updM M a (outM A dx { o with brk := .due, kept := [], lost := [], got := [] })))
def sd_Outgoing_finish (A : Ad) : DSp := fun ds M Q E => ∃ (a dx : Addr) (o : Out), ds = [.ref a] ∧ M a = some (outM A dx o) ∧ (o.brk ≠ .no → E A.c_DeedWrong (.str "broken") M) ∧ (o.brk = .no → o.fin = false ∧ Q .non (updM M a (outM A dx { o with fin := true })))
def nextB (A : Ad) (M : DM) (Q : DK) (a dx : Addr) (o : Out) : Prop := (o.brk = .due → Q (.tup [.str "break", .int o.stream, .int o.sent]) (updM M a (outM A dx { o with brk := .flying }))) ∧ (o.brk ≠ .due → Q .non M)
def sd_Outgoing_next_break (A : Ad) : DSp := fun ds M Q _ => ∃ (a dx : Addr) (o : Out), ds = [.ref a] ∧ M a = some (outM A dx o) ∧ o.brk ≠ .no ∧ nextB A M Q a dx o
def sd_Outgoing_piece (A : Ad) : DSp := fun ds M Q _ => ∃ (a dx : Addr) (o : Out) (text : List Int) (lo hi : Int), ds = [.ref a, .int lo, .int hi] ∧ M a = some (outM A dx o) ∧ OI text o ∧ o.base ≤ lo ∧ lo ≤ hi ∧ hi ≤ o.taken ∧
  ∀ (lost' : RL) (la : La), Rg lost' → (∀ x, cov lost' x ↔ cov o.lost x ∧ ¬ (lo ≤ x ∧ x < hi)) → Q (dataP lo (slc text lo hi) (o.fin && decide (hi = o.taken))) (updM M a (outM A dx { o with lost := lost', sent := max o.sent hi, last := la }))
/-- what is right about a piece of octets: of a stream text of which sent were handed out, finished or not -/
structure DP (text : List Int) (fin : Bool) (sent : Int) (lo : Int) (os : List Int) (fl : Bool) : Prop where
  lo0 : 0 ≤ lo
  hi : lo + os.length ≤ sent
  eo : os = slc text lo (lo + os.length)
  fl : fl = true → fin = true ∧ lo + os.length = text.length
def sd_Outgoing_next (A : Ad) : DSp := fun ds M Q _ => ∃ (a dx : Addr) (o : Out) (text : List Int) (most upto : Int), ds = [.ref a, .int most, .int upto] ∧ M a = some (outM A dx o) ∧
  ((most < 0 ∧ Q .non M) ∨ (0 ≤ most ∧ o.brk ≠ .no ∧ nextB A M Q a dx o) ∨ (1 ≤ most ∧ OI text o ∧ Q .non M ∧
    ∀ (o' : Out) (lo : Int) (os : List Int) (fl : Bool), OI text o' → o'.fin = o.fin → o'.base = o.base → o'.sent = max o.sent (lo + os.length) → (o'.sent = o.sent ∨ o'.sent ≤ upto) → DP text o.fin o'.sent lo os fl → Q (dataP lo os fl) (updM M a (outM A dx o'))))
def sd_Outgoing_got (A : Ad) : DSp := fun ds M Q _ => ∃ (a dx : Addr) (o : Out) (pc : Dt), ds = [.ref a, pc] ∧ M a = some (outM A dx o) ∧
  ((∃ n, pc = brkP n ∧ Q .non (updM M a (outM A dx { o with brk := .got }))) ∨ (∃ lo os fl, pc = dataP lo os fl ∧ o.brk ≠ .no ∧ Q .non M) ∨
   (∃ text lo os fl, pc = dataP lo os fl ∧ OI text o ∧ DP text o.fin o.sent lo os fl ∧ ∀ o', OI text o' → o'.fin = o.fin → o'.sent = o.sent → Q .non (updM M a (outM A dx o'))))
def sd_Outgoing_lost (A : Ad) : DSp := fun ds M Q _ => ∃ (a dx : Addr) (o : Out) (pc : Dt), ds = [.ref a, pc] ∧ M a = some (outM A dx o) ∧
  ((∃ n, pc = brkP n ∧ o.brk ≠ .no ∧ (o.brk = .flying → ∀ v, Q v (updM M a (outM A dx { o with brk := .due }))) ∧ (o.brk ≠ .flying → ∀ v, Q v M)) ∨ (∃ lo os fl, pc = dataP lo os fl ∧ o.brk ≠ .no ∧ ∀ v, Q v M) ∨
   (∃ text lo os fl, pc = dataP lo os fl ∧ OI text o ∧ DP text o.fin o.sent lo os fl ∧ ∀ v o', OI text o' → o'.fin = o.fin → o'.sent = o.sent → Q v (updM M a (outM A dx o'))))
def sd_Outgoing_is_due (A : Ad) : DSp := fun ds M Q _ => ∃ (a dx : Addr) (o : Out) (n : Int), ds = [.ref a, .int n] ∧ M a = some (outM A dx o) ∧ o.brk ≠ .no ∧ Q (.bl (decide (o.brk = .due))) M
def sd_Outgoing_memory (A : Ad) : DSp := fun ds M Q _ => ∃ (a dx : Addr) (o : Out), ds = [.ref a] ∧ M a = some (outM A dx o) ∧ Q (.int o.kept.length) M
structure Inc where
  stream : Int
  room : Int
  upto : Int
  readU : Int
  greatest : Int
  en : Option Int
  come : RL
  parts : List (Int × List Int)
  brkn : Bool
  skipped : Int
def optI : Option Int → Dt
  | none => .non
  | some i => .int i
def prt (p : Int × List Int) : Dt := .tup [.int p.1, .tup (nums p.2)]
def incF (i : Inc) : List (Str × Dt) := [("stream", .int i.stream), ("room", .int i.room), ("upto", .int i.upto), ("read_upto", .int i.readU), ("greatest", .int i.greatest), ("end", optI i.en), ("come", rgs i.come), ("parts", .lst (i.parts.map prt)), ("is_broken", .bl i.brkn), ("skipped", .int i.skipped)]
abbrev incM (A : Ad) (dx : Addr) (i : Inc) : MO := .ins A.c_Incoming dx (incF i)
def pcov (ps : List (Int × List Int)) (x : Int) : Prop := ∃ p ∈ ps, p.1 ≤ x ∧ x < p.1 + (p.2.length : Int)
structure II (text : List Int) (i : Inc) : Prop where
  nb : i.brkn = false
  r0 : 0 ≤ i.readU
  rg : i.readU ≤ i.greatest
  gt : i.greatest ≤ text.length
  en : i.en = none ∨ i.en = some (text.length : Int)
  rgC : Rg i.come
  cC : ∀ x, cov i.come x → i.readU ≤ x ∧ x < i.greatest
  pw : i.parts.Pairwise (fun p q => p.1 + (p.2.length : Int) ≤ q.1)
  pn : ∀ p ∈ i.parts, p.2 ≠ [] ∧ 0 ≤ p.1 ∧ p.1 + (p.2.length : Int) ≤ text.length ∧ p.2 = slc text p.1 (p.1 + (p.2.length : Int))
  pc : ∀ x, pcov i.parts x ↔ cov i.come x
  small : text.length ≤ 1000
def readyI (i : Inc) : Int := match i.come with
  | [] => 0
  | r :: _ => if r.1 = i.readU then r.2 + 1 - i.readU else 0
def wholeB (i : Inc) : Bool := i.brkn || decide (i.en = some (i.readU + readyI i))
def sd_Incoming___init__ (A : Ad) : DSp := fun ds M Q _ => ∃ (a dx : Addr) (st rm : Int), ds = [.ref a, .int st, .int rm] ∧ 1 ≤ rm ∧ M a = some (.ins A.c_Incoming dx []) ∧ Q .non (updM M a (incM A dx ⟨st, rm, rm, 0, 0, none, [], [], false, 0⟩))
/-- a piece that is not refused -/
def fitsD (i : Inc) (lo : Int) (os : List Int) (fl : Bool) : Prop := lo + os.length ≤ i.upto ∧ (fl = true → i.greatest ≤ lo + os.length ∧ (i.en = none ∨ i.en = some (lo + os.length))) ∧ ∀ e, i.en = some e → lo + os.length ≤ e
def fitsB (i : Inc) (n : Int) : Prop := n ≤ i.upto ∧ i.greatest ≤ n ∧ (i.en = none ∨ i.en = some n)
def sd_Incoming_wrong (A : Ad) : DSp := fun ds M Q _ => ∃ (a dx : Addr) (i : Inc) (pc : Dt), ds = [.ref a, pc] ∧ M a = some (incM A dx i) ∧ ((∃ lo os fl, pc = dataP lo os fl ∧ fitsD i lo os fl) ∨ ∃ n, pc = brkP n ∧ fitsB i n) ∧ Q .non M
def sd_Incoming_ready (A : Ad) : DSp := fun ds M Q _ => ∃ (a dx : Addr) (i : Inc), ds = [.ref a] ∧ M a = some (incM A dx i) ∧ Q (.int (readyI i)) M
def sd_Incoming_is_whole (A : Ad) : DSp := fun ds M Q _ => ∃ (a dx : Addr) (i : Inc), ds = [.ref a] ∧ M a = some (incM A dx i) ∧ Q (.bl (wholeB i)) M
def brokenI (i : Inc) (n : Int) : Inc := { i with brkn := true, greatest := n, en := some n, skipped := n - i.readU, readU := n, come := [], parts := [] }
def takeB (A : Ad) (M : DM) (Q : DK) (a dx : Addr) (i : Inc) (n : Int) : Prop := (wholeB i = true → Q .non M) ∧ (wholeB i = false → Q .non (updM M a (incM A dx (brokenI i n))))
def sd_Incoming_take_break (A : Ad) : DSp := fun ds M Q _ => ∃ (a dx : Addr) (i : Inc) (n : Int), ds = [.ref a, .int n] ∧ M a = some (incM A dx i) ∧ takeB A M Q a dx i n
def sd_Incoming_take (A : Ad) : DSp := fun ds M Q _ => ∃ (a dx : Addr) (i : Inc) (pc : Dt), ds = [.ref a, pc] ∧ M a = some (incM A dx i) ∧
  ((∃ n, pc = brkP n ∧ fitsB i n ∧ takeB A M Q a dx i n) ∨ (∃ lo os fl, pc = dataP lo os fl ∧ fitsD i lo os fl ∧ i.brkn = true ∧ Q .non M) ∨
   (∃ text lo os fl, pc = dataP lo os fl ∧ fitsD i lo os fl ∧ II text i ∧ 0 ≤ lo ∧ lo + os.length ≤ text.length ∧ os = slc text lo (lo + os.length) ∧ (fl = true → lo + os.length = text.length) ∧
     ∀ i', II text i' → i'.stream = i.stream → i'.room = i.room → i'.upto = i.upto → i'.readU = i.readU → i'.skipped = i.skipped → i'.greatest = max i.greatest (lo + os.length) → i'.en = (if fl = true then some (lo + os.length : Int) else i.en) → (∀ x, cov i.come x → cov i'.come x) → Q .non (updM M a (incM A dx i'))))
def sd_Incoming_read (A : Ad) : DSp := fun ds M Q _ => ∃ (a dx : Addr) (i : Inc) (most : Int), ds = [.ref a, .int most] ∧ M a = some (incM A dx i) ∧ 0 ≤ most ∧
  ((i.come = [] ∧ Q (.lst []) M) ∨ (∃ text, II text i ∧ ∀ i', II text i' → i'.stream = i.stream → i'.room = i.room → i'.upto = i.upto → i'.skipped = i.skipped → i'.greatest = i.greatest → i'.en = i.en → i.readU ≤ i'.readU → i'.readU ≤ i.readU + most → i'.readU ≤ i.readU + readyI i → (∀ x, cov i'.come x ↔ cov i.come x ∧ i'.readU ≤ x) → (most = 0 → i' = i) →
    Q (.lst (nums (slc text i.readU i'.readU))) (updM M a (incM A dx i'))))
def sd_Incoming_grown (A : Ad) : DSp := fun ds M Q _ => ∃ (a dx : Addr) (i : Inc), ds = [.ref a] ∧ M a = some (incM A dx i) ∧ 0 ≤ i.readU ∧ i.readU ≤ 1000000 ∧ 0 ≤ i.room ∧ i.room ≤ 1000000 ∧ 0 ≤ i.upto ∧ i.upto ≤ 10000000 ∧ Q .non M ∧ ∀ n : Int, i.upto < n → n ≤ i.readU + i.room → Q (.int n) M
def sd_Incoming_let (A : Ad) : DSp := fun ds M Q _ => ∃ (a dx : Addr) (i : Inc) (n : Int), ds = [.ref a, .int n] ∧ M a = some (incM A dx i) ∧ i.upto ≤ n ∧ Q .non (updM M a (incM A dx { i with upto := n }))
def sd_Incoming_memory (A : Ad) : DSp := fun ds M Q _ => ∃ (a dx : Addr) (i : Inc), ds = [.ref a] ∧ M a = some (incM A dx i) ∧ i.come.length ≤ 1000000 ∧ Q (.int (i.come.map fun r => r.2 - r.1 + 1).sum) M
/-! the law's own helpers -/
def DrV (o : MO) : Prop := ∃ (ns : List Int) (i v s : Int), o = .lst [.lst (nums ns), .int i, .int v, .int s] ∧ 0 ≤ i ∧ 0 ≤ v ∧ 0 ≤ s ∧ s < 2147483648
def sd__law_draws (A : Ad) : DSp := fun ds M Q _ => ∃ ns : List Int, ds = [.src ns] ∧ ∀ p o, M p = none → DrV o → Q (.ref p) (updM M p o)
def sd__law_draw (A : Ad) : DSp := fun ds M Q _ => ∃ (p : Addr) (o : MO) (lim : Int), ds = [.ref p, .int lim] ∧ M p = some o ∧ DrV o ∧ 1 ≤ lim ∧ lim ≤ 1000 ∧ ∀ d o', 0 ≤ d → d < lim → DrV o' → Q (.int d) (updM M p o')
mutual
def plainD : Nat → Dt → Prop
  | _, .non => True | _, .bl _ => True | _, .int _ => True | _, .str _ => True
  | 0, _ => False
  | n + 1, .lst ds => plainDs n ds ∧ ds.length ≤ 1000
  | n + 1, .tup ds => plainDs n ds ∧ ds.length ≤ 1000
  | _, _ => False
def plainDs : Nat → List Dt → Prop
  | _, [] => True
  | n, d :: ds => plainD n d ∧ plainDs n ds
end
def sdN__law_same (n : Nat) : DSp := fun ds M Q _ => ∃ d, ds = [d, d] ∧ plainD n d ∧ Q (.bl true) M
def sd__law_same (A : Ad) : DSp := sdN__law_same 3
def sdN__law_copy (n : Nat) : DSp := fun ds M Q _ => ∃ d, ds = [d] ∧ plainD n d ∧ Q d M
def sd__law_copy (A : Ad) : DSp := sdN__law_copy 4
def sd__law_refused (A : Ad) : DSp := fun ds M Q _ => ∃ (a dx : Addr) (o : Out) (wd : Str), ds = [.ref a, .str wd] ∧ M a = some (outM A dx o) ∧
  ((o.brk ≠ .no ∧ (wd = "write" ∨ wd = "finish" ∨ wd = "breaks") ∧ o.kept.length ≤ 1000 ∧ Q (.tup [.str "deed", .str "broken"]) M) ∨
   (o.brk = .no ∧ wd = "breaks" ∧ (doneB o = true → Q (.tup [.str "deed", .str "done"]) M) ∧ (doneB o = false → Q (.tup [.str "told", .non]) (updM M a (outM A dx { o with brk := .due, kept := [], lost := [], got := [] })))))
def sd__law_broken (A : Ad) : DSp := fun ds M Q _ => ∃ (dr : Dt) (a dx : Addr) (o : Out), ds = [dr, .ref a, .int o.sent] ∧ M a = some (outM A dx o) ∧ o.brk = .due ∧ o.kept = [] ∧ Q (.bl true) M
def sd_law (A : Ad) : DSp := fun ds M Q _ => ∃ ns : List Int, ds = [.src ns] ∧ ∀ M', Q (.bl true) M'
--SPEC put_range
def b_put_range_1 (A : Ad) (w : WD) : DStm :=
 (dIf (dOr (dTest (dOp dLt (dOp dAdd (dVar 5) (dC (.int 1))) (dVar 1))) (dTest (dOp dLt (dOp dAdd (dVar 2) (dC (.int 1))) (dVar 4)))) (dApp (dVar 3) (dCons (dTup (dCons (dVar 4) (dCons (dVar 5) dNil))) dNil)) (dPar 1 2 (dCons (dCB (b2 min) (dCons (dVar 1) (dCons (dVar 4) dNil))) (dCons (dCB (b2 max) (dCons (dVar 2) (dCons (dVar 5) dNil))) dNil))))
def d_put_range (A : Ad) (w : WD) : DStm :=
 (dSeq (dAsg (dLstM dNil) (dgName 3))
 (dSeq (dFor (iSeq (dVar 0)) (kTupG 2 (dgCons (dgName 4) (dgCons (dgName 5) dgNil))) (b_put_range_1 A w))
 (dRet (dCB bSortH (dCons (dOp dAdd (dVar 3) (dLst (dCons (dTup (dCons (dVar 1) (dCons (dVar 2) dNil))) dNil))) dNil)))))
--SPEC drop_range
def b_drop_range_1 (A : Ad) (w : WD) : DStm :=
 (dSeq (dIf (dTest (dOp dLt (dVar 4) (dVar 1))) (dApp (dVar 3) (dCons (dTup (dCons (dVar 4) (dCons (dCB (b2 min) (dCons (dVar 5) (dCons (dOp dSub (dVar 1) (dC (.int 1))) dNil))) dNil))) dNil)) dNext)
 (dIf (dTest (dOp dGt (dVar 5) (dVar 2))) (dApp (dVar 3) (dCons (dTup (dCons (dCB (b2 max) (dCons (dVar 4) (dCons (dOp dAdd (dVar 2) (dC (.int 1))) dNil))) (dCons (dVar 5) dNil))) dNil)) dNext))
def d_drop_range (A : Ad) (w : WD) : DStm :=
 (dSeq (dAsg (dLstM dNil) (dgName 3))
 (dSeq (dFor (iSeq (dVar 0)) (kTupG 2 (dgCons (dgName 4) (dgCons (dgName 5) dgNil))) (b_drop_range_1 A w))
 (dRet (dLc (iSeq (dVar 3)) (dgName 6) (dTest (dOp dLe (dOp dIx (dVar 6) (dC (.int 0))) (dOp dIx (dVar 6) (dC (.int 1))))) (dVar 6) [6]))))
--SPEC drop_all
def b_drop_all_1 (A : Ad) (w : WD) : DStm :=
 (dAsg (dCall w (sd_drop_range A) (dCons (dVar 0) (dCons (dVar 2) (dCons (dVar 3) dNil)))) (dgName 0))
def d_drop_all (A : Ad) (w : WD) : DStm :=
 (dSeq (dFor (iSeq (dVar 1)) (kTupG 2 (dgCons (dgName 2) (dgCons (dgName 3) dgNil))) (b_drop_all_1 A w))
 (dRet (dVar 0)))
--SPEC gaps
def d_gaps (A : Ad) (w : WD) : DStm :=
 (dRet (dIfE (dTest (dOp dLe (dVar 1) (dVar 2))) (dCall w (sd_drop_all A) (dCons (dLst (dCons (dTup (dCons (dVar 1) (dCons (dVar 2) dNil))) dNil)) (dCons (dVar 0) dNil))) (dLst dNil)))
--SPEC count
def d_count (A : Ad) (w : WD) : DStm :=
 (dRet (dCB bSum (dCons (dLc (iSeq (dVar 0)) (kTupG 2 (dgCons (dgName 1) (dgCons (dgName 2) dgNil))) dYes (dOp dAdd (dOp dSub (dVar 2) (dVar 1)) (dC (.int 1))) [1, 2]) dNil)))
--SPEC Outgoing.__init__
def d_Outgoing___init__ (A : Ad) (w : WD) : DStm :=
 (dSeq (dIf (dOr (dNot (dTest (dCB bIsi (dCons (dVar 2) (dCons (dC (.ty "int")) dNil))))) (dOr (dTest (dCB bIsi (dCons (dVar 2) (dCons (dC (.ty "bool")) dNil)))) (dTest (dOp dLt (dVar 2) (dC (.int 1)))))) (dRaise A.c_Wrong w (dCons (dVar 2) dNil)) dNext)
 (dSeq (dPutN A.c_Outgoing (dVar 1) (dVar 0) "stream")
 (dSeq (dPutN A.c_Outgoing (dVar 2) (dVar 0) "keep")
 (dSeq (dPutN A.c_Outgoing (dC (.int 0)) (dVar 0) "base")
 (dSeq (dPutN A.c_Outgoing (dLst dNil) (dVar 0) "kept")
 (dSeq (dPutN A.c_Outgoing (dC (.int 0)) (dVar 0) "taken")
 (dSeq (dPutN A.c_Outgoing (dC (.int 0)) (dVar 0) "sent")
 (dSeq (dPutN A.c_Outgoing (dLst dNil) (dVar 0) "got_ranges")
 (dSeq (dPutN A.c_Outgoing (dLst dNil) (dVar 0) "lost_ranges")
 (dSeq (dPutN A.c_Outgoing (dC (.bl false)) (dVar 0) "finished")
 (dSeq (dPutN A.c_Outgoing (dC (.str "unsent")) (dVar 0) "last")
 (dPutN A.c_Outgoing (dC .non) (dVar 0) "broken"))))))))))))
--SPEC Outgoing.must_stand
def d_Outgoing_must_stand (A : Ad) (w : WD) : DStm :=
 (dIf (dTest (dOp (dIs true) (dFld (dVar 0) "broken") (dC .non))) (dRaise A.c_DeedWrong w (dCons (dC (.str "broken")) dNil)) dNext)
--SPEC Outgoing.is_done
def d_Outgoing_is_done (A : Ad) (w : WD) : DStm :=
 (dSeq (dIf (dTest (dOp (dIs true) (dFld (dVar 0) "broken") (dC .non))) (dRet (dOp (dEq false) (dFld (dVar 0) "broken") (dC (.str "got")))) dNext)
 (dRet (dAndV (dFld (dVar 0) "finished") (dAndV (dOp (dEq false) (dFld (dVar 0) "last") (dC (.str "got"))) (dOp (dEq false) (dFld (dVar 0) "base") (dFld (dVar 0) "taken"))))))
--SPEC Outgoing.write
def d_Outgoing_write (A : Ad) (w : WD) : DStm :=
 (dSeq (dExpr (dMeth A.c_Outgoing "must_stand" w (sd_Outgoing_must_stand A) (dVar 0) dNil))
 (dSeq (dIf (dTest (dFld (dVar 0) "finished")) (dRaise A.c_DeedWrong w (dCons (dC (.str "finished")) dNil)) dNext)
 (dSeq (dAsg (dCB (b3 min3) (dCons (dCB bLen (dCons (dVar 1) dNil)) (dCons (dOp dSub (dOp dAdd (dFld (dVar 0) "base") (dFld (dVar 0) "keep")) (dFld (dVar 0) "taken")) (dCons (dOp dSub (dC (.int 16777215)) (dFld (dVar 0) "taken")) dNil)))) (dgName 2))
 (dSeq (dPutF (dOp dAdd (dFld (dVar 0) "kept") (dCB bList (dCons (dSlice (dVar 1) oNo (oPart (dVar 2))) dNil))) (dVar 0) "kept")
 (dSeq (dAugF (dVar 0) (dVar 2) "taken")
 (dRet (dVar 2)))))))
--SPEC Outgoing.breaks
def d_Outgoing_breaks (A : Ad) (w : WD) : DStm :=
 (dSeq (dExpr (dMeth A.c_Outgoing "must_stand" w (sd_Outgoing_must_stand A) (dVar 0) dNil))
 (dSeq (dIf (dTest (dMeth A.c_Outgoing "is_done" w (sd_Outgoing_is_done A) (dVar 0) dNil)) (dRaise A.c_DeedWrong w (dCons (dC (.str "done")) dNil)) dNext)
 (dSeq (dPutF (dC (.str "due")) (dVar 0) "broken")
 (dAsg (dTup (dCons (dLst dNil) (dCons (dLst dNil) (dCons (dLst dNil) dNil)))) (kTupG 3 (dgCons (dgFld (dVar 0) "kept") (dgCons (dgFld (dVar 0) "lost_ranges") (dgCons (dgFld (dVar 0) "got_ranges") dgNil))))))))
--SPEC Outgoing.finish
def d_Outgoing_finish (A : Ad) (w : WD) : DStm :=
 (dSeq (dExpr (dMeth A.c_Outgoing "must_stand" w (sd_Outgoing_must_stand A) (dVar 0) dNil))
 (dSeq (dIf (dTest (dFld (dVar 0) "finished")) (dRaise A.c_DeedWrong w (dCons (dC (.str "finished")) dNil)) dNext)
 (dPutF (dC (.bl true)) (dVar 0) "finished")))
--SPEC Outgoing.next_break
def d_Outgoing_next_break (A : Ad) (w : WD) : DStm :=
 (dSeq (dIf (dTest (dOp (dEq true) (dFld (dVar 0) "broken") (dC (.str "due")))) (dRet (dC .non)) dNext)
 (dSeq (dPutF (dC (.str "flying")) (dVar 0) "broken")
 (dRet (dTup (dCons (dC (.str "break")) (dCons (dFld (dVar 0) "stream") (dCons (dFld (dVar 0) "sent") dNil)))))))
--SPEC Outgoing.piece
def d_Outgoing_piece (A : Ad) (w : WD) : DStm :=
 (dSeq (dPutF (dIfE (dTest (dOp dGt (dVar 2) (dVar 1))) (dCall w (sd_drop_range A) (dCons (dFld (dVar 0) "lost_ranges") (dCons (dVar 1) (dCons (dOp dSub (dVar 2) (dC (.int 1))) dNil)))) (dFld (dVar 0) "lost_ranges")) (dVar 0) "lost_ranges")
 (dSeq (dPutF (dCB (b2 max) (dCons (dFld (dVar 0) "sent") (dCons (dVar 2) dNil))) (dVar 0) "sent")
 (dSeq (dAsg (dAndV (dFld (dVar 0) "finished") (dOp (dEq false) (dVar 2) (dFld (dVar 0) "taken"))) (dgName 3))
 (dSeq (dIf (dAnd (dTest (dVar 3)) (dTest (dOp (dEq true) (dFld (dVar 0) "last") (dC (.str "got"))))) (dPutF (dC (.str "flying")) (dVar 0) "last") dNext)
 (dRet (dTup (dCons (dC (.str "data")) (dCons (dFld (dVar 0) "stream") (dCons (dVar 1) (dCons (dCB bTuple (dCons (dSlice (dFld (dVar 0) "kept") (oPart (dOp dSub (dVar 1) (dFld (dVar 0) "base"))) (oPart (dOp dSub (dVar 2) (dFld (dVar 0) "base")))) dNil)) (dCons (dIfE (dTest (dVar 3)) (dC (.int 1)) (dC (.int 0))) dNil)))))))))))
--SPEC Outgoing.next
def d_Outgoing_next (A : Ad) (w : WD) : DStm :=
 (dSeq (dIf (dTest (dOp dLt (dVar 1) (dC (.int 0)))) (dRet (dC .non)) dNext)
 (dSeq (dIf (dTest (dOp (dIs true) (dFld (dVar 0) "broken") (dC .non))) (dRet (dMeth A.c_Outgoing "next_break" w (sd_Outgoing_next_break A) (dVar 0) dNil)) dNext)
 (dSeq (dIf (dAnd (dTest (dOp dGt (dCB bLen (dCons (dFld (dVar 0) "lost_ranges") dNil)) (dC (.int 0)))) (dTest (dOp dGt (dVar 1) (dC (.int 0))))) (dSeq (dAsg (dOp dIx (dFld (dVar 0) "lost_ranges") (dC (.int 0))) (kTupG 2 (dgCons (dgName 3) (dgCons (dgName 4) dgNil))))
 (dRet (dMeth A.c_Outgoing "piece" w (sd_Outgoing_piece A) (dVar 0) (dCons (dVar 3) (dCons (dCB (b2 min) (dCons (dOp dAdd (dVar 4) (dC (.int 1))) (dCons (dOp dAdd (dVar 3) (dVar 1)) dNil))) dNil))))) dNext)
 (dSeq (dAsg (dCB (b3 min3) (dCons (dFld (dVar 0) "taken") (dCons (dVar 2) (dCons (dOp dAdd (dFld (dVar 0) "sent") (dVar 1)) dNil)))) (dgName 4))
 (dSeq (dIf (dTest (dOp dGt (dVar 4) (dFld (dVar 0) "sent"))) (dRet (dMeth A.c_Outgoing "piece" w (sd_Outgoing_piece A) (dVar 0) (dCons (dFld (dVar 0) "sent") (dCons (dVar 4) dNil)))) dNext)
 (dSeq (dIf (dAnd (dTest (dFld (dVar 0) "finished")) (dAnd (dTest (dOp (dIn false) (dFld (dVar 0) "last") (dTup (dCons (dC (.str "unsent")) (dCons (dC (.str "lost")) dNil))))) (dTest (dOp (dEq false) (dFld (dVar 0) "sent") (dFld (dVar 0) "taken"))))) (dRet (dMeth A.c_Outgoing "piece" w (sd_Outgoing_piece A) (dVar 0) (dCons (dFld (dVar 0) "taken") (dCons (dFld (dVar 0) "taken") dNil)))) dNext)
 (dRet (dC .non))))))))
--SPEC Outgoing.got
def t_Outgoing_got_125 (A : Ad) (w : WD) : DStm :=
 (dIf (dAnd (dTest (dOp dGt (dCB bLen (dCons (dFld (dVar 0) "got_ranges") dNil)) (dC (.int 0)))) (dTest (dOp (dEq false) (dOp dIx (dOp dIx (dFld (dVar 0) "got_ranges") (dC (.int 0))) (dC (.int 0))) (dFld (dVar 0) "base")))) (dSeq (dAsg (dOp dAdd (dOp dIx (dOp dIx (dFld (dVar 0) "got_ranges") (dC (.int 0))) (dC (.int 1))) (dC (.int 1))) (dgName 4))
 (dSeq (dPutF (dSlice (dFld (dVar 0) "kept") (oPart (dOp dSub (dVar 4) (dFld (dVar 0) "base"))) oNo) (dVar 0) "kept")
 (dSeq (dPutF (dVar 4) (dVar 0) "base")
 (dPutF (dSlice (dFld (dVar 0) "got_ranges") (oPart (dC (.int 1))) oNo) (dVar 0) "got_ranges")))) dNext)
def t_Outgoing_got_123 (A : Ad) (w : WD) : DStm :=
 (dSeq (dIf (dTest (dOp (dEq false) (dOp dIx (dVar 1) (dC (.int 4))) (dC (.int 1)))) (dPutF (dC (.str "got")) (dVar 0) "last") dNext)
 (t_Outgoing_got_125 A w))
def d_Outgoing_got (A : Ad) (w : WD) : DStm :=
 (dSeq (dIf (dTest (dOp (dEq false) (dOp dIx (dVar 1) (dC (.int 0))) (dC (.str "break")))) (dPutF (dC (.str "got")) (dVar 0) "broken") dNext)
 (dSeq (dIf (dTest (dOp (dIs true) (dFld (dVar 0) "broken") (dC .non))) dRetN dNext)
 (dSeq (dPar 2 3 (dCons (dOp dIx (dVar 1) (dC (.int 2))) (dCons (dOp dSub (dOp dAdd (dOp dIx (dVar 1) (dC (.int 2))) (dCB bLen (dCons (dOp dIx (dVar 1) (dC (.int 3))) dNil))) (dC (.int 1))) dNil)))
 (dSeq (dIf (dTest (dOp dGe (dVar 3) (dVar 2))) (dSeq (dPutF (dCall w (sd_drop_range A) (dCons (dFld (dVar 0) "lost_ranges") (dCons (dVar 2) (dCons (dVar 3) dNil)))) (dVar 0) "lost_ranges")
 (dIf (dTest (dOp dGe (dVar 3) (dFld (dVar 0) "base"))) (dPutF (dCall w (sd_put_range A) (dCons (dFld (dVar 0) "got_ranges") (dCons (dCB (b2 max) (dCons (dVar 2) (dCons (dFld (dVar 0) "base") dNil))) (dCons (dVar 3) dNil)))) (dVar 0) "got_ranges") dNext)) dNext)
 (t_Outgoing_got_123 A w)))))
--SPEC Outgoing.lost
def b_Outgoing_lost_1 (A : Ad) (w : WD) : DStm :=
 (dPutF (dCall w (sd_put_range A) (dCons (dFld (dVar 0) "lost_ranges") (dCons (dVar 5) (dCons (dVar 6) dNil)))) (dVar 0) "lost_ranges")
def t_Outgoing_lost_141 (A : Ad) (w : WD) : DStm :=
 (dSeq (dIf (dAnd (dTest (dOp (dEq false) (dOp dIx (dVar 1) (dC (.int 4))) (dC (.int 1)))) (dTest (dOp (dEq false) (dFld (dVar 0) "last") (dC (.str "flying"))))) (dSeq (dPutF (dC (.str "lost")) (dVar 0) "last")
 (dRet (dC (.bl true)))) dNext)
 (dRet (dOp dGt (dCB bLen (dCons (dVar 4) dNil)) (dC (.int 0)))))
def t_Outgoing_lost_139 (A : Ad) (w : WD) : DStm :=
 (dSeq (dFor (iSeq (dVar 4)) (kTupG 2 (dgCons (dgName 5) (dgCons (dgName 6) dgNil))) (b_Outgoing_lost_1 A w))
 (t_Outgoing_lost_141 A w))
def t_Outgoing_lost_138 (A : Ad) (w : WD) : DStm :=
 (dSeq (dAsg (dIfE (dTest (dOp dGe (dVar 3) (dVar 2))) (dCall w (sd_drop_all A) (dCons (dLst (dCons (dTup (dCons (dVar 2) (dCons (dVar 3) dNil))) dNil)) (dCons (dFld (dVar 0) "got_ranges") dNil))) (dLst dNil)) (dgName 4))
 (t_Outgoing_lost_139 A w))
def d_Outgoing_lost (A : Ad) (w : WD) : DStm :=
 (dSeq (dIf (dAnd (dTest (dOp (dEq false) (dOp dIx (dVar 1) (dC (.int 0))) (dC (.str "break")))) (dTest (dOp (dEq false) (dFld (dVar 0) "broken") (dC (.str "flying"))))) (dSeq (dPutF (dC (.str "due")) (dVar 0) "broken")
 (dRet (dC (.bl true)))) dNext)
 (dSeq (dIf (dTest (dOp (dIs true) (dFld (dVar 0) "broken") (dC .non))) (dRet (dC (.bl false))) dNext)
 (dSeq (dPar 2 3 (dCons (dCB (b2 max) (dCons (dOp dIx (dVar 1) (dC (.int 2))) (dCons (dFld (dVar 0) "base") dNil))) (dCons (dOp dSub (dOp dAdd (dOp dIx (dVar 1) (dC (.int 2))) (dCB bLen (dCons (dOp dIx (dVar 1) (dC (.int 3))) dNil))) (dC (.int 1))) dNil)))
 (t_Outgoing_lost_138 A w))))
--SPEC Outgoing.is_due
def d_Outgoing_is_due (A : Ad) (w : WD) : DStm :=
 (dSeq (dIf (dTest (dOp (dIs true) (dFld (dVar 0) "broken") (dC .non))) (dRet (dOp (dEq false) (dFld (dVar 0) "broken") (dC (.str "due")))) dNext)
 (dSeq (dIf (dOr (dTest (dOp dGt (dCB bLen (dCons (dFld (dVar 0) "lost_ranges") dNil)) (dC (.int 0)))) (dTest (dOp dGt (dCB (b2 min) (dCons (dFld (dVar 0) "taken") (dCons (dVar 1) dNil))) (dFld (dVar 0) "sent")))) (dRet (dC (.bl true))) dNext)
 (dRet (dAndV (dFld (dVar 0) "finished") (dAndV (dOp (dIn false) (dFld (dVar 0) "last") (dTup (dCons (dC (.str "unsent")) (dCons (dC (.str "lost")) dNil)))) (dOp (dEq false) (dFld (dVar 0) "sent") (dFld (dVar 0) "taken")))))))
--SPEC Outgoing.memory
def d_Outgoing_memory (A : Ad) (w : WD) : DStm :=
 (dRet (dCB bLen (dCons (dFld (dVar 0) "kept") dNil)))
--SPEC Incoming.__init__
def d_Incoming___init__ (A : Ad) (w : WD) : DStm :=
 (dSeq (dIf (dOr (dNot (dTest (dCB bIsi (dCons (dVar 2) (dCons (dC (.ty "int")) dNil))))) (dOr (dTest (dCB bIsi (dCons (dVar 2) (dCons (dC (.ty "bool")) dNil)))) (dTest (dOp dLt (dVar 2) (dC (.int 1)))))) (dRaise A.c_Wrong w (dCons (dVar 2) dNil)) dNext)
 (dSeq (dPutN A.c_Incoming (dVar 1) (dVar 0) "stream")
 (dSeq (dPutN A.c_Incoming (dVar 2) (dVar 0) "room")
 (dSeq (dPutN A.c_Incoming (dVar 2) (dVar 0) "upto")
 (dSeq (dPutN A.c_Incoming (dC (.int 0)) (dVar 0) "read_upto")
 (dSeq (dPutN A.c_Incoming (dC (.int 0)) (dVar 0) "greatest")
 (dSeq (dPutN A.c_Incoming (dC .non) (dVar 0) "end")
 (dSeq (dPutN A.c_Incoming (dLst dNil) (dVar 0) "come")
 (dSeq (dPutN A.c_Incoming (dLst dNil) (dVar 0) "parts")
 (dSeq (dPutN A.c_Incoming (dC (.bl false)) (dVar 0) "is_broken")
 (dPutN A.c_Incoming (dC (.int 0)) (dVar 0) "skipped")))))))))))
--SPEC Incoming.wrong
def d_Incoming_wrong (A : Ad) (w : WD) : DStm :=
 (dSeq (dAsg (dIfE (dTest (dOp (dEq false) (dOp dIx (dVar 1) (dC (.int 0))) (dC (.str "break")))) (dOp dIx (dVar 1) (dC (.int 2))) (dOp dAdd (dOp dIx (dVar 1) (dC (.int 2))) (dCB bLen (dCons (dOp dIx (dVar 1) (dC (.int 3))) dNil)))) (dgName 2))
 (dSeq (dIf (dTest (dOp dGt (dVar 2) (dFld (dVar 0) "upto"))) (dRet (dC (.str "room"))) dNext)
 (dSeq (dIf (dTest (dOp (dEq false) (dOp dIx (dVar 1) (dC (.int 0))) (dC (.str "break")))) (dRet (dIfE (dOr (dTest (dOp dLt (dVar 2) (dFld (dVar 0) "greatest"))) (dAnd (dTest (dOp (dIs true) (dFld (dVar 0) "end") (dC .non))) (dTest (dOp (dEq true) (dVar 2) (dFld (dVar 0) "end"))))) (dC (.str "last")) (dC .non))) dNext)
 (dSeq (dIf (dAnd (dTest (dOp (dEq false) (dOp dIx (dVar 1) (dC (.int 4))) (dC (.int 1)))) (dOr (dTest (dOp dLt (dVar 2) (dFld (dVar 0) "greatest"))) (dAnd (dTest (dOp (dIs true) (dFld (dVar 0) "end") (dC .non))) (dTest (dOp (dEq true) (dVar 2) (dFld (dVar 0) "end")))))) (dRet (dC (.str "last"))) dNext)
 (dSeq (dIf (dAnd (dTest (dOp (dIs true) (dFld (dVar 0) "end") (dC .non))) (dTest (dOp dGt (dVar 2) (dFld (dVar 0) "end")))) (dRet (dC (.str "last"))) dNext)
 (dRet (dC .non)))))))
--SPEC Incoming.ready
def d_Incoming_ready (A : Ad) (w : WD) : DStm :=
 (dSeq (dIf (dAnd (dTest (dOp dGt (dCB bLen (dCons (dFld (dVar 0) "come") dNil)) (dC (.int 0)))) (dTest (dOp (dEq false) (dOp dIx (dOp dIx (dFld (dVar 0) "come") (dC (.int 0))) (dC (.int 0))) (dFld (dVar 0) "read_upto")))) (dRet (dOp dSub (dOp dAdd (dOp dIx (dOp dIx (dFld (dVar 0) "come") (dC (.int 0))) (dC (.int 1))) (dC (.int 1))) (dFld (dVar 0) "read_upto"))) dNext)
 (dRet (dC (.int 0))))
--SPEC Incoming.is_whole
def d_Incoming_is_whole (A : Ad) (w : WD) : DStm :=
 (dSeq (dIf (dTest (dFld (dVar 0) "is_broken")) (dRet (dC (.bl true))) dNext)
 (dRet (dAndV (dOp (dIs true) (dFld (dVar 0) "end") (dC .non)) (dOp (dEq false) (dOp dAdd (dFld (dVar 0) "read_upto") (dMeth A.c_Incoming "ready" w (sd_Incoming_ready A) (dVar 0) dNil)) (dFld (dVar 0) "end")))))
--SPEC Incoming.take_break
def d_Incoming_take_break (A : Ad) (w : WD) : DStm :=
 (dSeq (dIf (dOr (dTest (dFld (dVar 0) "is_broken")) (dTest (dMeth A.c_Incoming "is_whole" w (sd_Incoming_is_whole A) (dVar 0) dNil))) dRetN dNext)
 (dSeq (dPutF (dC (.bl true)) (dVar 0) "is_broken")
 (dSeq (dAsg (dTup (dCons (dVar 1) (dCons (dVar 1) dNil))) (kTupG 2 (dgCons (dgFld (dVar 0) "greatest") (dgCons (dgFld (dVar 0) "end") dgNil))))
 (dSeq (dPutF (dOp dSub (dVar 1) (dFld (dVar 0) "read_upto")) (dVar 0) "skipped")
 (dSeq (dPutF (dVar 1) (dVar 0) "read_upto")
 (dAsg (dTup (dCons (dLst dNil) (dCons (dLst dNil) dNil))) (kTupG 2 (dgCons (dgFld (dVar 0) "come") (dgCons (dgFld (dVar 0) "parts") dgNil)))))))))
--SPEC Incoming.take
def b_Incoming_take_1 (A : Ad) (w : WD) : DStm :=
 (dSeq (dPutF (dCB bSortH (dCons (dOp dAdd (dFld (dVar 0) "parts") (dLst (dCons (dTup (dCons (dVar 5) (dCons (dCB bTuple (dCons (dSlice (dOp dIx (dVar 1) (dC (.int 3))) (oPart (dOp dSub (dVar 5) (dVar 3))) (oPart (dOp dSub (dOp dAdd (dVar 6) (dC (.int 1))) (dVar 3)))) dNil)) dNil))) dNil))) dNil)) (dVar 0) "parts")
 (dPutF (dCall w (sd_put_range A) (dCons (dFld (dVar 0) "come") (dCons (dVar 5) (dCons (dVar 6) dNil)))) (dVar 0) "come"))
def t_Incoming_take_203 (A : Ad) (w : WD) : DStm :=
 (dSeq (dFor (iSeq (dCall w (sd_gaps A) (dCons (dFld (dVar 0) "come") (dCons (dCB (b2 max) (dCons (dVar 3) (dCons (dFld (dVar 0) "read_upto") dNil))) (dCons (dOp dSub (dVar 4) (dC (.int 1))) dNil))))) (kTupG 2 (dgCons (dgName 5) (dgCons (dgName 6) dgNil))) (b_Incoming_take_1 A w))
 (dRet (dC .non)))
def t_Incoming_take_201 (A : Ad) (w : WD) : DStm :=
 (dSeq (dIf (dTest (dOp (dEq false) (dOp dIx (dVar 1) (dC (.int 4))) (dC (.int 1)))) (dPutF (dVar 4) (dVar 0) "end") dNext)
 (t_Incoming_take_203 A w))
def t_Incoming_take_199 (A : Ad) (w : WD) : DStm :=
 (dSeq (dPar 3 4 (dCons (dOp dIx (dVar 1) (dC (.int 2))) (dCons (dOp dAdd (dOp dIx (dVar 1) (dC (.int 2))) (dCB bLen (dCons (dOp dIx (dVar 1) (dC (.int 3))) dNil))) dNil)))
 (dSeq (dPutF (dCB (b2 max) (dCons (dFld (dVar 0) "greatest") (dCons (dVar 4) dNil))) (dVar 0) "greatest")
 (t_Incoming_take_201 A w)))
def d_Incoming_take (A : Ad) (w : WD) : DStm :=
 (dSeq (dAsg (dMeth A.c_Incoming "wrong" w (sd_Incoming_wrong A) (dVar 0) (dCons (dVar 1) dNil)) (dgName 2))
 (dSeq (dIf (dTest (dOp (dIs true) (dVar 2) (dC .non))) (dRet (dVar 2)) dNext)
 (dSeq (dIf (dTest (dOp (dEq false) (dOp dIx (dVar 1) (dC (.int 0))) (dC (.str "break")))) (dSeq (dExpr (dMeth A.c_Incoming "take_break" w (sd_Incoming_take_break A) (dVar 0) (dCons (dOp dIx (dVar 1) (dC (.int 2))) dNil)))
 (dRet (dC .non))) dNext)
 (dSeq (dIf (dTest (dFld (dVar 0) "is_broken")) (dRet (dC .non)) dNext)
 (t_Incoming_take_199 A w)))))
--SPEC Incoming.read
def b_Incoming_read_1 (A : Ad) (w : WD) : DStm :=
 (dSeq (dAsg (dOp dIx (dFld (dVar 0) "parts") (dC (.int 0))) (kTupG 2 (dgCons (dgName 4) (dgCons (dgName 5) dgNil))))
 (dSeq (dAsg (dSlice (dVar 5) oNo (oPart (dOp dSub (dVar 2) (dCB bLen (dCons (dVar 3) dNil))))) (dgName 6))
 (dSeq (dAsg (dOp dAdd (dVar 3) (dCB bList (dCons (dVar 6) dNil))) (dgName 3))
 (dSeq (dAsg (dIfE (dTest (dOp dLt (dCB bLen (dCons (dVar 6) dNil)) (dCB bLen (dCons (dVar 5) dNil)))) (dLst (dCons (dTup (dCons (dOp dAdd (dVar 4) (dCB bLen (dCons (dVar 6) dNil))) (dCons (dSlice (dVar 5) (oPart (dCB bLen (dCons (dVar 6) dNil))) oNo) dNil))) dNil)) (dLst dNil)) (dgName 7))
 (dPutF (dOp dAdd (dVar 7) (dSlice (dFld (dVar 0) "parts") (oPart (dC (.int 1))) oNo)) (dVar 0) "parts")))))
def t_Incoming_read_234 (A : Ad) (w : WD) : DStm :=
 (dSeq (dPutF (dLc (iSeq (dFld (dVar 0) "come")) (kTupG 2 (dgCons (dgName 4) (dgCons (dgName 8) dgNil))) (dTest (dOp dGe (dVar 8) (dFld (dVar 0) "read_upto"))) (dTup (dCons (dCB (b2 max) (dCons (dVar 4) (dCons (dFld (dVar 0) "read_upto") dNil))) (dCons (dVar 8) dNil))) [4, 8]) (dVar 0) "come")
 (dRet (dVar 3)))
def t_Incoming_read_233 (A : Ad) (w : WD) : DStm :=
 (dSeq (dAugF (dVar 0) (dVar 2) "read_upto")
 (t_Incoming_read_234 A w))
def t_Incoming_read_227 (A : Ad) (w : WD) : DStm :=
 (dSeq (dWhile (dTest (dOp dLt (dCB bLen (dCons (dVar 3) dNil)) (dVar 2))) (b_Incoming_read_1 A w))
 (t_Incoming_read_233 A w))
def t_Incoming_read_225 (A : Ad) (w : WD) : DStm :=
 (dSeq (dAsg (dCB (b2 min) (dCons (dVar 1) (dCons (dMeth A.c_Incoming "ready" w (sd_Incoming_ready A) (dVar 0) dNil) dNil))) (dgName 2))
 (dSeq (dAsg (dLst dNil) (dgName 3))
 (t_Incoming_read_227 A w)))
def d_Incoming_read (A : Ad) (w : WD) : DStm :=
 (dSeq (dIf (dTest (dOp dLt (dVar 1) (dC (.int 0)))) (dRaise A.c_DeedWrong w (dCons (dVar 1) dNil)) dNext)
 (t_Incoming_read_225 A w))
--SPEC Incoming.grown
def d_Incoming_grown (A : Ad) (w : WD) : DStm :=
 (dSeq (dAsg (dCB (b2 min) (dCons (dOp dAdd (dFld (dVar 0) "read_upto") (dFld (dVar 0) "room")) (dCons (dC (.int 16777215)) dNil))) (dgName 1))
 (dSeq (dIf (dOr (dTest (dOp (dIs true) (dFld (dVar 0) "end") (dC .non))) (dOr (dTest (dOp dLt (dOp dMul (dC (.int 2)) (dOp dSub (dVar 1) (dFld (dVar 0) "upto"))) (dFld (dVar 0) "room"))) (dTest (dOp dLe (dVar 1) (dFld (dVar 0) "upto"))))) (dRet (dC .non)) dNext)
 (dRet (dVar 1))))
--SPEC Incoming.let
def d_Incoming_let (A : Ad) (w : WD) : DStm :=
 (dSeq (dIf (dTest (dOp dLt (dVar 1) (dFld (dVar 0) "upto"))) (dRaise A.c_DeedWrong w (dCons (dVar 1) dNil)) dNext)
 (dPutF (dVar 1) (dVar 0) "upto"))
--SPEC Incoming.memory
def d_Incoming_memory (A : Ad) (w : WD) : DStm :=
 (dRet (dCall w (sd_count A) (dCons (dFld (dVar 0) "come") dNil)))
--SPEC _law_draws
def d__law_draws (A : Ad) (w : WD) : DStm :=
 (dRet (dLstM (dCons (dCB bList (dCons (dVar 0) dNil)) (dCons (dC (.int 0)) (dCons (dC (.int 0)) (dCons (dC (.int 1)) dNil))))))
--SPEC _law_draw
def d__law_draw (A : Ad) (w : WD) : DStm :=
 (dSeq (dIf (dAnd (dTest (dOp (dEq false) (dOp dIx (dVar 0) (dC (.int 2))) (dC (.int 0)))) (dTest (dOp dLt (dOp dIx (dVar 0) (dC (.int 1))) (dCB bLen (dCons (dOp dIx (dVar 0) (dC (.int 0))) dNil))))) (dSeq (dAsg (dOp dIx (dOp dIx (dVar 0) (dC (.int 0))) (dOp dIx (dVar 0) (dC (.int 1)))) (dgName 2))
 (dSeq (dAsg (dOp dAdd (dOp dIx (dVar 0) (dC (.int 1))) (dC (.int 1))) (dgSub (dVar 0) (dC (.int 1))))
 (dSeq (dIf (dTest (dOp dGe (dVar 2) (dOp dPow (dC (.int 10)) (dC (.int 18))))) (dAsg (dVar 2) (dgSub (dVar 0) (dC (.int 2)))) dNext)
 (dAsg (dOp dMod (dCB bInt (dCons (dOp dAdd (dOp dAdd (dOp dMul (dOp dIx (dVar 0) (dC (.int 3))) (dC (.int 48271))) (dVar 2)) (dC (.int 13))) dNil)) (dC (.int 2147483647))) (dgSub (dVar 0) (dC (.int 3))))))) dNext)
 (dSeq (dIf (dTest (dOp dGt (dOp dIx (dVar 0) (dC (.int 2))) (dC (.int 0)))) (dSeq (dAsg (dOp dMod (dCB bInt (dCons (dOp dIx (dVar 0) (dC (.int 2))) dNil)) (dVar 1)) (dgName 3))
 (dSeq (dAsg (dOp dFdiv (dOp dIx (dVar 0) (dC (.int 2))) (dVar 1)) (dgSub (dVar 0) (dC (.int 2))))
 (dRet (dVar 3)))) dNext)
 (dSeq (dAsg (dOp dMod (dCB bInt (dCons (dOp dAdd (dOp dMul (dOp dIx (dVar 0) (dC (.int 3))) (dC (.int 69621))) (dC (.int 7))) dNil)) (dC (.int 2147483629))) (dgSub (dVar 0) (dC (.int 3))))
 (dRet (dOp dMod (dCB bInt (dCons (dOp dFdiv (dOp dIx (dVar 0) (dC (.int 3))) (dC (.int 11))) dNil)) (dVar 1))))))
--SPEC _law_same
def d__law_same (A : Ad) (sr : DSp) (w : WD) : DStm :=
 (dSeq (dIf (dTest (dOp (dIs false) (dVar 1) (dC .non))) (dRet (dOp (dIs false) (dVar 0) (dC .non))) dNext)
 (dSeq (dIf (dTest (dCB bIsi (dCons (dVar 1) (dCons (dC (.ty "bool")) dNil)))) (dRet (dAndV (dCB bIsi (dCons (dVar 0) (dCons (dC (.ty "bool")) dNil))) (dOp (dEq false) (dVar 0) (dVar 1)))) dNext)
 (dSeq (dIf (dTest (dCB bIsi (dCons (dVar 1) (dCons (dC (.ty "int")) dNil)))) (dRet (dAndV (dCB bIsi (dCons (dVar 0) (dCons (dC (.ty "int")) dNil))) (dAndV (dNotV (dCB bIsi (dCons (dVar 0) (dCons (dC (.ty "bool")) dNil)))) (dOp (dEq false) (dVar 0) (dVar 1))))) dNext)
 (dSeq (dIf (dTest (dCB bIsi (dCons (dVar 1) (dCons (dC (.ty "str")) dNil)))) (dRet (dAndV (dCB bIsi (dCons (dVar 0) (dCons (dC (.ty "str")) dNil))) (dOp (dEq false) (dVar 0) (dVar 1)))) dNext)
 (dSeq (dIf (dTest (dCB bIsi (dCons (dVar 1) (dCons (dC (.ty "dict")) dNil)))) (dSeq dNever
 dNever) dNext)
 (dSeq (dIf (dTest (dCB bIsi (dCons (dVar 1) (dCons (dC (.ty "list")) dNil)))) (dAsg (dCB bIsi (dCons (dVar 0) (dCons (dC (.ty "list")) dNil))) (dgName 2)) (dAsg (dCB bIsi (dCons (dVar 0) (dCons (dC (.ty "tuple")) dNil))) (dgName 2)))
 (dRet (dAndV (dVar 2) (dAndV (dOp (dEq false) (dCB bLen (dCons (dVar 0) dNil)) (dCB bLen (dCons (dVar 1) dNil))) (dCB (bQuant fun bs => bs.all id) (dCons (dLc (iR1 (dCons (dCB bLen (dCons (dVar 1) dNil)) dNil)) (dgName 4) dYes (dCall w0 sr (dCons (dOp dIx (dVar 0) (dVar 4)) (dCons (dOp dIx (dVar 1) (dVar 4)) dNil))) [4]) dNil)))))))))))
--SPEC _law_copy
def d__law_copy (A : Ad) (sr : DSp) (w : WD) : DStm :=
 (dSeq (dIf (dTest (dCB bIsi (dCons (dVar 0) (dCons (dC (.ty "list")) dNil)))) (dRet (dLc (iSeq (dVar 0)) (dgName 3) dYes (dCall w0 sr (dCons (dVar 3) dNil)) [3])) dNext)
 (dSeq (dIf (dTest (dCB bIsi (dCons (dVar 0) (dCons (dC (.ty "tuple")) dNil)))) (dRet (dCB bTuple (dCons (dLc (iSeqT (dVar 0)) (dgName 3) dYes (dCall w0 sr (dCons (dVar 3) dNil)) [3]) dNil))) dNext)
 (dSeq (dIf (dTest (dCB bIsi (dCons (dVar 0) (dCons (dC (.ty "dict")) dNil)))) (dSeq dNever
 (dSeq dNever
 dNever)) dNext)
 (dRet (dVar 0)))))
--SPEC _law_refused
def d__law_refused (A : Ad) (w : WD) : DStm :=
 (dTryAt A.c_DeedWrong 2 "deed" fun w => (dSeq (dIf (dTest (dOp (dEq false) (dVar 1) (dC (.str "write")))) (dRet (dTup (dCons (dC (.str "told")) (dCons (dMeth A.c_Outgoing "write" w (sd_Outgoing_write A) (dVar 0) (dCons (dLst (dCons (dC (.int 1)) dNil)) dNil)) dNil)))) dNext)
 (dRet (dTup (dCons (dC (.str "told")) (dCons (dIfE (dTest (dOp (dEq false) (dVar 1) (dC (.str "finish")))) (dMeth A.c_Outgoing "finish" w (sd_Outgoing_finish A) (dVar 0) dNil) (dMeth A.c_Outgoing "breaks" w (sd_Outgoing_breaks A) (dVar 0) dNil)) dNil))))))
--SPEC _law_broken
def d__law_broken (A : Ad) (w : WD) : DStm :=
 (dSeq (dAsg (dLc (iSeq (dLst (dCons (dC (.str "write")) (dCons (dC (.str "finish")) (dCons (dC (.str "breaks")) dNil))))) (dgName 4) dYes (dCall w0 (sd__law_refused A) (dCons (dVar 1) (dCons (dVar 4) dNil))) [4]) (dgName 3))
 (dSeq (dIf (dOr (dTest (dOp (dEq true) (dVar 3) (dOp dMul (dLst (dCons (dTup (dCons (dC (.str "deed")) (dCons (dC (.str "broken")) dNil))) dNil)) (dC (.int 3))))) (dOr (dTest (dOp (dEq true) (dMeth A.c_Outgoing "memory" w (sd_Outgoing_memory A) (dVar 1) dNil) (dC (.int 0)))) (dOr (dTest (dOp (dEq true) (dFld (dVar 1) "sent") (dVar 2))) (dOr (dTest (dMeth A.c_Outgoing "is_done" w (sd_Outgoing_is_done A) (dVar 1) dNil)) (dTest (dOp (dIs true) (dMeth A.c_Outgoing "is_due" w (sd_Outgoing_is_due A) (dVar 1) (dCons (dC (.int 0)) dNil)) (dC (.bl true)))))))) (dRet (dC (.bl false))) dNext)
 (dRet (dOp (dIs false) (dMeth A.c_Outgoing "next" w (sd_Outgoing_next A) (dVar 1) (dCons (dNeg (dC (.int 1))) (dCons (dOp dPow (dC (.int 10)) (dC (.int 6))) dNil))) (dC .non)))))
--SPEC law
def t_law_350 (A : Ad) (w : WD) : DStm :=
 (dIf (dTest (dOp dLt (dVar 16) (dC (.int 2)))) (dExpr (dMeth A.c_Outgoing "got" w (sd_Outgoing_got A) (dVar 6) (dCons (dVar 14) dNil))) (dApp (dVar 15) (dCons (dVar 14) dNil)))
def t_law_348 (A : Ad) (w : WD) : DStm :=
 (dSeq (dIf (dAnd (dTest (dOp (dEq false) (dOp dIx (dVar 14) (dC (.int 0))) (dC (.str "break")))) (dAnd (dTest (dVar 17)) (dAnd (dTest (dFld (dVar 7) "is_broken")) (dTest (dVar 12))))) (dRet (dC (.bl false))) dNext)
 (t_law_350 A w))
def t_law_346 (A : Ad) (w : WD) : DStm :=
 (dSeq (dIf (dAnd (dTest (dOp (dEq false) (dOp dIx (dVar 14) (dC (.int 0))) (dC (.str "break")))) (dAnd (dNot (dTest (dVar 17))) (dOr (dTest (dOp (dIs true) (dFld (dVar 7) "is_broken") (dC (.bl true)))) (dOr (dTest (dOp (dEq true) (dMeth A.c_Incoming "memory" w (sd_Incoming_memory A) (dVar 7) dNil) (dC (.int 0)))) (dTest (dOp (dEq true) (dOp dAdd (dFld (dVar 7) "skipped") (dCB bLen (dCons (dVar 18) dNil))) (dVar 10))))))) (dRet (dC (.bl false))) dNext)
 (t_law_348 A w))
def t_law_344 (A : Ad) (w : WD) : DStm :=
 (dSeq (dIf (dTest (dOp (dIs true) (dMeth A.c_Incoming "take" w (sd_Incoming_take A) (dVar 7) (dCons (dCall w (sd__law_copy A) (dCons (dVar 14) dNil)) dNil)) (dC .non))) (dRet (dC (.bl false))) dNext)
 (t_law_346 A w))
def t_law_341 (A : Ad) (w : WD) : DStm :=
 (dIf (dTest (dOp dLt (dVar 16) (dC (.int 3)))) (dSeq (dAsg (dMeth A.c_Incoming "is_whole" w (sd_Incoming_is_whole A) (dVar 7) dNil) (dgName 17))
 (dSeq (dAsg (dOp dAdd (dVar 8) (dMeth A.c_Incoming "read" w (sd_Incoming_read A) (dVar 7) (dCons (dC (.int 0)) dNil))) (dgName 18))
 (t_law_344 A w))) (dIf (dTest (dOp (dEq false) (dVar 16) (dC (.int 3)))) (dExpr (dMeth A.c_Outgoing "lost" w (sd_Outgoing_lost A) (dVar 6) (dCons (dVar 14) dNil))) (dApp (dVar 15) (dCons (dVar 14) dNil))))
def b_law_1 (A : Ad) (w : WD) : DStm :=
 (dSeq (dAsg (dIfE (dTest (dOp dLt (dVar 13) (dOp dAdd (dVar 5) (dC (.int 40))))) (dCall w (sd__law_draw A) (dCons (dVar 1) (dCons (dC (.int 6)) dNil))) (dC (.int 0))) (dgName 16))
 (t_law_341 A w))
def t_law_364 (A : Ad) (w : WD) : DStm :=
 (dIf (dOr (dNot (dTest (dCall w (sd__law_same A) (dCons (dVar 8) (dCons (dSlice (dVar 2) oNo (oPart (dCB bLen (dCons (dVar 8) dNil)))) dNil))))) (dOr (dTest (dOp dGt (dMeth A.c_Incoming "memory" w (sd_Incoming_memory A) (dVar 7) dNil) (dVar 3))) (dAnd (dTest (dOp (dIs true) (dVar 11) (dC .non))) (dOr (dTest (dOp (dEq true) (dFld (dVar 6) "base") (dVar 11))) (dTest (dOp (dEq true) (dMeth A.c_Outgoing "memory" w (sd_Outgoing_memory A) (dVar 6) dNil) (dC (.int 0)))))))) (dRet (dC (.bl false))) dNext)
def t_law_361 (A : Ad) (w : WD) : DStm :=
 (dSeq (dAsg (dMeth A.c_Incoming "grown" w (sd_Incoming_grown A) (dVar 7) dNil) (dgName 19))
 (dSeq (dIf (dTest (dOp (dIs true) (dVar 19) (dC .non))) (dExpr (dMeth A.c_Incoming "let" w (sd_Incoming_let A) (dVar 7) (dCons (dVar 19) dNil))) dNext)
 (t_law_364 A w)))
def t_law_360 (A : Ad) (w : WD) : DStm :=
 (dSeq (dAsg (dOp dAdd (dVar 8) (dMeth A.c_Incoming "read" w (sd_Incoming_read A) (dVar 7) (dCons (dCall w (sd__law_draw A) (dCons (dVar 1) (dCons (dC (.int 30)) dNil))) dNil))) (dgName 8))
 (t_law_361 A w))
def t_law_359 (A : Ad) (w : WD) : DStm :=
 (dSeq (dAsg (dAndV (dMeth A.c_Incoming "is_whole" w (sd_Incoming_is_whole A) (dVar 7) dNil) (dNotV (dFld (dVar 7) "is_broken"))) (dgName 12))
 (t_law_360 A w))
def t_law_358 (A : Ad) (w : WD) : DStm :=
 (dSeq (dAsg (dRevM (dVar 15)) (dgName 9))
 (t_law_359 A w))
def t_law_339 (A : Ad) (w : WD) : DStm :=
 (dSeq (dFor (iSeq (dVar 9)) (dgName 14) (b_law_1 A w))
 (t_law_358 A w))
def t_law_338 (A : Ad) (w : WD) : DStm :=
 (dSeq (dAsg (dLstM dNil) (dgName 15))
 (t_law_339 A w))
def t_law_332 (A : Ad) (w : WD) : DStm :=
 (dSeq (dIf (dTest (dOp (dIs true) (dVar 14) (dC .non))) (dSeq (dIf (dOr (dTest (dOp (dEq true) (dOp dIx (dVar 14) (dC (.int 0))) (dIfE (dTest (dOp (dIs false) (dVar 11) (dC .non))) (dC (.str "data")) (dC (.str "break"))))) (dAnd (dTest (dOp (dIs true) (dVar 11) (dC .non))) (dTest (dOp (dEq true) (dVar 14) (dTup (dCons (dC (.str "break")) (dCons (dC (.int 4)) (dCons (dVar 10) dNil)))))))) (dRet (dC (.bl false))) dNext)
 (dSeq (dIf (dTest (dOp (dEq false) (dOp dIx (dVar 14) (dC (.int 0))) (dC (.str "data")))) (dAsg (dCB (b2 max) (dCons (dVar 10) (dCons (dOp dAdd (dOp dIx (dVar 14) (dC (.int 2))) (dCB bLen (dCons (dOp dIx (dVar 14) (dC (.int 3))) dNil))) dNil))) (dgName 10)) dNext)
 (dApp (dVar 9) (dCons (dVar 14) dNil)))) dNext)
 (t_law_338 A w))
def t_law_331 (A : Ad) (w : WD) : DStm :=
 (dSeq (dAsg (dMeth A.c_Outgoing "next" w (sd_Outgoing_next A) (dVar 6) (dCons (dVar 4) (dCons (dFld (dVar 7) "upto") dNil))) (dgName 14))
 (t_law_332 A w))
def b_law_2 (A : Ad) (w : WD) : DStm :=
 (dSeq (dIf (dTest (dOp (dEq false) (dVar 13) (dVar 5))) (dSeq (dIf (dTest (dMeth A.c_Outgoing "is_done" w (sd_Outgoing_is_done A) (dVar 6) dNil)) (dRet (dCall w (sd__law_same A) (dCons (dCall w (sd__law_refused A) (dCons (dVar 6) (dCons (dC (.str "breaks")) dNil))) (dCons (dTup (dCons (dC (.str "deed")) (dCons (dC (.str "done")) dNil))) dNil)))) dNext)
 (dSeq (dIf (dOr (dTest (dOp (dEq true) (dCall w (sd__law_refused A) (dCons (dVar 6) (dCons (dC (.str "breaks")) dNil))) (dTup (dCons (dC (.str "told")) (dCons (dC .non) dNil))))) (dNot (dTest (dCall w (sd__law_broken A) (dCons (dVar 1) (dCons (dVar 6) (dCons (dVar 10) dNil))))))) (dRet (dC (.bl false))) dNext)
 (dAsg (dFld (dVar 6) "base") (dgName 11)))) dNext)
 (t_law_331 A w))
def t_law_366 (A : Ad) (w : WD) : DStm :=
 (dRet (dAndV (dMeth A.c_Outgoing "is_done" w (sd_Outgoing_is_done A) (dVar 6) dNil) (dAndV (dMeth A.c_Incoming "is_whole" w (sd_Incoming_is_whole A) (dVar 7) dNil) (dAndV (dOp (dIs false) (dMeth A.c_Outgoing "next" w (sd_Outgoing_next A) (dVar 6) (dCons (dC (.int 5)) (dCons (dOp dPow (dC (.int 10)) (dC (.int 6))) dNil))) (dC .non)) (dOrV (dFld (dVar 7) "is_broken") (dOp (dEq false) (dOp dAdd (dCB bLen (dCons (dVar 8) dNil)) (dMeth A.c_Incoming "ready" w (sd_Incoming_ready A) (dVar 7) dNil)) (dCB bLen (dCons (dVar 2) dNil))))))))
def t_law_324 (A : Ad) (w : WD) : DStm :=
 (dSeq (dFor (iR1 (dCons (dOp dAdd (dVar 5) (dC (.int 60))) dNil)) (dgName 13) (b_law_2 A w))
 (t_law_366 A w))
def t_law_323 (A : Ad) (w : WD) : DStm :=
 (dSeq (dAsg (dTup (dCons (dLst dNil) (dCons (dLstM dNil) (dCons (dC (.int 0)) (dCons (dC .non) (dCons (dC (.bl false)) dNil)))))) (kTupG 5 (dgCons (dgName 8) (dgCons (dgName 9) (dgCons (dgName 10) (dgCons (dgName 11) (dgCons (dgName 12) dgNil)))))))
 (t_law_324 A w))
def t_law_321 (A : Ad) (w : WD) : DStm :=
 (dSeq (dIf (dTest (dOp (dEq false) (dCall w (sd__law_draw A) (dCons (dVar 1) (dCons (dC (.int 2)) dNil))) (dC (.int 0)))) (dExpr (dMeth A.c_Outgoing "finish" w (sd_Outgoing_finish A) (dVar 6) dNil)) dNext)
 (t_law_323 A w))
def t_law_320 (A : Ad) (w : WD) : DStm :=
 (dSeq (dExpr (dMeth A.c_Outgoing "write" w (sd_Outgoing_write A) (dVar 6) (dCons (dCB bList (dCons (dVar 2) dNil)) dNil)))
 (t_law_321 A w))
def t_law_319 (A : Ad) (w : WD) : DStm :=
 (dSeq (dPar 6 7 (dCons (dMake A.c_Outgoing (sd_Outgoing___init__ A) (dCons (dC (.int 4)) (dCons (dC (.int 5000)) dNil))) (dCons (dMake A.c_Incoming (sd_Incoming___init__ A) (dCons (dC (.int 4)) (dCons (dVar 3) dNil))) dNil)))
 (t_law_320 A w))
def d_law (A : Ad) (w : WD) : DStm :=
 (dSeq (dAsg (dCall w (sd__law_draws A) (dCons (dVar 0) dNil)) (dgName 1))
 (dSeq (dAsg (dLc (iR1 (dCons (dOp dIx (dLst (dCons (dC (.int 1)) (dCons (dC (.int 20)) (dCons (dC (.int 90)) dNil)))) (dCall w (sd__law_draw A) (dCons (dVar 1) (dCons (dC (.int 3)) dNil)))) dNil)) (dgName 20) dYes (dCall w0 (sd__law_draw A) (dCons (dVar 1) (dCons (dC (.int 256)) dNil))) [20]) (dgName 2))
 (dSeq (dPar3 3 4 5 (dCons (dOp dIx (dLst (dCons (dC (.int 3)) (dCons (dC (.int 20)) (dCons (dC (.int 5000)) dNil)))) (dCall w (sd__law_draw A) (dCons (dVar 1) (dCons (dC (.int 3)) dNil)))) (dCons (dOp dAdd (dC (.int 1)) (dCall w (sd__law_draw A) (dCons (dVar 1) (dCons (dC (.int 12)) dNil)))) (dCons (dCall w (sd__law_draw A) (dCons (dVar 1) (dCons (dC (.int 50)) dNil))) dNil))))
 (t_law_319 A w))))
end K23

namespace K23
open PySem L2 DL RG
set_option maxRecDepth 100000 in
set_option maxRecDepth 100000 in
theorem der_put_range {P : Program} {wd : World} {K : PySem.W.Frag} {mg : Str → Option Value} {base : Heap} {A : Ad} (T : Facts P K mg A)
    (cdv : Value) (AA : Around) (outer : List Env) (s : Shared) (H : Hp) (E : XK) (w : WD) (hr : Room 3 (AA.deeper (PyProof.Rows.envOfC "put_range" (defScope s_put_range) s.heap.objs.size A.f_put_range cdv))) (tk : Takes (cxOf (CX P wd) P wd K mg base N_put_range "put_range" (defScope s_put_range) A.f_put_range cdv AA outer s H E) (fun cls d _ H => E cls d H)) :
    PDSs (cxOf (CX P wd) P wd K mg base N_put_range "put_range" (defScope s_put_range) A.f_put_range cdv AA outer s H E) (fun cls d _ H => E cls d H) w (defBody s_put_range) (d_put_range A w) :=
 (pdss_cons (pds_set (i := 3) sc_put_range.nd (pd_lstM pda_nil))
 (pdss_cons (pds_for (passes_of rfl) rfl (pdi_seq (pd_var 0)) (pdg_tup rfl (pdgs_cons (pdg_name (i := 4) sc_put_range.nd) (pdgs_cons (pdg_name (i := 5) sc_put_range.nd) pdgs_nil)))
 (pdss_one (pds_if (pdt_w (pdw_or (pdt_lt (pd_add (pd_var 5) pd_int) (pd_var 1)) (pdw_or1 (pdt_lt (pd_add (pd_var 2) pd_int) (pd_var 4)))))
 (pdss_one (pds_append (pd_var 3) (pda_cons (pd_tup (pda_cons (pd_var 4) (pda_cons (pd_var 5) pda_nil))) pda_nil)))
 (pdss_one (pds_par (i := 1) (j := 2) rfl sc_put_range.nd (pda_cons (pd_min rfl T.n_min (pda_cons (pd_var 1) (pda_cons (pd_var 4) pda_nil))) (pda_cons (pd_max rfl T.n_max (pda_cons (pd_var 2) (pda_cons (pd_var 5) pda_nil))) pda_nil)))))))
 (pdss_one (pds_ret (pd_sortH T.n_sorted (pda_cons (pd_add (pd_var 3) (pd_lst (pda_cons (pd_tup (pda_cons (pd_var 1) (pda_cons (pd_var 2) pda_nil))) pda_nil))) pda_nil))))))
set_option maxRecDepth 100000 in
theorem der_drop_range {P : Program} {wd : World} {K : PySem.W.Frag} {mg : Str → Option Value} {base : Heap} {A : Ad} (T : Facts P K mg A)
    (cdv : Value) (AA : Around) (outer : List Env) (s : Shared) (H : Hp) (E : XK) (w : WD) (hr : Room 3 (AA.deeper (PyProof.Rows.envOfC "drop_range" (defScope s_drop_range) s.heap.objs.size A.f_drop_range cdv))) (tk : Takes (cxOf (CX P wd) P wd K mg base N_drop_range "drop_range" (defScope s_drop_range) A.f_drop_range cdv AA outer s H E) (fun cls d _ H => E cls d H)) :
    PDSs (cxOf (CX P wd) P wd K mg base N_drop_range "drop_range" (defScope s_drop_range) A.f_drop_range cdv AA outer s H E) (fun cls d _ H => E cls d H) w (defBody s_drop_range) (d_drop_range A w) :=
 (pdss_cons (pds_set (i := 3) sc_drop_range.nd (pd_lstM pda_nil))
 (pdss_cons (pds_for (passes_of rfl) rfl (pdi_seq (pd_var 0)) (pdg_tup rfl (pdgs_cons (pdg_name (i := 4) sc_drop_range.nd) (pdgs_cons (pdg_name (i := 5) sc_drop_range.nd) pdgs_nil)))
 (pdss_cons (pds_if (pdt_lt (pd_var 4) (pd_var 1))
 (pdss_one (pds_append (pd_var 3) (pda_cons (pd_tup (pda_cons (pd_var 4) (pda_cons (pd_min rfl T.n_min (pda_cons (pd_var 5) (pda_cons (pd_sub (pd_var 1) pd_int) pda_nil))) pda_nil))) pda_nil)))
 pdss_nil)
 (pdss_one (pds_if (pdt_gt (pd_var 5) (pd_var 2))
 (pdss_one (pds_append (pd_var 3) (pda_cons (pd_tup (pda_cons (pd_max rfl T.n_max (pda_cons (pd_var 4) (pda_cons (pd_add (pd_var 2) pd_int) pda_nil))) (pda_cons (pd_var 5) pda_nil))) pda_nil)))
 pdss_nil))))
 (pdss_one (pds_ret (pd_lc (own := [("pair", 6)]) rfl sc_drop_range.nd (pdi_seq (pd_var 3)) (blkOk_by (own := [("pair", 6)]) (N := N_drop_range) (sc := defScope s_drop_range) (by decide +kernel)) (fun _ _ _ _ _ => (pdg_name (i := 6) sc_drop_range.nd)) (fun _ _ _ _ _ => (pdts_one (pdt_le (pd_ix (pd_var 6) pd_int) (pd_ix (pd_var 6) pd_int)))) (fun _ _ _ _ _ => (pd_var 6)))))))
set_option maxRecDepth 100000 in
theorem der_drop_all {P : Program} {wd : World} {K : PySem.W.Frag} {mg : Str → Option Value} {base : Heap} {A : Ad} (T : Facts P K mg A)
    (G_drop_range : FnOk P wd K mg base (CX P wd) 4 A.f_drop_range A.fd_drop_range P_drop_range (liftS K (sd_drop_range A)))
    (cdv : Value) (AA : Around) (outer : List Env) (s : Shared) (H : Hp) (E : XK) (w : WD) (hr : Room 4 (AA.deeper (PyProof.Rows.envOfC "drop_all" (defScope s_drop_all) s.heap.objs.size A.f_drop_all cdv))) (tk : Takes (cxOf (CX P wd) P wd K mg base N_drop_all "drop_all" (defScope s_drop_all) A.f_drop_all cdv AA outer s H E) (fun cls d _ H => E cls d H)) :
    PDSs (cxOf (CX P wd) P wd K mg base N_drop_all "drop_all" (defScope s_drop_all) A.f_drop_all cdv AA outer s H E) (fun cls d _ H => E cls d H) w (defBody s_drop_all) (d_drop_all A w) :=
 (pdss_cons (pds_for (passes_of rfl) rfl (pdi_seq (pd_var 1)) (pdg_tup rfl (pdgs_cons (pdg_name (i := 2) sc_drop_all.nd) (pdgs_cons (pdg_name (i := 3) sc_drop_all.nd) pdgs_nil)))
 (pdss_one (pds_set (i := 0) sc_drop_all.nd (pd_call G_drop_range (hr.mono (by decide)) T.g_drop_range T.k_drop_range T.b_drop_range tk (pda_cons (pd_var 0) (pda_cons (pd_var 2) (pda_cons (pd_var 3) pda_nil)))))))
 (pdss_one (pds_ret (pd_var 0))))
set_option maxRecDepth 100000 in
theorem der_gaps {P : Program} {wd : World} {K : PySem.W.Frag} {mg : Str → Option Value} {base : Heap} {A : Ad} (T : Facts P K mg A)
    (G_drop_all : FnOk P wd K mg base (CX P wd) 5 A.f_drop_all A.fd_drop_all P_drop_all (liftS K (sd_drop_all A)))
    (cdv : Value) (AA : Around) (outer : List Env) (s : Shared) (H : Hp) (E : XK) (w : WD) (hr : Room 5 (AA.deeper (PyProof.Rows.envOfC "gaps" (defScope s_gaps) s.heap.objs.size A.f_gaps cdv))) (tk : Takes (cxOf (CX P wd) P wd K mg base N_gaps "gaps" (defScope s_gaps) A.f_gaps cdv AA outer s H E) (fun cls d _ H => E cls d H)) :
    PDSs (cxOf (CX P wd) P wd K mg base N_gaps "gaps" (defScope s_gaps) A.f_gaps cdv AA outer s H E) (fun cls d _ H => E cls d H) w (defBody s_gaps) (d_gaps A w) :=
 (pdss_one (pds_ret (pd_ifExp (pdt_le (pd_var 1) (pd_var 2)) (pd_call G_drop_all (hr.mono (by decide)) T.g_drop_all T.k_drop_all T.b_drop_all tk (pda_cons (pd_lst (pda_cons (pd_tup (pda_cons (pd_var 1) (pda_cons (pd_var 2) pda_nil))) pda_nil)) (pda_cons (pd_var 0) pda_nil))) (pd_lst pda_nil))))
set_option maxRecDepth 100000 in
theorem der_count {P : Program} {wd : World} {K : PySem.W.Frag} {mg : Str → Option Value} {base : Heap} {A : Ad} (T : Facts P K mg A)
    (cdv : Value) (AA : Around) (outer : List Env) (s : Shared) (H : Hp) (E : XK) (w : WD) (hr : Room 3 (AA.deeper (PyProof.Rows.envOfC "count" (defScope s_count) s.heap.objs.size A.f_count cdv))) (tk : Takes (cxOf (CX P wd) P wd K mg base N_count "count" (defScope s_count) A.f_count cdv AA outer s H E) (fun cls d _ H => E cls d H)) :
    PDSs (cxOf (CX P wd) P wd K mg base N_count "count" (defScope s_count) A.f_count cdv AA outer s H E) (fun cls d _ H => E cls d H) w (defBody s_count) (d_count A w) :=
 (pdss_one (pds_ret (pd_sum rfl T.n_sum (pda_cons (pd_lc (own := [("low", 1), ("high", 2)]) rfl sc_count.nd (pdi_seq (pd_var 0)) (blkOk_by (own := [("low", 1), ("high", 2)]) (N := N_count) (sc := defScope s_count) (by decide +kernel)) (fun _ _ _ _ _ => (pdg_tup rfl (pdgs_cons (pdg_name (i := 1) sc_count.nd) (pdgs_cons (pdg_name (i := 2) sc_count.nd) pdgs_nil)))) (fun _ _ _ _ _ => pdts_nil) (fun _ _ _ _ _ => (pd_add (pd_sub (pd_var 2) (pd_var 1)) pd_int))) pda_nil))))
set_option maxRecDepth 100000 in
theorem der_Outgoing___init__ {P : Program} {wd : World} {K : PySem.W.Frag} {mg : Str → Option Value} {base : Heap} {A : Ad} (T : Facts P K mg A)
    (cdv : Value) (AA : Around) (outer : List Env) (s : Shared) (H : Hp) (E : XK) (w : WD) (hr : Room 3 (AA.deeper (PyProof.Rows.envOfC "Outgoing.__init__" (defScope s_Outgoing___init__) s.heap.objs.size A.f_Outgoing___init__ cdv))) (tk : Takes (cxOf (CX P wd) P wd K mg base N_Outgoing___init__ "Outgoing.__init__" (defScope s_Outgoing___init__) A.f_Outgoing___init__ cdv AA outer s H E) (fun cls d _ H => E cls d H)) :
    PDSs (cxOf (CX P wd) P wd K mg base N_Outgoing___init__ "Outgoing.__init__" (defScope s_Outgoing___init__) A.f_Outgoing___init__ cdv AA outer s H E) (fun cls d _ H => E cls d H) w (defBody s_Outgoing___init__) (d_Outgoing___init__ A w) :=
 (pdss_cons (pds_if (pdt_w (pdw_or (pdt_not (pdt_val (pd_isi T.n_isinstance (pda_cons (pd_var 2) (pda_cons (pd_ty rfl T.n_int (by decide +kernel)) pda_nil))))) (pdw_or (pdt_val (pd_isi T.n_isinstance (pda_cons (pd_var 2) (pda_cons (pd_ty rfl T.n_bool (by decide +kernel)) pda_nil)))) (pdw_or1 (pdt_lt (pd_var 2) pd_int)))))
 (pdss_one (pds_raise rfl T.t_Wrong hr tk (pda_cons (pd_var 2) pda_nil)))
 pdss_nil)
 (pdss_cons (pds_fldN (f := "stream") T.nf_Outgoing_stream (pd_var 0) (pd_var 1))
 (pdss_cons (pds_fldN (f := "keep") T.nf_Outgoing_keep (pd_var 0) (pd_var 2))
 (pdss_cons (pds_fldN (f := "base") T.nf_Outgoing_base (pd_var 0) pd_int)
 (pdss_cons (pds_fldN (f := "kept") T.nf_Outgoing_kept (pd_var 0) (pd_lst pda_nil))
 (pdss_cons (pds_fldN (f := "taken") T.nf_Outgoing_taken (pd_var 0) pd_int)
 (pdss_cons (pds_fldN (f := "sent") T.nf_Outgoing_sent (pd_var 0) pd_int)
 (pdss_cons (pds_fldN (f := "got_ranges") T.nf_Outgoing_got_ranges (pd_var 0) (pd_lst pda_nil))
 (pdss_cons (pds_fldN (f := "lost_ranges") T.nf_Outgoing_lost_ranges (pd_var 0) (pd_lst pda_nil))
 (pdss_cons (pds_fldN (f := "finished") T.nf_Outgoing_finished (pd_var 0) pd_bl)
 (pdss_cons (pds_fldN (f := "last") T.nf_Outgoing_last (pd_var 0) pd_str)
 (pdss_one (pds_fldN (f := "broken") T.nf_Outgoing_broken (pd_var 0) pd_non)))))))))))))
set_option maxRecDepth 100000 in
theorem der_Outgoing_must_stand {P : Program} {wd : World} {K : PySem.W.Frag} {mg : Str → Option Value} {base : Heap} {A : Ad} (T : Facts P K mg A)
    (cdv : Value) (AA : Around) (outer : List Env) (s : Shared) (H : Hp) (E : XK) (w : WD) (hr : Room 3 (AA.deeper (PyProof.Rows.envOfC "Outgoing.must_stand" (defScope s_Outgoing_must_stand) s.heap.objs.size A.f_Outgoing_must_stand cdv))) (tk : Takes (cxOf (CX P wd) P wd K mg base N_Outgoing_must_stand "Outgoing.must_stand" (defScope s_Outgoing_must_stand) A.f_Outgoing_must_stand cdv AA outer s H E) (fun cls d _ H => E cls d H)) :
    PDSs (cxOf (CX P wd) P wd K mg base N_Outgoing_must_stand "Outgoing.must_stand" (defScope s_Outgoing_must_stand) A.f_Outgoing_must_stand cdv AA outer s H E) (fun cls d _ H => E cls d H) w (defBody s_Outgoing_must_stand) (d_Outgoing_must_stand A w) :=
 (pdss_one (pds_if (pdt_isnot (pd_fld (f := "broken") (pd_var 0)) pd_non)
 (pdss_one (pds_raise rfl T.t_DeedWrong hr tk (pda_cons pd_str pda_nil)))
 pdss_nil))
set_option maxRecDepth 100000 in
theorem der_Outgoing_is_done {P : Program} {wd : World} {K : PySem.W.Frag} {mg : Str → Option Value} {base : Heap} {A : Ad} (T : Facts P K mg A)
    (cdv : Value) (AA : Around) (outer : List Env) (s : Shared) (H : Hp) (E : XK) (w : WD) (hr : Room 3 (AA.deeper (PyProof.Rows.envOfC "Outgoing.is_done" (defScope s_Outgoing_is_done) s.heap.objs.size A.f_Outgoing_is_done cdv))) (tk : Takes (cxOf (CX P wd) P wd K mg base N_Outgoing_is_done "Outgoing.is_done" (defScope s_Outgoing_is_done) A.f_Outgoing_is_done cdv AA outer s H E) (fun cls d _ H => E cls d H)) :
    PDSs (cxOf (CX P wd) P wd K mg base N_Outgoing_is_done "Outgoing.is_done" (defScope s_Outgoing_is_done) A.f_Outgoing_is_done cdv AA outer s H E) (fun cls d _ H => E cls d H) w (defBody s_Outgoing_is_done) (d_Outgoing_is_done A w) :=
 (pdss_cons (pds_if (pdt_isnot (pd_fld (f := "broken") (pd_var 0)) pd_non)
 (pdss_one (pds_ret (pd_eq hr (pd_fld (f := "broken") (pd_var 0)) pd_str)))
 pdss_nil)
 (pdss_one (pds_ret (pd_and (pd_fld (f := "finished") (pd_var 0)) (pd_and (pd_eq hr (pd_fld (f := "last") (pd_var 0)) pd_str) (pd_bone (pd_eq hr (pd_fld (f := "base") (pd_var 0)) (pd_fld (f := "taken") (pd_var 0)))))))))
set_option maxRecDepth 100000 in
theorem der_Outgoing_write {P : Program} {wd : World} {K : PySem.W.Frag} {mg : Str → Option Value} {base : Heap} {A : Ad} (T : Facts P K mg A)
    (G_Outgoing_must_stand : FnOk P wd K mg base (CX P wd) 4 A.f_Outgoing_must_stand A.fd_Outgoing_must_stand P_Outgoing_must_stand (liftS K (sd_Outgoing_must_stand A)))
    (cdv : Value) (AA : Around) (outer : List Env) (s : Shared) (H : Hp) (E : XK) (w : WD) (hr : Room 4 (AA.deeper (PyProof.Rows.envOfC "Outgoing.write" (defScope s_Outgoing_write) s.heap.objs.size A.f_Outgoing_write cdv))) (tk : Takes (cxOf (CX P wd) P wd K mg base N_Outgoing_write "Outgoing.write" (defScope s_Outgoing_write) A.f_Outgoing_write cdv AA outer s H E) (fun cls d _ H => E cls d H)) :
    PDSs (cxOf (CX P wd) P wd K mg base N_Outgoing_write "Outgoing.write" (defScope s_Outgoing_write) A.f_Outgoing_write cdv AA outer s H E) (fun cls d _ H => E cls d H) w (defBody s_Outgoing_write) (d_Outgoing_write A w) :=
 (pdss_cons (pds_expr (pd_meth0 (m := "must_stand") (pd_var 0) T.cl_Outgoing T.m_Outgoing_must_stand G_Outgoing_must_stand (hr.mono (by decide)) T.b_Outgoing_must_stand tk))
 (pdss_cons (pds_if (pdt_val (pd_fld (f := "finished") (pd_var 0)))
 (pdss_one (pds_raise rfl T.t_DeedWrong hr tk (pda_cons pd_str pda_nil)))
 pdss_nil)
 (pdss_cons (pds_set (i := 2) sc_Outgoing_write.nd (pd_min3 rfl T.n_min (pda_cons (pd_len T.n_len (pda_cons (pd_var 1) pda_nil)) (pda_cons (pd_sub (pd_add (pd_fld (f := "base") (pd_var 0)) (pd_fld (f := "keep") (pd_var 0))) (pd_fld (f := "taken") (pd_var 0))) (pda_cons (pd_sub (pd_globI T.g_FURTHEST_outgoing) (pd_fld (f := "taken") (pd_var 0))) pda_nil)))))
 (pdss_cons (pds_fld (f := "kept") (pd_var 0) (pd_add (pd_fld (f := "kept") (pd_var 0)) (pd_list T.n_list (pda_cons (pd_slice (pd_var 1) pdo_none (pdo_some (pd_var 2))) pda_nil))))
 (pdss_cons (pds_fldaug (f := "taken") (pd_var 0) (pd_var 2))
 (pdss_one (pds_ret (pd_var 2))))))))
set_option maxRecDepth 100000 in
theorem der_Outgoing_breaks {P : Program} {wd : World} {K : PySem.W.Frag} {mg : Str → Option Value} {base : Heap} {A : Ad} (T : Facts P K mg A)
    (G_Outgoing_must_stand : FnOk P wd K mg base (CX P wd) 4 A.f_Outgoing_must_stand A.fd_Outgoing_must_stand P_Outgoing_must_stand (liftS K (sd_Outgoing_must_stand A)))
    (G_Outgoing_is_done : FnOk P wd K mg base (CX P wd) 4 A.f_Outgoing_is_done A.fd_Outgoing_is_done P_Outgoing_is_done (liftS K (sd_Outgoing_is_done A)))
    (cdv : Value) (AA : Around) (outer : List Env) (s : Shared) (H : Hp) (E : XK) (w : WD) (hr : Room 4 (AA.deeper (PyProof.Rows.envOfC "Outgoing.breaks" (defScope s_Outgoing_breaks) s.heap.objs.size A.f_Outgoing_breaks cdv))) (tk : Takes (cxOf (CX P wd) P wd K mg base N_Outgoing_breaks "Outgoing.breaks" (defScope s_Outgoing_breaks) A.f_Outgoing_breaks cdv AA outer s H E) (fun cls d _ H => E cls d H)) :
    PDSs (cxOf (CX P wd) P wd K mg base N_Outgoing_breaks "Outgoing.breaks" (defScope s_Outgoing_breaks) A.f_Outgoing_breaks cdv AA outer s H E) (fun cls d _ H => E cls d H) w (defBody s_Outgoing_breaks) (d_Outgoing_breaks A w) :=
 (pdss_cons (pds_expr (pd_meth0 (m := "must_stand") (pd_var 0) T.cl_Outgoing T.m_Outgoing_must_stand G_Outgoing_must_stand (hr.mono (by decide)) T.b_Outgoing_must_stand tk))
 (pdss_cons (pds_if (pdt_val (pd_meth0 (m := "is_done") (pd_var 0) T.cl_Outgoing T.m_Outgoing_is_done G_Outgoing_is_done (hr.mono (by decide)) T.b_Outgoing_is_done tk))
 (pdss_one (pds_raise rfl T.t_DeedWrong hr tk (pda_cons pd_str pda_nil)))
 pdss_nil)
 (pdss_cons (pds_fld (f := "broken") (pd_var 0) pd_str)
 (pdss_one (pds_asg (pd_tup (pda_cons (pd_lst pda_nil) (pda_cons (pd_lst pda_nil) (pda_cons (pd_lst pda_nil) pda_nil)))) (pdg_tup rfl (pdgs_cons (pdg_fld (f := "kept") (pd_var 0)) (pdgs_cons (pdg_fld (f := "lost_ranges") (pd_var 0)) (pdgs_cons (pdg_fld (f := "got_ranges") (pd_var 0)) pdgs_nil)))))))))
set_option maxRecDepth 100000 in
theorem der_Outgoing_finish {P : Program} {wd : World} {K : PySem.W.Frag} {mg : Str → Option Value} {base : Heap} {A : Ad} (T : Facts P K mg A)
    (G_Outgoing_must_stand : FnOk P wd K mg base (CX P wd) 4 A.f_Outgoing_must_stand A.fd_Outgoing_must_stand P_Outgoing_must_stand (liftS K (sd_Outgoing_must_stand A)))
    (cdv : Value) (AA : Around) (outer : List Env) (s : Shared) (H : Hp) (E : XK) (w : WD) (hr : Room 4 (AA.deeper (PyProof.Rows.envOfC "Outgoing.finish" (defScope s_Outgoing_finish) s.heap.objs.size A.f_Outgoing_finish cdv))) (tk : Takes (cxOf (CX P wd) P wd K mg base N_Outgoing_finish "Outgoing.finish" (defScope s_Outgoing_finish) A.f_Outgoing_finish cdv AA outer s H E) (fun cls d _ H => E cls d H)) :
    PDSs (cxOf (CX P wd) P wd K mg base N_Outgoing_finish "Outgoing.finish" (defScope s_Outgoing_finish) A.f_Outgoing_finish cdv AA outer s H E) (fun cls d _ H => E cls d H) w (defBody s_Outgoing_finish) (d_Outgoing_finish A w) :=
 (pdss_cons (pds_expr (pd_meth0 (m := "must_stand") (pd_var 0) T.cl_Outgoing T.m_Outgoing_must_stand G_Outgoing_must_stand (hr.mono (by decide)) T.b_Outgoing_must_stand tk))
 (pdss_cons (pds_if (pdt_val (pd_fld (f := "finished") (pd_var 0)))
 (pdss_one (pds_raise rfl T.t_DeedWrong hr tk (pda_cons pd_str pda_nil)))
 pdss_nil)
 (pdss_one (pds_fld (f := "finished") (pd_var 0) pd_bl))))
set_option maxRecDepth 100000 in
theorem der_Outgoing_next_break {P : Program} {wd : World} {K : PySem.W.Frag} {mg : Str → Option Value} {base : Heap} {A : Ad} (T : Facts P K mg A)
    (cdv : Value) (AA : Around) (outer : List Env) (s : Shared) (H : Hp) (E : XK) (w : WD) (hr : Room 3 (AA.deeper (PyProof.Rows.envOfC "Outgoing.next_break" (defScope s_Outgoing_next_break) s.heap.objs.size A.f_Outgoing_next_break cdv))) (tk : Takes (cxOf (CX P wd) P wd K mg base N_Outgoing_next_break "Outgoing.next_break" (defScope s_Outgoing_next_break) A.f_Outgoing_next_break cdv AA outer s H E) (fun cls d _ H => E cls d H)) :
    PDSs (cxOf (CX P wd) P wd K mg base N_Outgoing_next_break "Outgoing.next_break" (defScope s_Outgoing_next_break) A.f_Outgoing_next_break cdv AA outer s H E) (fun cls d _ H => E cls d H) w (defBody s_Outgoing_next_break) (d_Outgoing_next_break A w) :=
 (pdss_cons (pds_if (pdt_ne hr (pd_fld (f := "broken") (pd_var 0)) pd_str)
 (pdss_one (pds_ret pd_non))
 pdss_nil)
 (pdss_cons (pds_fld (f := "broken") (pd_var 0) pd_str)
 (pdss_one (pds_ret (pd_tup (pda_cons pd_str (pda_cons (pd_fld (f := "stream") (pd_var 0)) (pda_cons (pd_fld (f := "sent") (pd_var 0)) pda_nil))))))))
set_option maxRecDepth 100000 in
theorem der_Outgoing_piece {P : Program} {wd : World} {K : PySem.W.Frag} {mg : Str → Option Value} {base : Heap} {A : Ad} (T : Facts P K mg A)
    (G_drop_range : FnOk P wd K mg base (CX P wd) 4 A.f_drop_range A.fd_drop_range P_drop_range (liftS K (sd_drop_range A)))
    (cdv : Value) (AA : Around) (outer : List Env) (s : Shared) (H : Hp) (E : XK) (w : WD) (hr : Room 4 (AA.deeper (PyProof.Rows.envOfC "Outgoing.piece" (defScope s_Outgoing_piece) s.heap.objs.size A.f_Outgoing_piece cdv))) (tk : Takes (cxOf (CX P wd) P wd K mg base N_Outgoing_piece "Outgoing.piece" (defScope s_Outgoing_piece) A.f_Outgoing_piece cdv AA outer s H E) (fun cls d _ H => E cls d H)) :
    PDSs (cxOf (CX P wd) P wd K mg base N_Outgoing_piece "Outgoing.piece" (defScope s_Outgoing_piece) A.f_Outgoing_piece cdv AA outer s H E) (fun cls d _ H => E cls d H) w (defBody s_Outgoing_piece) (d_Outgoing_piece A w) :=
 (pdss_cons (pds_fld (f := "lost_ranges") (pd_var 0) (pd_ifExp (pdt_gt (pd_var 2) (pd_var 1)) (pd_call G_drop_range (hr.mono (by decide)) T.g_drop_range T.k_drop_range T.b_drop_range tk (pda_cons (pd_fld (f := "lost_ranges") (pd_var 0)) (pda_cons (pd_var 1) (pda_cons (pd_sub (pd_var 2) pd_int) pda_nil)))) (pd_fld (f := "lost_ranges") (pd_var 0))))
 (pdss_cons (pds_fld (f := "sent") (pd_var 0) (pd_max rfl T.n_max (pda_cons (pd_fld (f := "sent") (pd_var 0)) (pda_cons (pd_var 2) pda_nil))))
 (pdss_cons (pds_set (i := 3) sc_Outgoing_piece.nd (pd_and (pd_fld (f := "finished") (pd_var 0)) (pd_bone (pd_eq hr (pd_var 2) (pd_fld (f := "taken") (pd_var 0))))))
 (pdss_cons (pds_if (pdt_w (pdw_and (pdt_val (pd_var 3)) (pdw_and1 (pdt_ne hr (pd_fld (f := "last") (pd_var 0)) pd_str))))
 (pdss_one (pds_fld (f := "last") (pd_var 0) pd_str))
 pdss_nil)
 (pdss_one (pds_ret (pd_tup (pda_cons pd_str (pda_cons (pd_fld (f := "stream") (pd_var 0)) (pda_cons (pd_var 1) (pda_cons (pd_tuple T.n_tuple (pda_cons (pd_slice (pd_fld (f := "kept") (pd_var 0)) (pdo_some (pd_sub (pd_var 1) (pd_fld (f := "base") (pd_var 0)))) (pdo_some (pd_sub (pd_var 2) (pd_fld (f := "base") (pd_var 0))))) pda_nil)) (pda_cons (pd_ifExp (pdt_val (pd_var 3)) pd_int pd_int) pda_nil))))))))))))
set_option maxRecDepth 100000 in
theorem der_Outgoing_next {P : Program} {wd : World} {K : PySem.W.Frag} {mg : Str → Option Value} {base : Heap} {A : Ad} (T : Facts P K mg A)
    (G_Outgoing_next_break : FnOk P wd K mg base (CX P wd) 4 A.f_Outgoing_next_break A.fd_Outgoing_next_break P_Outgoing_next_break (liftS K (sd_Outgoing_next_break A)))
    (G_Outgoing_piece : FnOk P wd K mg base (CX P wd) 5 A.f_Outgoing_piece A.fd_Outgoing_piece P_Outgoing_piece (liftS K (sd_Outgoing_piece A)))
    (cdv : Value) (AA : Around) (outer : List Env) (s : Shared) (H : Hp) (E : XK) (w : WD) (hr : Room 5 (AA.deeper (PyProof.Rows.envOfC "Outgoing.next" (defScope s_Outgoing_next) s.heap.objs.size A.f_Outgoing_next cdv))) (tk : Takes (cxOf (CX P wd) P wd K mg base N_Outgoing_next "Outgoing.next" (defScope s_Outgoing_next) A.f_Outgoing_next cdv AA outer s H E) (fun cls d _ H => E cls d H)) :
    PDSs (cxOf (CX P wd) P wd K mg base N_Outgoing_next "Outgoing.next" (defScope s_Outgoing_next) A.f_Outgoing_next cdv AA outer s H E) (fun cls d _ H => E cls d H) w (defBody s_Outgoing_next) (d_Outgoing_next A w) :=
 (pdss_cons (pds_if (pdt_lt (pd_var 1) pd_int)
 (pdss_one (pds_ret pd_non))
 pdss_nil)
 (pdss_cons (pds_if (pdt_isnot (pd_fld (f := "broken") (pd_var 0)) pd_non)
 (pdss_one (pds_ret (pd_meth0 (m := "next_break") (pd_var 0) T.cl_Outgoing T.m_Outgoing_next_break G_Outgoing_next_break (hr.mono (by decide)) T.b_Outgoing_next_break tk)))
 pdss_nil)
 (pdss_cons (pds_if (pdt_w (pdw_and (pdt_gt (pd_len T.n_len (pda_cons (pd_fld (f := "lost_ranges") (pd_var 0)) pda_nil)) pd_int) (pdw_and1 (pdt_gt (pd_var 1) pd_int))))
 (pdss_cons (pds_asg (pd_ix (pd_fld (f := "lost_ranges") (pd_var 0)) pd_int) (pdg_tup rfl (pdgs_cons (pdg_name (i := 3) sc_Outgoing_next.nd) (pdgs_cons (pdg_name (i := 4) sc_Outgoing_next.nd) pdgs_nil))))
 (pdss_one (pds_ret (pd_meth (m := "piece") (pd_var 0) T.cl_Outgoing T.m_Outgoing_piece G_Outgoing_piece (hr.mono (by decide)) T.b_Outgoing_piece tk (pda_cons (pd_var 3) (pda_cons (pd_min rfl T.n_min (pda_cons (pd_add (pd_var 4) pd_int) (pda_cons (pd_add (pd_var 3) (pd_var 1)) pda_nil))) pda_nil))))))
 pdss_nil)
 (pdss_cons (pds_set (i := 4) sc_Outgoing_next.nd (pd_min3 rfl T.n_min (pda_cons (pd_fld (f := "taken") (pd_var 0)) (pda_cons (pd_var 2) (pda_cons (pd_add (pd_fld (f := "sent") (pd_var 0)) (pd_var 1)) pda_nil)))))
 (pdss_cons (pds_if (pdt_gt (pd_var 4) (pd_fld (f := "sent") (pd_var 0)))
 (pdss_one (pds_ret (pd_meth (m := "piece") (pd_var 0) T.cl_Outgoing T.m_Outgoing_piece G_Outgoing_piece (hr.mono (by decide)) T.b_Outgoing_piece tk (pda_cons (pd_fld (f := "sent") (pd_var 0)) (pda_cons (pd_var 4) pda_nil)))))
 pdss_nil)
 (pdss_cons (pds_if (pdt_w (pdw_and (pdt_val (pd_fld (f := "finished") (pd_var 0))) (pdw_and (pdt_in (pd_fld (f := "last") (pd_var 0)) (pd_tup (pda_cons pd_str (pda_cons pd_str pda_nil)))) (pdw_and1 (pdt_eq hr (pd_fld (f := "sent") (pd_var 0)) (pd_fld (f := "taken") (pd_var 0)))))))
 (pdss_one (pds_ret (pd_meth (m := "piece") (pd_var 0) T.cl_Outgoing T.m_Outgoing_piece G_Outgoing_piece (hr.mono (by decide)) T.b_Outgoing_piece tk (pda_cons (pd_fld (f := "taken") (pd_var 0)) (pda_cons (pd_fld (f := "taken") (pd_var 0)) pda_nil)))))
 pdss_nil)
 (pdss_one (pds_ret pd_non))))))))
set_option maxRecDepth 100000 in
theorem der_Outgoing_got {P : Program} {wd : World} {K : PySem.W.Frag} {mg : Str → Option Value} {base : Heap} {A : Ad} (T : Facts P K mg A)
    (G_drop_range : FnOk P wd K mg base (CX P wd) 4 A.f_drop_range A.fd_drop_range P_drop_range (liftS K (sd_drop_range A)))
    (G_put_range : FnOk P wd K mg base (CX P wd) 4 A.f_put_range A.fd_put_range P_put_range (liftS K (sd_put_range A)))
    (cdv : Value) (AA : Around) (outer : List Env) (s : Shared) (H : Hp) (E : XK) (w : WD) (hr : Room 4 (AA.deeper (PyProof.Rows.envOfC "Outgoing.got" (defScope s_Outgoing_got) s.heap.objs.size A.f_Outgoing_got cdv))) (tk : Takes (cxOf (CX P wd) P wd K mg base N_Outgoing_got "Outgoing.got" (defScope s_Outgoing_got) A.f_Outgoing_got cdv AA outer s H E) (fun cls d _ H => E cls d H)) :
    PDSs (cxOf (CX P wd) P wd K mg base N_Outgoing_got "Outgoing.got" (defScope s_Outgoing_got) A.f_Outgoing_got cdv AA outer s H E) (fun cls d _ H => E cls d H) w (defBody s_Outgoing_got) (d_Outgoing_got A w) :=
 (pdss_cons (pds_if (pdt_eq hr (pd_ix (pd_var 1) pd_int) pd_str)
 (pdss_one (pds_fld (f := "broken") (pd_var 0) pd_str))
 pdss_nil)
 (pdss_cons (pds_if (pdt_isnot (pd_fld (f := "broken") (pd_var 0)) pd_non)
 (pdss_one pds_retN)
 pdss_nil)
 (pdss_cons (pds_par (i := 2) (j := 3) rfl sc_Outgoing_got.nd (pda_cons (pd_ix (pd_var 1) pd_int) (pda_cons (pd_sub (pd_add (pd_ix (pd_var 1) pd_int) (pd_len T.n_len (pda_cons (pd_ix (pd_var 1) pd_int) pda_nil))) pd_int) pda_nil)))
 (pdss_cons (pds_if (pdt_ge (pd_var 3) (pd_var 2))
 (pdss_cons (pds_fld (f := "lost_ranges") (pd_var 0) (pd_call G_drop_range (hr.mono (by decide)) T.g_drop_range T.k_drop_range T.b_drop_range tk (pda_cons (pd_fld (f := "lost_ranges") (pd_var 0)) (pda_cons (pd_var 2) (pda_cons (pd_var 3) pda_nil)))))
 (pdss_one (pds_if (pdt_ge (pd_var 3) (pd_fld (f := "base") (pd_var 0)))
 (pdss_one (pds_fld (f := "got_ranges") (pd_var 0) (pd_call G_put_range (hr.mono (by decide)) T.g_put_range T.k_put_range T.b_put_range tk (pda_cons (pd_fld (f := "got_ranges") (pd_var 0)) (pda_cons (pd_max rfl T.n_max (pda_cons (pd_var 2) (pda_cons (pd_fld (f := "base") (pd_var 0)) pda_nil))) (pda_cons (pd_var 3) pda_nil))))))
 pdss_nil)))
 pdss_nil)
 (pdss_cons (pds_if (pdt_eq hr (pd_ix (pd_var 1) pd_int) pd_int)
 (pdss_one (pds_fld (f := "last") (pd_var 0) pd_str))
 pdss_nil)
 (pdss_one (pds_if (pdt_w (pdw_and (pdt_gt (pd_len T.n_len (pda_cons (pd_fld (f := "got_ranges") (pd_var 0)) pda_nil)) pd_int) (pdw_and1 (pdt_eq hr (pd_ix (pd_ix (pd_fld (f := "got_ranges") (pd_var 0)) pd_int) pd_int) (pd_fld (f := "base") (pd_var 0))))))
 (pdss_cons (pds_set (i := 4) sc_Outgoing_got.nd (pd_add (pd_ix (pd_ix (pd_fld (f := "got_ranges") (pd_var 0)) pd_int) pd_int) pd_int))
 (pdss_cons (pds_fld (f := "kept") (pd_var 0) (pd_slice (pd_fld (f := "kept") (pd_var 0)) (pdo_some (pd_sub (pd_var 4) (pd_fld (f := "base") (pd_var 0)))) pdo_none))
 (pdss_cons (pds_fld (f := "base") (pd_var 0) (pd_var 4))
 (pdss_one (pds_fld (f := "got_ranges") (pd_var 0) (pd_slice (pd_fld (f := "got_ranges") (pd_var 0)) (pdo_some pd_int) pdo_none))))))
 pdss_nil)))))))
set_option maxRecDepth 100000 in
theorem der_Outgoing_lost {P : Program} {wd : World} {K : PySem.W.Frag} {mg : Str → Option Value} {base : Heap} {A : Ad} (T : Facts P K mg A)
    (G_drop_all : FnOk P wd K mg base (CX P wd) 5 A.f_drop_all A.fd_drop_all P_drop_all (liftS K (sd_drop_all A)))
    (G_put_range : FnOk P wd K mg base (CX P wd) 4 A.f_put_range A.fd_put_range P_put_range (liftS K (sd_put_range A)))
    (cdv : Value) (AA : Around) (outer : List Env) (s : Shared) (H : Hp) (E : XK) (w : WD) (hr : Room 5 (AA.deeper (PyProof.Rows.envOfC "Outgoing.lost" (defScope s_Outgoing_lost) s.heap.objs.size A.f_Outgoing_lost cdv))) (tk : Takes (cxOf (CX P wd) P wd K mg base N_Outgoing_lost "Outgoing.lost" (defScope s_Outgoing_lost) A.f_Outgoing_lost cdv AA outer s H E) (fun cls d _ H => E cls d H)) :
    PDSs (cxOf (CX P wd) P wd K mg base N_Outgoing_lost "Outgoing.lost" (defScope s_Outgoing_lost) A.f_Outgoing_lost cdv AA outer s H E) (fun cls d _ H => E cls d H) w (defBody s_Outgoing_lost) (d_Outgoing_lost A w) :=
 (pdss_cons (pds_if (pdt_w (pdw_and (pdt_eq hr (pd_ix (pd_var 1) pd_int) pd_str) (pdw_and1 (pdt_eq hr (pd_fld (f := "broken") (pd_var 0)) pd_str))))
 (pdss_cons (pds_fld (f := "broken") (pd_var 0) pd_str)
 (pdss_one (pds_ret pd_bl)))
 pdss_nil)
 (pdss_cons (pds_if (pdt_isnot (pd_fld (f := "broken") (pd_var 0)) pd_non)
 (pdss_one (pds_ret pd_bl))
 pdss_nil)
 (pdss_cons (pds_par (i := 2) (j := 3) rfl sc_Outgoing_lost.nd (pda_cons (pd_max rfl T.n_max (pda_cons (pd_ix (pd_var 1) pd_int) (pda_cons (pd_fld (f := "base") (pd_var 0)) pda_nil))) (pda_cons (pd_sub (pd_add (pd_ix (pd_var 1) pd_int) (pd_len T.n_len (pda_cons (pd_ix (pd_var 1) pd_int) pda_nil))) pd_int) pda_nil)))
 (pdss_cons (pds_set (i := 4) sc_Outgoing_lost.nd (pd_ifExp (pdt_ge (pd_var 3) (pd_var 2)) (pd_call G_drop_all (hr.mono (by decide)) T.g_drop_all T.k_drop_all T.b_drop_all tk (pda_cons (pd_lst (pda_cons (pd_tup (pda_cons (pd_var 2) (pda_cons (pd_var 3) pda_nil))) pda_nil)) (pda_cons (pd_fld (f := "got_ranges") (pd_var 0)) pda_nil))) (pd_lst pda_nil)))
 (pdss_cons (pds_for (passes_of rfl) rfl (pdi_seq (pd_var 4)) (pdg_tup rfl (pdgs_cons (pdg_name (i := 5) sc_Outgoing_lost.nd) (pdgs_cons (pdg_name (i := 6) sc_Outgoing_lost.nd) pdgs_nil)))
 (pdss_one (pds_fld (f := "lost_ranges") (pd_var 0) (pd_call G_put_range (hr.mono (by decide)) T.g_put_range T.k_put_range T.b_put_range tk (pda_cons (pd_fld (f := "lost_ranges") (pd_var 0)) (pda_cons (pd_var 5) (pda_cons (pd_var 6) pda_nil)))))))
 (pdss_cons (pds_if (pdt_w (pdw_and (pdt_eq hr (pd_ix (pd_var 1) pd_int) pd_int) (pdw_and1 (pdt_eq hr (pd_fld (f := "last") (pd_var 0)) pd_str))))
 (pdss_cons (pds_fld (f := "last") (pd_var 0) pd_str)
 (pdss_one (pds_ret pd_bl)))
 pdss_nil)
 (pdss_one (pds_ret (pd_gt (pd_len T.n_len (pda_cons (pd_var 4) pda_nil)) pd_int)))))))))
set_option maxRecDepth 100000 in
theorem der_Outgoing_is_due {P : Program} {wd : World} {K : PySem.W.Frag} {mg : Str → Option Value} {base : Heap} {A : Ad} (T : Facts P K mg A)
    (cdv : Value) (AA : Around) (outer : List Env) (s : Shared) (H : Hp) (E : XK) (w : WD) (hr : Room 3 (AA.deeper (PyProof.Rows.envOfC "Outgoing.is_due" (defScope s_Outgoing_is_due) s.heap.objs.size A.f_Outgoing_is_due cdv))) (tk : Takes (cxOf (CX P wd) P wd K mg base N_Outgoing_is_due "Outgoing.is_due" (defScope s_Outgoing_is_due) A.f_Outgoing_is_due cdv AA outer s H E) (fun cls d _ H => E cls d H)) :
    PDSs (cxOf (CX P wd) P wd K mg base N_Outgoing_is_due "Outgoing.is_due" (defScope s_Outgoing_is_due) A.f_Outgoing_is_due cdv AA outer s H E) (fun cls d _ H => E cls d H) w (defBody s_Outgoing_is_due) (d_Outgoing_is_due A w) :=
 (pdss_cons (pds_if (pdt_isnot (pd_fld (f := "broken") (pd_var 0)) pd_non)
 (pdss_one (pds_ret (pd_eq hr (pd_fld (f := "broken") (pd_var 0)) pd_str)))
 pdss_nil)
 (pdss_cons (pds_if (pdt_w (pdw_or (pdt_gt (pd_len T.n_len (pda_cons (pd_fld (f := "lost_ranges") (pd_var 0)) pda_nil)) pd_int) (pdw_or1 (pdt_gt (pd_min rfl T.n_min (pda_cons (pd_fld (f := "taken") (pd_var 0)) (pda_cons (pd_var 1) pda_nil))) (pd_fld (f := "sent") (pd_var 0))))))
 (pdss_one (pds_ret pd_bl))
 pdss_nil)
 (pdss_one (pds_ret (pd_and (pd_fld (f := "finished") (pd_var 0)) (pd_and (pd_in (pd_fld (f := "last") (pd_var 0)) (pd_tup (pda_cons pd_str (pda_cons pd_str pda_nil)))) (pd_bone (pd_eq hr (pd_fld (f := "sent") (pd_var 0)) (pd_fld (f := "taken") (pd_var 0))))))))))
set_option maxRecDepth 100000 in
theorem der_Outgoing_memory {P : Program} {wd : World} {K : PySem.W.Frag} {mg : Str → Option Value} {base : Heap} {A : Ad} (T : Facts P K mg A)
    (cdv : Value) (AA : Around) (outer : List Env) (s : Shared) (H : Hp) (E : XK) (w : WD) (hr : Room 3 (AA.deeper (PyProof.Rows.envOfC "Outgoing.memory" (defScope s_Outgoing_memory) s.heap.objs.size A.f_Outgoing_memory cdv))) (tk : Takes (cxOf (CX P wd) P wd K mg base N_Outgoing_memory "Outgoing.memory" (defScope s_Outgoing_memory) A.f_Outgoing_memory cdv AA outer s H E) (fun cls d _ H => E cls d H)) :
    PDSs (cxOf (CX P wd) P wd K mg base N_Outgoing_memory "Outgoing.memory" (defScope s_Outgoing_memory) A.f_Outgoing_memory cdv AA outer s H E) (fun cls d _ H => E cls d H) w (defBody s_Outgoing_memory) (d_Outgoing_memory A w) :=
 (pdss_one (pds_ret (pd_len T.n_len (pda_cons (pd_fld (f := "kept") (pd_var 0)) pda_nil))))
set_option maxRecDepth 100000 in
theorem der_Incoming___init__ {P : Program} {wd : World} {K : PySem.W.Frag} {mg : Str → Option Value} {base : Heap} {A : Ad} (T : Facts P K mg A)
    (cdv : Value) (AA : Around) (outer : List Env) (s : Shared) (H : Hp) (E : XK) (w : WD) (hr : Room 3 (AA.deeper (PyProof.Rows.envOfC "Incoming.__init__" (defScope s_Incoming___init__) s.heap.objs.size A.f_Incoming___init__ cdv))) (tk : Takes (cxOf (CX P wd) P wd K mg base N_Incoming___init__ "Incoming.__init__" (defScope s_Incoming___init__) A.f_Incoming___init__ cdv AA outer s H E) (fun cls d _ H => E cls d H)) :
    PDSs (cxOf (CX P wd) P wd K mg base N_Incoming___init__ "Incoming.__init__" (defScope s_Incoming___init__) A.f_Incoming___init__ cdv AA outer s H E) (fun cls d _ H => E cls d H) w (defBody s_Incoming___init__) (d_Incoming___init__ A w) :=
 (pdss_cons (pds_if (pdt_w (pdw_or (pdt_not (pdt_val (pd_isi T.n_isinstance (pda_cons (pd_var 2) (pda_cons (pd_ty rfl T.n_int (by decide +kernel)) pda_nil))))) (pdw_or (pdt_val (pd_isi T.n_isinstance (pda_cons (pd_var 2) (pda_cons (pd_ty rfl T.n_bool (by decide +kernel)) pda_nil)))) (pdw_or1 (pdt_lt (pd_var 2) pd_int)))))
 (pdss_one (pds_raise rfl T.t_Wrong hr tk (pda_cons (pd_var 2) pda_nil)))
 pdss_nil)
 (pdss_cons (pds_fldN (f := "stream") T.nf_Incoming_stream (pd_var 0) (pd_var 1))
 (pdss_cons (pds_fldN (f := "room") T.nf_Incoming_room (pd_var 0) (pd_var 2))
 (pdss_cons (pds_fldN (f := "upto") T.nf_Incoming_upto (pd_var 0) (pd_var 2))
 (pdss_cons (pds_fldN (f := "read_upto") T.nf_Incoming_read_upto (pd_var 0) pd_int)
 (pdss_cons (pds_fldN (f := "greatest") T.nf_Incoming_greatest (pd_var 0) pd_int)
 (pdss_cons (pds_fldN (f := "end") T.nf_Incoming_end (pd_var 0) pd_non)
 (pdss_cons (pds_fldN (f := "come") T.nf_Incoming_come (pd_var 0) (pd_lst pda_nil))
 (pdss_cons (pds_fldN (f := "parts") T.nf_Incoming_parts (pd_var 0) (pd_lst pda_nil))
 (pdss_cons (pds_fldN (f := "is_broken") T.nf_Incoming_is_broken (pd_var 0) pd_bl)
 (pdss_one (pds_fldN (f := "skipped") T.nf_Incoming_skipped (pd_var 0) pd_int))))))))))))
set_option maxRecDepth 100000 in
theorem der_Incoming_wrong {P : Program} {wd : World} {K : PySem.W.Frag} {mg : Str → Option Value} {base : Heap} {A : Ad} (T : Facts P K mg A)
    (cdv : Value) (AA : Around) (outer : List Env) (s : Shared) (H : Hp) (E : XK) (w : WD) (hr : Room 3 (AA.deeper (PyProof.Rows.envOfC "Incoming.wrong" (defScope s_Incoming_wrong) s.heap.objs.size A.f_Incoming_wrong cdv))) (tk : Takes (cxOf (CX P wd) P wd K mg base N_Incoming_wrong "Incoming.wrong" (defScope s_Incoming_wrong) A.f_Incoming_wrong cdv AA outer s H E) (fun cls d _ H => E cls d H)) :
    PDSs (cxOf (CX P wd) P wd K mg base N_Incoming_wrong "Incoming.wrong" (defScope s_Incoming_wrong) A.f_Incoming_wrong cdv AA outer s H E) (fun cls d _ H => E cls d H) w (defBody s_Incoming_wrong) (d_Incoming_wrong A w) :=
 (pdss_cons (pds_set (i := 2) sc_Incoming_wrong.nd (pd_ifExp (pdt_eq hr (pd_ix (pd_var 1) pd_int) pd_str) (pd_ix (pd_var 1) pd_int) (pd_add (pd_ix (pd_var 1) pd_int) (pd_len T.n_len (pda_cons (pd_ix (pd_var 1) pd_int) pda_nil)))))
 (pdss_cons (pds_if (pdt_gt (pd_var 2) (pd_fld (f := "upto") (pd_var 0)))
 (pdss_one (pds_ret pd_str))
 pdss_nil)
 (pdss_cons (pds_if (pdt_eq hr (pd_ix (pd_var 1) pd_int) pd_str)
 (pdss_one (pds_ret (pd_ifExp (pdt_w (pdw_or (pdt_lt (pd_var 2) (pd_fld (f := "greatest") (pd_var 0))) (pdw_or1 (pdt_w (pdw_and (pdt_isnot (pd_fld (f := "end") (pd_var 0)) pd_non) (pdw_and1 (pdt_ne hr (pd_var 2) (pd_fld (f := "end") (pd_var 0))))))))) pd_str pd_non)))
 pdss_nil)
 (pdss_cons (pds_if (pdt_w (pdw_and (pdt_eq hr (pd_ix (pd_var 1) pd_int) pd_int) (pdw_and1 (pdt_w (pdw_or (pdt_lt (pd_var 2) (pd_fld (f := "greatest") (pd_var 0))) (pdw_or1 (pdt_w (pdw_and (pdt_isnot (pd_fld (f := "end") (pd_var 0)) pd_non) (pdw_and1 (pdt_ne hr (pd_var 2) (pd_fld (f := "end") (pd_var 0))))))))))))
 (pdss_one (pds_ret pd_str))
 pdss_nil)
 (pdss_cons (pds_if (pdt_w (pdw_and (pdt_isnot (pd_fld (f := "end") (pd_var 0)) pd_non) (pdw_and1 (pdt_gt (pd_var 2) (pd_fld (f := "end") (pd_var 0))))))
 (pdss_one (pds_ret pd_str))
 pdss_nil)
 (pdss_one (pds_ret pd_non)))))))
set_option maxRecDepth 100000 in
theorem der_Incoming_ready {P : Program} {wd : World} {K : PySem.W.Frag} {mg : Str → Option Value} {base : Heap} {A : Ad} (T : Facts P K mg A)
    (cdv : Value) (AA : Around) (outer : List Env) (s : Shared) (H : Hp) (E : XK) (w : WD) (hr : Room 3 (AA.deeper (PyProof.Rows.envOfC "Incoming.ready" (defScope s_Incoming_ready) s.heap.objs.size A.f_Incoming_ready cdv))) (tk : Takes (cxOf (CX P wd) P wd K mg base N_Incoming_ready "Incoming.ready" (defScope s_Incoming_ready) A.f_Incoming_ready cdv AA outer s H E) (fun cls d _ H => E cls d H)) :
    PDSs (cxOf (CX P wd) P wd K mg base N_Incoming_ready "Incoming.ready" (defScope s_Incoming_ready) A.f_Incoming_ready cdv AA outer s H E) (fun cls d _ H => E cls d H) w (defBody s_Incoming_ready) (d_Incoming_ready A w) :=
 (pdss_cons (pds_if (pdt_w (pdw_and (pdt_gt (pd_len T.n_len (pda_cons (pd_fld (f := "come") (pd_var 0)) pda_nil)) pd_int) (pdw_and1 (pdt_eq hr (pd_ix (pd_ix (pd_fld (f := "come") (pd_var 0)) pd_int) pd_int) (pd_fld (f := "read_upto") (pd_var 0))))))
 (pdss_one (pds_ret (pd_sub (pd_add (pd_ix (pd_ix (pd_fld (f := "come") (pd_var 0)) pd_int) pd_int) pd_int) (pd_fld (f := "read_upto") (pd_var 0)))))
 pdss_nil)
 (pdss_one (pds_ret pd_int)))
set_option maxRecDepth 100000 in
theorem der_Incoming_is_whole {P : Program} {wd : World} {K : PySem.W.Frag} {mg : Str → Option Value} {base : Heap} {A : Ad} (T : Facts P K mg A)
    (G_Incoming_ready : FnOk P wd K mg base (CX P wd) 4 A.f_Incoming_ready A.fd_Incoming_ready P_Incoming_ready (liftS K (sd_Incoming_ready A)))
    (cdv : Value) (AA : Around) (outer : List Env) (s : Shared) (H : Hp) (E : XK) (w : WD) (hr : Room 4 (AA.deeper (PyProof.Rows.envOfC "Incoming.is_whole" (defScope s_Incoming_is_whole) s.heap.objs.size A.f_Incoming_is_whole cdv))) (tk : Takes (cxOf (CX P wd) P wd K mg base N_Incoming_is_whole "Incoming.is_whole" (defScope s_Incoming_is_whole) A.f_Incoming_is_whole cdv AA outer s H E) (fun cls d _ H => E cls d H)) :
    PDSs (cxOf (CX P wd) P wd K mg base N_Incoming_is_whole "Incoming.is_whole" (defScope s_Incoming_is_whole) A.f_Incoming_is_whole cdv AA outer s H E) (fun cls d _ H => E cls d H) w (defBody s_Incoming_is_whole) (d_Incoming_is_whole A w) :=
 (pdss_cons (pds_if (pdt_val (pd_fld (f := "is_broken") (pd_var 0)))
 (pdss_one (pds_ret pd_bl))
 pdss_nil)
 (pdss_one (pds_ret (pd_and (pd_isnot (pd_fld (f := "end") (pd_var 0)) pd_non) (pd_bone (pd_eq hr (pd_add (pd_fld (f := "read_upto") (pd_var 0)) (pd_meth0 (m := "ready") (pd_var 0) T.cl_Incoming T.m_Incoming_ready G_Incoming_ready (hr.mono (by decide)) T.b_Incoming_ready tk)) (pd_fld (f := "end") (pd_var 0))))))))
set_option maxRecDepth 100000 in
theorem der_Incoming_take_break {P : Program} {wd : World} {K : PySem.W.Frag} {mg : Str → Option Value} {base : Heap} {A : Ad} (T : Facts P K mg A)
    (G_Incoming_is_whole : FnOk P wd K mg base (CX P wd) 5 A.f_Incoming_is_whole A.fd_Incoming_is_whole P_Incoming_is_whole (liftS K (sd_Incoming_is_whole A)))
    (cdv : Value) (AA : Around) (outer : List Env) (s : Shared) (H : Hp) (E : XK) (w : WD) (hr : Room 5 (AA.deeper (PyProof.Rows.envOfC "Incoming.take_break" (defScope s_Incoming_take_break) s.heap.objs.size A.f_Incoming_take_break cdv))) (tk : Takes (cxOf (CX P wd) P wd K mg base N_Incoming_take_break "Incoming.take_break" (defScope s_Incoming_take_break) A.f_Incoming_take_break cdv AA outer s H E) (fun cls d _ H => E cls d H)) :
    PDSs (cxOf (CX P wd) P wd K mg base N_Incoming_take_break "Incoming.take_break" (defScope s_Incoming_take_break) A.f_Incoming_take_break cdv AA outer s H E) (fun cls d _ H => E cls d H) w (defBody s_Incoming_take_break) (d_Incoming_take_break A w) :=
 (pdss_cons (pds_if (pdt_w (pdw_or (pdt_val (pd_fld (f := "is_broken") (pd_var 0))) (pdw_or1 (pdt_val (pd_meth0 (m := "is_whole") (pd_var 0) T.cl_Incoming T.m_Incoming_is_whole G_Incoming_is_whole (hr.mono (by decide)) T.b_Incoming_is_whole tk)))))
 (pdss_one pds_retN)
 pdss_nil)
 (pdss_cons (pds_fld (f := "is_broken") (pd_var 0) pd_bl)
 (pdss_cons (pds_asg (pd_tup (pda_cons (pd_var 1) (pda_cons (pd_var 1) pda_nil))) (pdg_tup rfl (pdgs_cons (pdg_fld (f := "greatest") (pd_var 0)) (pdgs_cons (pdg_fld (f := "end") (pd_var 0)) pdgs_nil))))
 (pdss_cons (pds_fld (f := "skipped") (pd_var 0) (pd_sub (pd_var 1) (pd_fld (f := "read_upto") (pd_var 0))))
 (pdss_cons (pds_fld (f := "read_upto") (pd_var 0) (pd_var 1))
 (pdss_one (pds_asg (pd_tup (pda_cons (pd_lst pda_nil) (pda_cons (pd_lst pda_nil) pda_nil))) (pdg_tup rfl (pdgs_cons (pdg_fld (f := "come") (pd_var 0)) (pdgs_cons (pdg_fld (f := "parts") (pd_var 0)) pdgs_nil))))))))))
set_option maxRecDepth 100000 in
theorem der_Incoming_take {P : Program} {wd : World} {K : PySem.W.Frag} {mg : Str → Option Value} {base : Heap} {A : Ad} (T : Facts P K mg A)
    (G_Incoming_wrong : FnOk P wd K mg base (CX P wd) 4 A.f_Incoming_wrong A.fd_Incoming_wrong P_Incoming_wrong (liftS K (sd_Incoming_wrong A)))
    (G_Incoming_take_break : FnOk P wd K mg base (CX P wd) 6 A.f_Incoming_take_break A.fd_Incoming_take_break P_Incoming_take_break (liftS K (sd_Incoming_take_break A)))
    (G_gaps : FnOk P wd K mg base (CX P wd) 6 A.f_gaps A.fd_gaps P_gaps (liftS K (sd_gaps A)))
    (G_put_range : FnOk P wd K mg base (CX P wd) 4 A.f_put_range A.fd_put_range P_put_range (liftS K (sd_put_range A)))
    (cdv : Value) (AA : Around) (outer : List Env) (s : Shared) (H : Hp) (E : XK) (w : WD) (hr : Room 6 (AA.deeper (PyProof.Rows.envOfC "Incoming.take" (defScope s_Incoming_take) s.heap.objs.size A.f_Incoming_take cdv))) (tk : Takes (cxOf (CX P wd) P wd K mg base N_Incoming_take "Incoming.take" (defScope s_Incoming_take) A.f_Incoming_take cdv AA outer s H E) (fun cls d _ H => E cls d H)) :
    PDSs (cxOf (CX P wd) P wd K mg base N_Incoming_take "Incoming.take" (defScope s_Incoming_take) A.f_Incoming_take cdv AA outer s H E) (fun cls d _ H => E cls d H) w (defBody s_Incoming_take) (d_Incoming_take A w) :=
 (pdss_cons (pds_set (i := 2) sc_Incoming_take.nd (pd_meth (m := "wrong") (pd_var 0) T.cl_Incoming T.m_Incoming_wrong G_Incoming_wrong (hr.mono (by decide)) T.b_Incoming_wrong tk (pda_cons (pd_var 1) pda_nil)))
 (pdss_cons (pds_if (pdt_isnot (pd_var 2) pd_non)
 (pdss_one (pds_ret (pd_var 2)))
 pdss_nil)
 (pdss_cons (pds_if (pdt_eq hr (pd_ix (pd_var 1) pd_int) pd_str)
 (pdss_cons (pds_expr (pd_meth (m := "take_break") (pd_var 0) T.cl_Incoming T.m_Incoming_take_break G_Incoming_take_break (hr.mono (by decide)) T.b_Incoming_take_break tk (pda_cons (pd_ix (pd_var 1) pd_int) pda_nil)))
 (pdss_one (pds_ret pd_non)))
 pdss_nil)
 (pdss_cons (pds_if (pdt_val (pd_fld (f := "is_broken") (pd_var 0)))
 (pdss_one (pds_ret pd_non))
 pdss_nil)
 (pdss_cons (pds_par (i := 3) (j := 4) rfl sc_Incoming_take.nd (pda_cons (pd_ix (pd_var 1) pd_int) (pda_cons (pd_add (pd_ix (pd_var 1) pd_int) (pd_len T.n_len (pda_cons (pd_ix (pd_var 1) pd_int) pda_nil))) pda_nil)))
 (pdss_cons (pds_fld (f := "greatest") (pd_var 0) (pd_max rfl T.n_max (pda_cons (pd_fld (f := "greatest") (pd_var 0)) (pda_cons (pd_var 4) pda_nil))))
 (pdss_cons (pds_if (pdt_eq hr (pd_ix (pd_var 1) pd_int) pd_int)
 (pdss_one (pds_fld (f := "end") (pd_var 0) (pd_var 4)))
 pdss_nil)
 (pdss_cons (pds_for (passes_of rfl) rfl (pdi_seq (pd_call G_gaps (hr.mono (by decide)) T.g_gaps T.k_gaps T.b_gaps tk (pda_cons (pd_fld (f := "come") (pd_var 0)) (pda_cons (pd_max rfl T.n_max (pda_cons (pd_var 3) (pda_cons (pd_fld (f := "read_upto") (pd_var 0)) pda_nil))) (pda_cons (pd_sub (pd_var 4) pd_int) pda_nil))))) (pdg_tup rfl (pdgs_cons (pdg_name (i := 5) sc_Incoming_take.nd) (pdgs_cons (pdg_name (i := 6) sc_Incoming_take.nd) pdgs_nil)))
 (pdss_cons (pds_fld (f := "parts") (pd_var 0) (pd_sortH T.n_sorted (pda_cons (pd_add (pd_fld (f := "parts") (pd_var 0)) (pd_lst (pda_cons (pd_tup (pda_cons (pd_var 5) (pda_cons (pd_tuple T.n_tuple (pda_cons (pd_slice (pd_ix (pd_var 1) pd_int) (pdo_some (pd_sub (pd_var 5) (pd_var 3))) (pdo_some (pd_sub (pd_add (pd_var 6) pd_int) (pd_var 3)))) pda_nil)) pda_nil))) pda_nil))) pda_nil)))
 (pdss_one (pds_fld (f := "come") (pd_var 0) (pd_call G_put_range (hr.mono (by decide)) T.g_put_range T.k_put_range T.b_put_range tk (pda_cons (pd_fld (f := "come") (pd_var 0)) (pda_cons (pd_var 5) (pda_cons (pd_var 6) pda_nil))))))))
 (pdss_one (pds_ret pd_non))))))))))
set_option maxRecDepth 100000 in
theorem der_Incoming_read {P : Program} {wd : World} {K : PySem.W.Frag} {mg : Str → Option Value} {base : Heap} {A : Ad} (T : Facts P K mg A)
    (G_Incoming_ready : FnOk P wd K mg base (CX P wd) 4 A.f_Incoming_ready A.fd_Incoming_ready P_Incoming_ready (liftS K (sd_Incoming_ready A)))
    (cdv : Value) (AA : Around) (outer : List Env) (s : Shared) (H : Hp) (E : XK) (w : WD) (hr : Room 4 (AA.deeper (PyProof.Rows.envOfC "Incoming.read" (defScope s_Incoming_read) s.heap.objs.size A.f_Incoming_read cdv))) (tk : Takes (cxOf (CX P wd) P wd K mg base N_Incoming_read "Incoming.read" (defScope s_Incoming_read) A.f_Incoming_read cdv AA outer s H E) (fun cls d _ H => E cls d H)) :
    PDSs (cxOf (CX P wd) P wd K mg base N_Incoming_read "Incoming.read" (defScope s_Incoming_read) A.f_Incoming_read cdv AA outer s H E) (fun cls d _ H => E cls d H) w (defBody s_Incoming_read) (d_Incoming_read A w) :=
 (pdss_cons (pds_if (pdt_lt (pd_var 1) pd_int)
 (pdss_one (pds_raise rfl T.t_DeedWrong hr tk (pda_cons (pd_var 1) pda_nil)))
 pdss_nil)
 (pdss_cons (pds_set (i := 2) sc_Incoming_read.nd (pd_min rfl T.n_min (pda_cons (pd_var 1) (pda_cons (pd_meth0 (m := "ready") (pd_var 0) T.cl_Incoming T.m_Incoming_ready G_Incoming_ready (hr.mono (by decide)) T.b_Incoming_ready tk) pda_nil))))
 (pdss_cons (pds_set (i := 3) sc_Incoming_read.nd (pd_lst pda_nil))
 (pdss_cons (pds_while (passes_of rfl) (pdt_lt (pd_len T.n_len (pda_cons (pd_var 3) pda_nil)) (pd_var 2))
 (pdss_cons (pds_asg (pd_ix (pd_fld (f := "parts") (pd_var 0)) pd_int) (pdg_tup rfl (pdgs_cons (pdg_name (i := 4) sc_Incoming_read.nd) (pdgs_cons (pdg_name (i := 5) sc_Incoming_read.nd) pdgs_nil))))
 (pdss_cons (pds_set (i := 6) sc_Incoming_read.nd (pd_slice (pd_var 5) pdo_none (pdo_some (pd_sub (pd_var 2) (pd_len T.n_len (pda_cons (pd_var 3) pda_nil))))))
 (pdss_cons (pds_set (i := 3) sc_Incoming_read.nd (pd_add (pd_var 3) (pd_list T.n_list (pda_cons (pd_var 6) pda_nil))))
 (pdss_cons (pds_set (i := 7) sc_Incoming_read.nd (pd_ifExp (pdt_lt (pd_len T.n_len (pda_cons (pd_var 6) pda_nil)) (pd_len T.n_len (pda_cons (pd_var 5) pda_nil))) (pd_lst (pda_cons (pd_tup (pda_cons (pd_add (pd_var 4) (pd_len T.n_len (pda_cons (pd_var 6) pda_nil))) (pda_cons (pd_slice (pd_var 5) (pdo_some (pd_len T.n_len (pda_cons (pd_var 6) pda_nil))) pdo_none) pda_nil))) pda_nil)) (pd_lst pda_nil)))
 (pdss_one (pds_fld (f := "parts") (pd_var 0) (pd_add (pd_var 7) (pd_slice (pd_fld (f := "parts") (pd_var 0)) (pdo_some pd_int) pdo_none)))))))))
 (pdss_cons (pds_fldaug (f := "read_upto") (pd_var 0) (pd_var 2))
 (pdss_cons (pds_fld (f := "come") (pd_var 0) (pd_lc (own := [("low", 4), ("high", 8)]) rfl sc_Incoming_read.nd (pdi_seq (pd_fld (f := "come") (pd_var 0))) (blkOk_by (own := [("low", 4), ("high", 8)]) (N := N_Incoming_read) (sc := defScope s_Incoming_read) (by decide +kernel)) (fun _ _ _ _ _ => (pdg_tup rfl (pdgs_cons (pdg_name (i := 4) sc_Incoming_read.nd) (pdgs_cons (pdg_name (i := 8) sc_Incoming_read.nd) pdgs_nil)))) (fun _ _ _ _ _ => (pdts_one (pdt_ge (pd_var 8) (pd_fld (f := "read_upto") (pd_var 0))))) (fun _ _ _ _ _ => (pd_tup (pda_cons (pd_max rfl T.n_max (pda_cons (pd_var 4) (pda_cons (pd_fld (f := "read_upto") (pd_var 0)) pda_nil))) (pda_cons (pd_var 8) pda_nil))))))
 (pdss_one (pds_ret (pd_var 3)))))))))
set_option maxRecDepth 100000 in
theorem der_Incoming_grown {P : Program} {wd : World} {K : PySem.W.Frag} {mg : Str → Option Value} {base : Heap} {A : Ad} (T : Facts P K mg A)
    (cdv : Value) (AA : Around) (outer : List Env) (s : Shared) (H : Hp) (E : XK) (w : WD) (hr : Room 3 (AA.deeper (PyProof.Rows.envOfC "Incoming.grown" (defScope s_Incoming_grown) s.heap.objs.size A.f_Incoming_grown cdv))) (tk : Takes (cxOf (CX P wd) P wd K mg base N_Incoming_grown "Incoming.grown" (defScope s_Incoming_grown) A.f_Incoming_grown cdv AA outer s H E) (fun cls d _ H => E cls d H)) :
    PDSs (cxOf (CX P wd) P wd K mg base N_Incoming_grown "Incoming.grown" (defScope s_Incoming_grown) A.f_Incoming_grown cdv AA outer s H E) (fun cls d _ H => E cls d H) w (defBody s_Incoming_grown) (d_Incoming_grown A w) :=
 (pdss_cons (pds_set (i := 1) sc_Incoming_grown.nd (pd_min rfl T.n_min (pda_cons (pd_add (pd_fld (f := "read_upto") (pd_var 0)) (pd_fld (f := "room") (pd_var 0))) (pda_cons (pd_globI T.g_FURTHEST_incoming) pda_nil))))
 (pdss_cons (pds_if (pdt_w (pdw_or (pdt_isnot (pd_fld (f := "end") (pd_var 0)) pd_non) (pdw_or (pdt_lt (pd_mul pd_int (pd_sub (pd_var 1) (pd_fld (f := "upto") (pd_var 0)))) (pd_fld (f := "room") (pd_var 0))) (pdw_or1 (pdt_le (pd_var 1) (pd_fld (f := "upto") (pd_var 0)))))))
 (pdss_one (pds_ret pd_non))
 pdss_nil)
 (pdss_one (pds_ret (pd_var 1)))))
set_option maxRecDepth 100000 in
theorem der_Incoming_let {P : Program} {wd : World} {K : PySem.W.Frag} {mg : Str → Option Value} {base : Heap} {A : Ad} (T : Facts P K mg A)
    (cdv : Value) (AA : Around) (outer : List Env) (s : Shared) (H : Hp) (E : XK) (w : WD) (hr : Room 3 (AA.deeper (PyProof.Rows.envOfC "Incoming.let" (defScope s_Incoming_let) s.heap.objs.size A.f_Incoming_let cdv))) (tk : Takes (cxOf (CX P wd) P wd K mg base N_Incoming_let "Incoming.let" (defScope s_Incoming_let) A.f_Incoming_let cdv AA outer s H E) (fun cls d _ H => E cls d H)) :
    PDSs (cxOf (CX P wd) P wd K mg base N_Incoming_let "Incoming.let" (defScope s_Incoming_let) A.f_Incoming_let cdv AA outer s H E) (fun cls d _ H => E cls d H) w (defBody s_Incoming_let) (d_Incoming_let A w) :=
 (pdss_cons (pds_if (pdt_lt (pd_var 1) (pd_fld (f := "upto") (pd_var 0)))
 (pdss_one (pds_raise rfl T.t_DeedWrong hr tk (pda_cons (pd_var 1) pda_nil)))
 pdss_nil)
 (pdss_one (pds_fld (f := "upto") (pd_var 0) (pd_var 1))))
set_option maxRecDepth 100000 in
theorem der_Incoming_memory {P : Program} {wd : World} {K : PySem.W.Frag} {mg : Str → Option Value} {base : Heap} {A : Ad} (T : Facts P K mg A)
    (G_count : FnOk P wd K mg base (CX P wd) 4 A.f_count A.fd_count P_count (liftS K (sd_count A)))
    (cdv : Value) (AA : Around) (outer : List Env) (s : Shared) (H : Hp) (E : XK) (w : WD) (hr : Room 4 (AA.deeper (PyProof.Rows.envOfC "Incoming.memory" (defScope s_Incoming_memory) s.heap.objs.size A.f_Incoming_memory cdv))) (tk : Takes (cxOf (CX P wd) P wd K mg base N_Incoming_memory "Incoming.memory" (defScope s_Incoming_memory) A.f_Incoming_memory cdv AA outer s H E) (fun cls d _ H => E cls d H)) :
    PDSs (cxOf (CX P wd) P wd K mg base N_Incoming_memory "Incoming.memory" (defScope s_Incoming_memory) A.f_Incoming_memory cdv AA outer s H E) (fun cls d _ H => E cls d H) w (defBody s_Incoming_memory) (d_Incoming_memory A w) :=
 (pdss_one (pds_ret (pd_call G_count (hr.mono (by decide)) T.g_count T.k_count T.b_count tk (pda_cons (pd_fld (f := "come") (pd_var 0)) pda_nil))))
set_option maxRecDepth 100000 in
theorem der__law_draws {P : Program} {wd : World} {K : PySem.W.Frag} {mg : Str → Option Value} {base : Heap} {A : Ad} (T : Facts P K mg A)
    (cdv : Value) (AA : Around) (outer : List Env) (s : Shared) (H : Hp) (E : XK) (w : WD) (hr : Room 3 (AA.deeper (PyProof.Rows.envOfC "_law_draws" (defScope s__law_draws) s.heap.objs.size A.f__law_draws cdv))) (tk : Takes (cxOf (CX P wd) P wd K mg base N__law_draws "_law_draws" (defScope s__law_draws) A.f__law_draws cdv AA outer s H E) (fun cls d _ H => E cls d H)) :
    PDSs (cxOf (CX P wd) P wd K mg base N__law_draws "_law_draws" (defScope s__law_draws) A.f__law_draws cdv AA outer s H E) (fun cls d _ H => E cls d H) w (defBody s__law_draws) (d__law_draws A w) :=
 (pdss_one (pds_ret (pd_lstM (pda_cons (pd_list T.n_list (pda_cons (pd_var 0) pda_nil)) (pda_cons pd_int (pda_cons pd_int (pda_cons pd_int pda_nil)))))))
set_option maxRecDepth 100000 in
theorem der__law_draw {P : Program} {wd : World} {K : PySem.W.Frag} {mg : Str → Option Value} {base : Heap} {A : Ad} (T : Facts P K mg A)
    (cdv : Value) (AA : Around) (outer : List Env) (s : Shared) (H : Hp) (E : XK) (w : WD) (hr : Room 3 (AA.deeper (PyProof.Rows.envOfC "_law_draw" (defScope s__law_draw) s.heap.objs.size A.f__law_draw cdv))) (tk : Takes (cxOf (CX P wd) P wd K mg base N__law_draw "_law_draw" (defScope s__law_draw) A.f__law_draw cdv AA outer s H E) (fun cls d _ H => E cls d H)) :
    PDSs (cxOf (CX P wd) P wd K mg base N__law_draw "_law_draw" (defScope s__law_draw) A.f__law_draw cdv AA outer s H E) (fun cls d _ H => E cls d H) w (defBody s__law_draw) (d__law_draw A w) :=
 (pdss_cons (pds_if (pdt_w (pdw_and (pdt_eq hr (pd_ix (pd_var 0) pd_int) pd_int) (pdw_and1 (pdt_lt (pd_ix (pd_var 0) pd_int) (pd_len T.n_len (pda_cons (pd_ix (pd_var 0) pd_int) pda_nil))))))
 (pdss_cons (pds_set (i := 2) sc__law_draw.nd (pd_ix (pd_ix (pd_var 0) pd_int) (pd_ix (pd_var 0) pd_int)))
 (pdss_cons (pds_asg (pd_add (pd_ix (pd_var 0) pd_int) pd_int) (pdg_sub (pd_var 0) pd_int))
 (pdss_cons (pds_if (pdt_ge (pd_var 2) (pd_pow pd_int pd_int))
 (pdss_one (pds_asg (pd_var 2) (pdg_sub (pd_var 0) pd_int)))
 pdss_nil)
 (pdss_one (pds_asg (pd_mod (pd_intc T.n_int (pda_cons (pd_add (pd_add (pd_mul (pd_ix (pd_var 0) pd_int) pd_int) (pd_var 2)) pd_int) pda_nil)) pd_int) (pdg_sub (pd_var 0) pd_int))))))
 pdss_nil)
 (pdss_cons (pds_if (pdt_gt (pd_ix (pd_var 0) pd_int) pd_int)
 (pdss_cons (pds_set (i := 3) sc__law_draw.nd (pd_mod (pd_intc T.n_int (pda_cons (pd_ix (pd_var 0) pd_int) pda_nil)) (pd_var 1)))
 (pdss_cons (pds_asg (pd_fdiv (pd_ix (pd_var 0) pd_int) (pd_var 1)) (pdg_sub (pd_var 0) pd_int))
 (pdss_one (pds_ret (pd_var 3)))))
 pdss_nil)
 (pdss_cons (pds_asg (pd_mod (pd_intc T.n_int (pda_cons (pd_add (pd_mul (pd_ix (pd_var 0) pd_int) pd_int) pd_int) pda_nil)) pd_int) (pdg_sub (pd_var 0) pd_int))
 (pdss_one (pds_ret (pd_mod (pd_intc T.n_int (pda_cons (pd_fdiv (pd_ix (pd_var 0) pd_int) pd_int) pda_nil)) (pd_var 1)))))))
set_option maxRecDepth 100000 in
theorem der__law_same {P : Program} {wd : World} {K : PySem.W.Frag} {mg : Str → Option Value} {base : Heap} {k : Nat} {A : Ad} (sr : DSp) (T : Facts P K mg A)
    (G__law_same : FnOk P wd K mg base (CX P wd) k A.f__law_same A.fd__law_same P__law_same (liftS K sr))
    (cdv : Value) (AA : Around) (outer : List Env) (s : Shared) (H : Hp) (E : XK) (w : WD) (hr : Room k (AA.deeper (PyProof.Rows.envOfC "_law_same" (defScope s__law_same) s.heap.objs.size A.f__law_same cdv))) (tk : Takes (cxOf (CX P wd) P wd K mg base N__law_same "_law_same" (defScope s__law_same) A.f__law_same cdv AA outer s H E) (fun cls d _ H => E cls d H)) :
    PDSs (cxOf (CX P wd) P wd K mg base N__law_same "_law_same" (defScope s__law_same) A.f__law_same cdv AA outer s H E) (fun cls d _ H => E cls d H) w (defBody s__law_same) (d__law_same A sr w) :=
 (pdss_cons (pds_if (pdt_is (pd_var 1) pd_non)
 (pdss_one (pds_ret (pd_is (pd_var 0) pd_non)))
 pdss_nil)
 (pdss_cons (pds_if (pdt_val (pd_isi T.n_isinstance (pda_cons (pd_var 1) (pda_cons (pd_ty rfl T.n_bool (by decide +kernel)) pda_nil))))
 (pdss_one (pds_ret (pd_and (pd_isi T.n_isinstance (pda_cons (pd_var 0) (pda_cons (pd_ty rfl T.n_bool (by decide +kernel)) pda_nil))) (pd_bone (pd_eq hr (pd_var 0) (pd_var 1))))))
 pdss_nil)
 (pdss_cons (pds_if (pdt_val (pd_isi T.n_isinstance (pda_cons (pd_var 1) (pda_cons (pd_ty rfl T.n_int (by decide +kernel)) pda_nil))))
 (pdss_one (pds_ret (pd_and (pd_isi T.n_isinstance (pda_cons (pd_var 0) (pda_cons (pd_ty rfl T.n_int (by decide +kernel)) pda_nil))) (pd_and (pd_not (pd_isi T.n_isinstance (pda_cons (pd_var 0) (pda_cons (pd_ty rfl T.n_bool (by decide +kernel)) pda_nil)))) (pd_bone (pd_eq hr (pd_var 0) (pd_var 1)))))))
 pdss_nil)
 (pdss_cons (pds_if (pdt_val (pd_isi T.n_isinstance (pda_cons (pd_var 1) (pda_cons (pd_ty rfl T.n_str (by decide +kernel)) pda_nil))))
 (pdss_one (pds_ret (pd_and (pd_isi T.n_isinstance (pda_cons (pd_var 0) (pda_cons (pd_ty rfl T.n_str (by decide +kernel)) pda_nil))) (pd_bone (pd_eq hr (pd_var 0) (pd_var 1))))))
 pdss_nil)
 (pdss_cons (pds_if (pdt_val (pd_isi T.n_isinstance (pda_cons (pd_var 1) (pda_cons (pd_ty rfl T.n_dict (by decide +kernel)) pda_nil))))
 (pdss_cons pds_never
 (pdss_one pds_never))
 pdss_nil)
 (pdss_cons (pds_if (pdt_val (pd_isi T.n_isinstance (pda_cons (pd_var 1) (pda_cons (pd_ty rfl T.n_list (by decide +kernel)) pda_nil))))
 (pdss_one (pds_set (i := 2) sc__law_same.nd (pd_isi T.n_isinstance (pda_cons (pd_var 0) (pda_cons (pd_ty rfl T.n_list (by decide +kernel)) pda_nil)))))
 (pdss_one (pds_set (i := 2) sc__law_same.nd (pd_isi T.n_isinstance (pda_cons (pd_var 0) (pda_cons (pd_ty rfl T.n_tuple (by decide +kernel)) pda_nil))))))
 (pdss_one (pds_ret (pd_and (pd_var 2) (pd_and (pd_eq hr (pd_len T.n_len (pda_cons (pd_var 0) pda_nil)) (pd_len T.n_len (pda_cons (pd_var 1) pda_nil))) (pd_bone (pd_all rfl T.n_all (pda_cons (pd_lc (own := [("at", 4)]) rfl sc__law_same.nd (pdi_range1 T.n_range (pda_cons (pd_len T.n_len (pda_cons (pd_var 1) pda_nil)) pda_nil)) (blkOk_by (own := [("at", 4)]) (N := N__law_same) (sc := defScope s__law_same) (by decide +kernel)) (fun _ _ _ _ _ => (pdg_name (i := 4) sc__law_same.nd)) (fun _ _ _ _ _ => pdts_nil) (fun _ _ _ _ _ => (pd_call G__law_same hr T.g__law_same T.k__law_same T.b__law_same takes0 (pda_cons (pd_ix (pd_var 0) (pd_var 4)) (pda_cons (pd_ix (pd_var 1) (pd_var 4)) pda_nil))))) pda_nil)))))))))))))
set_option maxRecDepth 100000 in
theorem der__law_copy {P : Program} {wd : World} {K : PySem.W.Frag} {mg : Str → Option Value} {base : Heap} {k : Nat} {A : Ad} (sr : DSp) (T : Facts P K mg A)
    (G__law_copy : FnOk P wd K mg base (CX P wd) k A.f__law_copy A.fd__law_copy P__law_copy (liftS K sr))
    (cdv : Value) (AA : Around) (outer : List Env) (s : Shared) (H : Hp) (E : XK) (w : WD) (hr : Room k (AA.deeper (PyProof.Rows.envOfC "_law_copy" (defScope s__law_copy) s.heap.objs.size A.f__law_copy cdv))) (tk : Takes (cxOf (CX P wd) P wd K mg base N__law_copy "_law_copy" (defScope s__law_copy) A.f__law_copy cdv AA outer s H E) (fun cls d _ H => E cls d H)) :
    PDSs (cxOf (CX P wd) P wd K mg base N__law_copy "_law_copy" (defScope s__law_copy) A.f__law_copy cdv AA outer s H E) (fun cls d _ H => E cls d H) w (defBody s__law_copy) (d__law_copy A sr w) :=
 (pdss_cons (pds_if (pdt_val (pd_isi T.n_isinstance (pda_cons (pd_var 0) (pda_cons (pd_ty rfl T.n_list (by decide +kernel)) pda_nil))))
 (pdss_one (pds_ret (pd_lc (own := [("part", 3)]) rfl sc__law_copy.nd (pdi_seq (pd_var 0)) (blkOk_by (own := [("part", 3)]) (N := N__law_copy) (sc := defScope s__law_copy) (by decide +kernel)) (fun _ _ _ _ _ => (pdg_name (i := 3) sc__law_copy.nd)) (fun _ _ _ _ _ => pdts_nil) (fun _ _ _ _ _ => (pd_call G__law_copy hr T.g__law_copy T.k__law_copy T.b__law_copy takes0 (pda_cons (pd_var 3) pda_nil))))))
 pdss_nil)
 (pdss_cons (pds_if (pdt_val (pd_isi T.n_isinstance (pda_cons (pd_var 0) (pda_cons (pd_ty rfl T.n_tuple (by decide +kernel)) pda_nil))))
 (pdss_one (pds_ret (pd_tuple T.n_tuple (pda_cons (pd_lc (own := [("part", 3)]) rfl sc__law_copy.nd (pdi_tup (pd_var 0)) (blkOk_by (own := [("part", 3)]) (N := N__law_copy) (sc := defScope s__law_copy) (by decide +kernel)) (fun _ _ _ _ _ => (pdg_name (i := 3) sc__law_copy.nd)) (fun _ _ _ _ _ => pdts_nil) (fun _ _ _ _ _ => (pd_call G__law_copy hr T.g__law_copy T.k__law_copy T.b__law_copy takes0 (pda_cons (pd_var 3) pda_nil)))) pda_nil))))
 pdss_nil)
 (pdss_cons (pds_if (pdt_val (pd_isi T.n_isinstance (pda_cons (pd_var 0) (pda_cons (pd_ty rfl T.n_dict (by decide +kernel)) pda_nil))))
 (pdss_cons pds_never
 (pdss_cons pds_never
 (pdss_one pds_never)))
 pdss_nil)
 (pdss_one (pds_ret (pd_var 0))))))
set_option maxRecDepth 100000 in
theorem der__law_refused {P : Program} {wd : World} {K : PySem.W.Frag} {mg : Str → Option Value} {base : Heap} {A : Ad} (T : Facts P K mg A)
    (G_Outgoing_write : FnOk P wd K mg base (CX P wd) 5 A.f_Outgoing_write A.fd_Outgoing_write P_Outgoing_write (liftS K (sd_Outgoing_write A)))
    (G_Outgoing_finish : FnOk P wd K mg base (CX P wd) 5 A.f_Outgoing_finish A.fd_Outgoing_finish P_Outgoing_finish (liftS K (sd_Outgoing_finish A)))
    (G_Outgoing_breaks : FnOk P wd K mg base (CX P wd) 5 A.f_Outgoing_breaks A.fd_Outgoing_breaks P_Outgoing_breaks (liftS K (sd_Outgoing_breaks A)))
    (cdv : Value) (AA : Around) (outer : List Env) (s : Shared) (H : Hp) (E : XK) (w : WD) (hr : Room 5 (AA.deeper (PyProof.Rows.envOfC "_law_refused" (defScope s__law_refused) s.heap.objs.size A.f__law_refused cdv))) (tk : Takes (cxOf (CX P wd) P wd K mg base N__law_refused "_law_refused" (defScope s__law_refused) A.f__law_refused cdv AA outer s H E) (fun cls d _ H => E cls d H)) :
    PDSs (cxOf (CX P wd) P wd K mg base N__law_refused "_law_refused" (defScope s__law_refused) A.f__law_refused cdv AA outer s H E) (fun cls d _ H => E cls d H) w (defBody s__law_refused) (d__law_refused A w) :=
 (pdss_one (pds_tryAt (i := 2) T.t_DeedWrong rfl rfl sc__law_refused.nd rfl rfl ⟨rfl, by decide, .inl T.t_DeedWrong.gC⟩ (.inl rfl) (hb := fun W w pn xe tk po => (pdss_cons (pds_if (pdt_eq hr (pd_var 1) pd_str)
 (pdss_one (pds_ret (pd_tup (pda_cons pd_str (pda_cons (pd_meth (m := "write") (pd_var 0) T.cl_Outgoing T.m_Outgoing_write G_Outgoing_write (hr.mono (by decide)) T.b_Outgoing_write tk (pda_cons (pd_lst (pda_cons pd_int pda_nil)) pda_nil)) pda_nil)))))
 pdss_nil)
 (pdss_one (pds_ret (pd_tup (pda_cons pd_str (pda_cons (pd_ifExp (pdt_eq hr (pd_var 1) pd_str) (pd_meth0 (m := "finish") (pd_var 0) T.cl_Outgoing T.m_Outgoing_finish G_Outgoing_finish (hr.mono (by decide)) T.b_Outgoing_finish tk) (pd_meth0 (m := "breaks") (pd_var 0) T.cl_Outgoing T.m_Outgoing_breaks G_Outgoing_breaks (hr.mono (by decide)) T.b_Outgoing_breaks tk)) pda_nil)))))))))
set_option maxRecDepth 100000 in
theorem der__law_broken {P : Program} {wd : World} {K : PySem.W.Frag} {mg : Str → Option Value} {base : Heap} {A : Ad} (T : Facts P K mg A)
    (G__law_refused : FnOk P wd K mg base (CX P wd) 6 A.f__law_refused A.fd__law_refused P__law_refused (liftS K (sd__law_refused A)))
    (G_Outgoing_memory : FnOk P wd K mg base (CX P wd) 4 A.f_Outgoing_memory A.fd_Outgoing_memory P_Outgoing_memory (liftS K (sd_Outgoing_memory A)))
    (G_Outgoing_is_done : FnOk P wd K mg base (CX P wd) 4 A.f_Outgoing_is_done A.fd_Outgoing_is_done P_Outgoing_is_done (liftS K (sd_Outgoing_is_done A)))
    (G_Outgoing_is_due : FnOk P wd K mg base (CX P wd) 4 A.f_Outgoing_is_due A.fd_Outgoing_is_due P_Outgoing_is_due (liftS K (sd_Outgoing_is_due A)))
    (G_Outgoing_next : FnOk P wd K mg base (CX P wd) 6 A.f_Outgoing_next A.fd_Outgoing_next P_Outgoing_next (liftS K (sd_Outgoing_next A)))
    (cdv : Value) (AA : Around) (outer : List Env) (s : Shared) (H : Hp) (E : XK) (w : WD) (hr : Room 6 (AA.deeper (PyProof.Rows.envOfC "_law_broken" (defScope s__law_broken) s.heap.objs.size A.f__law_broken cdv))) (tk : Takes (cxOf (CX P wd) P wd K mg base N__law_broken "_law_broken" (defScope s__law_broken) A.f__law_broken cdv AA outer s H E) (fun cls d _ H => E cls d H)) :
    PDSs (cxOf (CX P wd) P wd K mg base N__law_broken "_law_broken" (defScope s__law_broken) A.f__law_broken cdv AA outer s H E) (fun cls d _ H => E cls d H) w (defBody s__law_broken) (d__law_broken A w) :=
 (pdss_cons (pds_setLc (i := 3) (own := [("word", 4)]) rfl sc__law_broken.nd rfl (sw_true rfl rfl rfl (by decide +kernel)) (pdi_seq (pd_lst (pda_cons pd_str (pda_cons pd_str (pda_cons pd_str pda_nil))))) (blkOk_by (own := [("word", 4)]) (N := N__law_broken) (sc := defScope s__law_broken) (by decide +kernel)) (fun _ _ _ _ _ => (pdg_name (i := 4) sc__law_broken.nd)) (fun _ _ _ _ _ => pdts_nil) (fun _ _ _ _ _ => (pd_call G__law_refused (hr.mono (by decide)) T.g__law_refused T.k__law_refused T.b__law_refused takes0 (pda_cons (pd_var 1) (pda_cons (pd_var 4) pda_nil)))))
 (pdss_cons (pds_if (pdt_w (pdw_or (pdt_ne hr (pd_var 3) (pd_mul (pd_lst (pda_cons (pd_tup (pda_cons pd_str (pda_cons pd_str pda_nil))) pda_nil)) pd_int)) (pdw_or (pdt_ne hr (pd_meth0 (m := "memory") (pd_var 1) T.cl_Outgoing T.m_Outgoing_memory G_Outgoing_memory (hr.mono (by decide)) T.b_Outgoing_memory tk) pd_int) (pdw_or (pdt_ne hr (pd_fld (f := "sent") (pd_var 1)) (pd_var 2)) (pdw_or (pdt_val (pd_meth0 (m := "is_done") (pd_var 1) T.cl_Outgoing T.m_Outgoing_is_done G_Outgoing_is_done (hr.mono (by decide)) T.b_Outgoing_is_done tk)) (pdw_or1 (pdt_isnot (pd_meth (m := "is_due") (pd_var 1) T.cl_Outgoing T.m_Outgoing_is_due G_Outgoing_is_due (hr.mono (by decide)) T.b_Outgoing_is_due tk (pda_cons pd_int pda_nil)) pd_bl)))))))
 (pdss_one (pds_ret pd_bl))
 pdss_nil)
 (pdss_one (pds_ret (pd_is (pd_meth (m := "next") (pd_var 1) T.cl_Outgoing T.m_Outgoing_next G_Outgoing_next (hr.mono (by decide)) T.b_Outgoing_next tk (pda_cons (pd_neg pd_int) (pda_cons (pd_pow pd_int pd_int) pda_nil))) pd_non)))))
set_option maxRecDepth 100000 in
theorem der_law {P : Program} {wd : World} {K : PySem.W.Frag} {mg : Str → Option Value} {base : Heap} {A : Ad} (T : Facts P K mg A)
    (G__law_draws : FnOk P wd K mg base (CX P wd) 4 A.f__law_draws A.fd__law_draws P__law_draws (liftS K (sd__law_draws A)))
    (G__law_draw : FnOk P wd K mg base (CX P wd) 4 A.f__law_draw A.fd__law_draw P__law_draw (liftS K (sd__law_draw A)))
    (G_Outgoing___init__ : FnOk P wd K mg base (CX P wd) 4 A.f_Outgoing___init__ A.fd_Outgoing___init__ P_Outgoing___init__ (liftS K (sd_Outgoing___init__ A)))
    (G_Incoming___init__ : FnOk P wd K mg base (CX P wd) 4 A.f_Incoming___init__ A.fd_Incoming___init__ P_Incoming___init__ (liftS K (sd_Incoming___init__ A)))
    (G_Outgoing_write : FnOk P wd K mg base (CX P wd) 5 A.f_Outgoing_write A.fd_Outgoing_write P_Outgoing_write (liftS K (sd_Outgoing_write A)))
    (G_Outgoing_finish : FnOk P wd K mg base (CX P wd) 5 A.f_Outgoing_finish A.fd_Outgoing_finish P_Outgoing_finish (liftS K (sd_Outgoing_finish A)))
    (G_Outgoing_is_done : FnOk P wd K mg base (CX P wd) 4 A.f_Outgoing_is_done A.fd_Outgoing_is_done P_Outgoing_is_done (liftS K (sd_Outgoing_is_done A)))
    (G__law_same : FnOk P wd K mg base (CX P wd) 8 A.f__law_same A.fd__law_same P__law_same (liftS K (sd__law_same A)))
    (G__law_refused : FnOk P wd K mg base (CX P wd) 6 A.f__law_refused A.fd__law_refused P__law_refused (liftS K (sd__law_refused A)))
    (G__law_broken : FnOk P wd K mg base (CX P wd) 7 A.f__law_broken A.fd__law_broken P__law_broken (liftS K (sd__law_broken A)))
    (G_Outgoing_next : FnOk P wd K mg base (CX P wd) 6 A.f_Outgoing_next A.fd_Outgoing_next P_Outgoing_next (liftS K (sd_Outgoing_next A)))
    (G_Incoming_is_whole : FnOk P wd K mg base (CX P wd) 5 A.f_Incoming_is_whole A.fd_Incoming_is_whole P_Incoming_is_whole (liftS K (sd_Incoming_is_whole A)))
    (G_Incoming_read : FnOk P wd K mg base (CX P wd) 5 A.f_Incoming_read A.fd_Incoming_read P_Incoming_read (liftS K (sd_Incoming_read A)))
    (G_Incoming_take : FnOk P wd K mg base (CX P wd) 7 A.f_Incoming_take A.fd_Incoming_take P_Incoming_take (liftS K (sd_Incoming_take A)))
    (G__law_copy : FnOk P wd K mg base (CX P wd) 9 A.f__law_copy A.fd__law_copy P__law_copy (liftS K (sd__law_copy A)))
    (G_Incoming_memory : FnOk P wd K mg base (CX P wd) 5 A.f_Incoming_memory A.fd_Incoming_memory P_Incoming_memory (liftS K (sd_Incoming_memory A)))
    (G_Outgoing_got : FnOk P wd K mg base (CX P wd) 5 A.f_Outgoing_got A.fd_Outgoing_got P_Outgoing_got (liftS K (sd_Outgoing_got A)))
    (G_Outgoing_lost : FnOk P wd K mg base (CX P wd) 6 A.f_Outgoing_lost A.fd_Outgoing_lost P_Outgoing_lost (liftS K (sd_Outgoing_lost A)))
    (G_Incoming_grown : FnOk P wd K mg base (CX P wd) 4 A.f_Incoming_grown A.fd_Incoming_grown P_Incoming_grown (liftS K (sd_Incoming_grown A)))
    (G_Incoming_let : FnOk P wd K mg base (CX P wd) 4 A.f_Incoming_let A.fd_Incoming_let P_Incoming_let (liftS K (sd_Incoming_let A)))
    (G_Outgoing_memory : FnOk P wd K mg base (CX P wd) 4 A.f_Outgoing_memory A.fd_Outgoing_memory P_Outgoing_memory (liftS K (sd_Outgoing_memory A)))
    (G_Incoming_ready : FnOk P wd K mg base (CX P wd) 4 A.f_Incoming_ready A.fd_Incoming_ready P_Incoming_ready (liftS K (sd_Incoming_ready A)))
    (cdv : Value) (AA : Around) (outer : List Env) (s : Shared) (H : Hp) (E : XK) (w : WD) (hr : Room 9 (AA.deeper (PyProof.Rows.envOfC "law" (defScope s_law) s.heap.objs.size A.f_law cdv))) (tk : Takes (cxOf (CX P wd) P wd K mg base N_law "law" (defScope s_law) A.f_law cdv AA outer s H E) (fun cls d _ H => E cls d H)) :
    PDSs (cxOf (CX P wd) P wd K mg base N_law "law" (defScope s_law) A.f_law cdv AA outer s H E) (fun cls d _ H => E cls d H) w (defBody s_law) (d_law A w) :=
 (pdss_cons (pds_set (i := 1) sc_law.nd (pd_call G__law_draws (hr.mono (by decide)) T.g__law_draws T.k__law_draws T.b__law_draws tk (pda_cons (pd_var 0) pda_nil)))
 (pdss_cons (pds_setLc (i := 2) (own := [("k", 20)]) rfl sc_law.nd rfl (sw_true rfl rfl rfl (by decide +kernel)) (pdi_range1 T.n_range (pda_cons (pd_ix (pd_lst (pda_cons pd_int (pda_cons pd_int (pda_cons pd_int pda_nil)))) (pd_call G__law_draw (hr.mono (by decide)) T.g__law_draw T.k__law_draw T.b__law_draw tk (pda_cons (pd_var 1) (pda_cons pd_int pda_nil)))) pda_nil)) (blkOk_by (own := [("k", 20)]) (N := N_law) (sc := defScope s_law) (by decide +kernel)) (fun _ _ _ _ _ => (pdg_name (i := 20) sc_law.nd)) (fun _ _ _ _ _ => pdts_nil) (fun _ _ _ _ _ => (pd_call G__law_draw (hr.mono (by decide)) T.g__law_draw T.k__law_draw T.b__law_draw takes0 (pda_cons (pd_var 1) (pda_cons pd_int pda_nil)))))
 (pdss_cons (pds_par3 (i := 3) (j := 4) (l := 5) rfl sc_law.nd (pda_cons (pd_ix (pd_lst (pda_cons pd_int (pda_cons pd_int (pda_cons pd_int pda_nil)))) (pd_call G__law_draw (hr.mono (by decide)) T.g__law_draw T.k__law_draw T.b__law_draw tk (pda_cons (pd_var 1) (pda_cons pd_int pda_nil)))) (pda_cons (pd_add pd_int (pd_call G__law_draw (hr.mono (by decide)) T.g__law_draw T.k__law_draw T.b__law_draw tk (pda_cons (pd_var 1) (pda_cons pd_int pda_nil)))) (pda_cons (pd_call G__law_draw (hr.mono (by decide)) T.g__law_draw T.k__law_draw T.b__law_draw tk (pda_cons (pd_var 1) (pda_cons pd_int pda_nil))) pda_nil))))
 (pdss_cons (pds_par (i := 6) (j := 7) rfl sc_law.nd (pda_cons (pd_make T.mk_Outgoing T.cl_Outgoing G_Outgoing___init__ (hr.mono (by decide)) T.g_Outgoing T.b_Outgoing___init__ (pda_cons pd_int (pda_cons pd_int pda_nil))) (pda_cons (pd_make T.mk_Incoming T.cl_Incoming G_Incoming___init__ (hr.mono (by decide)) T.g_Incoming T.b_Incoming___init__ (pda_cons pd_int (pda_cons (pd_var 3) pda_nil))) pda_nil)))
 (pdss_cons (pds_expr (pd_meth (m := "write") (pd_var 6) T.cl_Outgoing T.m_Outgoing_write G_Outgoing_write (hr.mono (by decide)) T.b_Outgoing_write tk (pda_cons (pd_list T.n_list (pda_cons (pd_var 2) pda_nil)) pda_nil)))
 (pdss_cons (pds_if (pdt_eq hr (pd_call G__law_draw (hr.mono (by decide)) T.g__law_draw T.k__law_draw T.b__law_draw tk (pda_cons (pd_var 1) (pda_cons pd_int pda_nil))) pd_int)
 (pdss_one (pds_expr (pd_meth0 (m := "finish") (pd_var 6) T.cl_Outgoing T.m_Outgoing_finish G_Outgoing_finish (hr.mono (by decide)) T.b_Outgoing_finish tk)))
 pdss_nil)
 (pdss_cons (pds_asg (pd_tup (pda_cons (pd_lst pda_nil) (pda_cons (pd_lstM pda_nil) (pda_cons pd_int (pda_cons pd_non (pda_cons pd_bl pda_nil)))))) (pdg_tup rfl (pdgs_cons (pdg_name (i := 8) sc_law.nd) (pdgs_cons (pdg_name (i := 9) sc_law.nd) (pdgs_cons (pdg_name (i := 10) sc_law.nd) (pdgs_cons (pdg_name (i := 11) sc_law.nd) (pdgs_cons (pdg_name (i := 12) sc_law.nd) pdgs_nil)))))))
 (pdss_cons (pds_for (passes_of rfl) rfl (pdi_range1 T.n_range (pda_cons (pd_add (pd_var 5) pd_int) pda_nil)) (pdg_name (i := 13) sc_law.nd)
 (pdss_cons (pds_if (pdt_eq hr (pd_var 13) (pd_var 5))
 (pdss_cons (pds_if (pdt_val (pd_meth0 (m := "is_done") (pd_var 6) T.cl_Outgoing T.m_Outgoing_is_done G_Outgoing_is_done (hr.mono (by decide)) T.b_Outgoing_is_done tk))
 (pdss_one (pds_ret (pd_call G__law_same (hr.mono (by decide)) T.g__law_same T.k__law_same T.b__law_same tk (pda_cons (pd_call G__law_refused (hr.mono (by decide)) T.g__law_refused T.k__law_refused T.b__law_refused tk (pda_cons (pd_var 6) (pda_cons pd_str pda_nil))) (pda_cons (pd_tup (pda_cons pd_str (pda_cons pd_str pda_nil))) pda_nil)))))
 pdss_nil)
 (pdss_cons (pds_if (pdt_w (pdw_or (pdt_ne hr (pd_call G__law_refused (hr.mono (by decide)) T.g__law_refused T.k__law_refused T.b__law_refused tk (pda_cons (pd_var 6) (pda_cons pd_str pda_nil))) (pd_tup (pda_cons pd_str (pda_cons pd_non pda_nil)))) (pdw_or1 (pdt_not (pdt_val (pd_call G__law_broken (hr.mono (by decide)) T.g__law_broken T.k__law_broken T.b__law_broken tk (pda_cons (pd_var 1) (pda_cons (pd_var 6) (pda_cons (pd_var 10) pda_nil)))))))))
 (pdss_one (pds_ret pd_bl))
 pdss_nil)
 (pdss_one (pds_set (i := 11) sc_law.nd (pd_fld (f := "base") (pd_var 6))))))
 pdss_nil)
 (pdss_cons (pds_set (i := 14) sc_law.nd (pd_meth (m := "next") (pd_var 6) T.cl_Outgoing T.m_Outgoing_next G_Outgoing_next (hr.mono (by decide)) T.b_Outgoing_next tk (pda_cons (pd_var 4) (pda_cons (pd_fld (f := "upto") (pd_var 7)) pda_nil))))
 (pdss_cons (pds_if (pdt_isnot (pd_var 14) pd_non)
 (pdss_cons (pds_if (pdt_w (pdw_or (pdt_ne hr (pd_ix (pd_var 14) pd_int) (pd_ifExp (pdt_is (pd_var 11) pd_non) pd_str pd_str)) (pdw_or1 (pdt_w (pdw_and (pdt_isnot (pd_var 11) pd_non) (pdw_and1 (pdt_ne hr (pd_var 14) (pd_tup (pda_cons pd_str (pda_cons pd_int (pda_cons (pd_var 10) pda_nil)))))))))))
 (pdss_one (pds_ret pd_bl))
 pdss_nil)
 (pdss_cons (pds_if (pdt_eq hr (pd_ix (pd_var 14) pd_int) pd_str)
 (pdss_one (pds_set (i := 10) sc_law.nd (pd_max rfl T.n_max (pda_cons (pd_var 10) (pda_cons (pd_add (pd_ix (pd_var 14) pd_int) (pd_len T.n_len (pda_cons (pd_ix (pd_var 14) pd_int) pda_nil))) pda_nil)))))
 pdss_nil)
 (pdss_one (pds_append (pd_var 9) (pda_cons (pd_var 14) pda_nil)))))
 pdss_nil)
 (pdss_cons (pds_set (i := 15) sc_law.nd (pd_lstM pda_nil))
 (pdss_cons (pds_for (passes_of rfl) rfl (pdi_seq (pd_var 9)) (pdg_name (i := 14) sc_law.nd)
 (pdss_cons (pds_set (i := 16) sc_law.nd (pd_ifExp (pdt_lt (pd_var 13) (pd_add (pd_var 5) pd_int)) (pd_call G__law_draw (hr.mono (by decide)) T.g__law_draw T.k__law_draw T.b__law_draw tk (pda_cons (pd_var 1) (pda_cons pd_int pda_nil))) pd_int))
 (pdss_one (pds_if (pdt_lt (pd_var 16) pd_int)
 (pdss_cons (pds_set (i := 17) sc_law.nd (pd_meth0 (m := "is_whole") (pd_var 7) T.cl_Incoming T.m_Incoming_is_whole G_Incoming_is_whole (hr.mono (by decide)) T.b_Incoming_is_whole tk))
 (pdss_cons (pds_set (i := 18) sc_law.nd (pd_add (pd_var 8) (pd_meth (m := "read") (pd_var 7) T.cl_Incoming T.m_Incoming_read G_Incoming_read (hr.mono (by decide)) T.b_Incoming_read tk (pda_cons pd_int pda_nil))))
 (pdss_cons (pds_if (pdt_isnot (pd_meth (m := "take") (pd_var 7) T.cl_Incoming T.m_Incoming_take G_Incoming_take (hr.mono (by decide)) T.b_Incoming_take tk (pda_cons (pd_call G__law_copy (hr.mono (by decide)) T.g__law_copy T.k__law_copy T.b__law_copy tk (pda_cons (pd_var 14) pda_nil)) pda_nil)) pd_non)
 (pdss_one (pds_ret pd_bl))
 pdss_nil)
 (pdss_cons (pds_if (pdt_w (pdw_and (pdt_eq hr (pd_ix (pd_var 14) pd_int) pd_str) (pdw_and (pdt_not (pdt_val (pd_var 17))) (pdw_and1 (pdt_w (pdw_or (pdt_isnot (pd_fld (f := "is_broken") (pd_var 7)) pd_bl) (pdw_or (pdt_ne hr (pd_meth0 (m := "memory") (pd_var 7) T.cl_Incoming T.m_Incoming_memory G_Incoming_memory (hr.mono (by decide)) T.b_Incoming_memory tk) pd_int) (pdw_or1 (pdt_ne hr (pd_add (pd_fld (f := "skipped") (pd_var 7)) (pd_len T.n_len (pda_cons (pd_var 18) pda_nil))) (pd_var 10))))))))))
 (pdss_one (pds_ret pd_bl))
 pdss_nil)
 (pdss_cons (pds_if (pdt_w (pdw_and (pdt_eq hr (pd_ix (pd_var 14) pd_int) pd_str) (pdw_and (pdt_val (pd_var 17)) (pdw_and (pdt_val (pd_fld (f := "is_broken") (pd_var 7))) (pdw_and1 (pdt_val (pd_var 12)))))))
 (pdss_one (pds_ret pd_bl))
 pdss_nil)
 (pdss_one (pds_if (pdt_lt (pd_var 16) pd_int)
 (pdss_one (pds_expr (pd_meth (m := "got") (pd_var 6) T.cl_Outgoing T.m_Outgoing_got G_Outgoing_got (hr.mono (by decide)) T.b_Outgoing_got tk (pda_cons (pd_var 14) pda_nil))))
 (pdss_one (pds_append (pd_var 15) (pda_cons (pd_var 14) pda_nil))))))))))
 (pdss_one (pds_if (pdt_eq hr (pd_var 16) pd_int)
 (pdss_one (pds_expr (pd_meth (m := "lost") (pd_var 6) T.cl_Outgoing T.m_Outgoing_lost G_Outgoing_lost (hr.mono (by decide)) T.b_Outgoing_lost tk (pda_cons (pd_var 14) pda_nil))))
 (pdss_one (pds_append (pd_var 15) (pda_cons (pd_var 14) pda_nil)))))))))
 (pdss_cons (pds_set (i := 9) sc_law.nd (pd_revM (pd_var 15)))
 (pdss_cons (pds_set (i := 12) sc_law.nd (pd_and (pd_meth0 (m := "is_whole") (pd_var 7) T.cl_Incoming T.m_Incoming_is_whole G_Incoming_is_whole (hr.mono (by decide)) T.b_Incoming_is_whole tk) (pd_bone (pd_not (pd_fld (f := "is_broken") (pd_var 7))))))
 (pdss_cons (pds_set (i := 8) sc_law.nd (pd_add (pd_var 8) (pd_meth (m := "read") (pd_var 7) T.cl_Incoming T.m_Incoming_read G_Incoming_read (hr.mono (by decide)) T.b_Incoming_read tk (pda_cons (pd_call G__law_draw (hr.mono (by decide)) T.g__law_draw T.k__law_draw T.b__law_draw tk (pda_cons (pd_var 1) (pda_cons pd_int pda_nil))) pda_nil))))
 (pdss_cons (pds_set (i := 19) sc_law.nd (pd_meth0 (m := "grown") (pd_var 7) T.cl_Incoming T.m_Incoming_grown G_Incoming_grown (hr.mono (by decide)) T.b_Incoming_grown tk))
 (pdss_cons (pds_if (pdt_isnot (pd_var 19) pd_non)
 (pdss_one (pds_expr (pd_meth (m := "let") (pd_var 7) T.cl_Incoming T.m_Incoming_let G_Incoming_let (hr.mono (by decide)) T.b_Incoming_let tk (pda_cons (pd_var 19) pda_nil))))
 pdss_nil)
 (pdss_one (pds_if (pdt_w (pdw_or (pdt_not (pdt_val (pd_call G__law_same (hr.mono (by decide)) T.g__law_same T.k__law_same T.b__law_same tk (pda_cons (pd_var 8) (pda_cons (pd_slice (pd_var 2) pdo_none (pdo_some (pd_len T.n_len (pda_cons (pd_var 8) pda_nil)))) pda_nil))))) (pdw_or (pdt_gt (pd_meth0 (m := "memory") (pd_var 7) T.cl_Incoming T.m_Incoming_memory G_Incoming_memory (hr.mono (by decide)) T.b_Incoming_memory tk) (pd_var 3)) (pdw_or1 (pdt_w (pdw_and (pdt_isnot (pd_var 11) pd_non) (pdw_and1 (pdt_w (pdw_or (pdt_ne hr (pd_fld (f := "base") (pd_var 6)) (pd_var 11)) (pdw_or1 (pdt_ne hr (pd_meth0 (m := "memory") (pd_var 6) T.cl_Outgoing T.m_Outgoing_memory G_Outgoing_memory (hr.mono (by decide)) T.b_Outgoing_memory tk) pd_int)))))))))))
 (pdss_one (pds_ret pd_bl))
 pdss_nil)))))))))))))
 (pdss_one (pds_ret (pd_and (pd_meth0 (m := "is_done") (pd_var 6) T.cl_Outgoing T.m_Outgoing_is_done G_Outgoing_is_done (hr.mono (by decide)) T.b_Outgoing_is_done tk) (pd_and (pd_meth0 (m := "is_whole") (pd_var 7) T.cl_Incoming T.m_Incoming_is_whole G_Incoming_is_whole (hr.mono (by decide)) T.b_Incoming_is_whole tk) (pd_and (pd_is (pd_meth (m := "next") (pd_var 6) T.cl_Outgoing T.m_Outgoing_next G_Outgoing_next (hr.mono (by decide)) T.b_Outgoing_next tk (pda_cons pd_int (pda_cons (pd_pow pd_int pd_int) pda_nil))) pd_non) (pd_bone (pd_or (pd_fld (f := "is_broken") (pd_var 7)) (pd_bone (pd_eq hr (pd_add (pd_len T.n_len (pda_cons (pd_var 8) pda_nil)) (pd_meth0 (m := "ready") (pd_var 7) T.cl_Incoming T.m_Incoming_ready G_Incoming_ready (hr.mono (by decide)) T.b_Incoming_ready tk)) (pd_len T.n_len (pda_cons (pd_var 2) pda_nil)))))))))))))))))))
end K23

namespace K23
open PySem L2 DL RG
theorem sz (n : Nat) (h : n ≤ 10000000) : n ≤ sizeLine := Nat.le_trans h sizeLine_big
theorem small_len {rs : RL} (h : Rg rs) (s : Small rs) : rs.length ≤ 1000000 := by
  have := h.len (lo := 0) (hi := 1000000) s (by omega)
  omega
theorem pr_hd (rs : RL) : rs.map pr = (rs.map fun r => (r.1, Dt.int r.2)).map hdD := by
  rw [List.map_map]; rfl
theorem perm_back {ps : RL} {qs : List (Int × Dt)} (h : qs.Perm (ps.map fun r => (r.1, Dt.int r.2))) : ∃ rs : RL, rs.Perm ps ∧ qs = rs.map fun r => (r.1, Dt.int r.2) := by
  obtain ⟨ys, h1, h2⟩ := perm_rel (R := fun (q : Int × Dt) (r : Int × Int) => q = (r.1, Dt.int r.2)) h (ys := ps) (by
    clear h
    induction ps with
    | nil => exact .nil
    | cons r ps ih => exact .cons rfl ih)
  refine ⟨ys, h1, ?_⟩
  clear h1 h
  induction h2 with
  | nil => rfl
  | cons e _ ih => rw [e, ih]; rfl
theorem updM_at {M : DM} {a : Addr} {o : MO} : updM M a o a = some o := updM_same
theorem put_loop {A : Ad} {w : WD} {rs0 : RL} {lo0 hi0 : Int} {p : Addr} {R : Dt} {M : DM} {D : DEnds} (hN : ∀ (f : RL) (lo hi : Int) (s4 s5 : Option Dt), PutI rs0 lo0 hi0 f [] lo hi → f.length ≤ 1000000 → D.nx [some R, some (.int lo), some (.int hi), some (.ref p), s4, s5] (updM M p (.lst (f.map pr)))) :
    ∀ (rs f : RL) (lo hi : Int) (s4 s5 : Option Dt), PutI rs0 lo0 hi0 f rs lo hi → f.length + rs.length ≤ 1000000 → walkD (kTupG 2 (dgCons (dgName 4) (dgCons (dgName 5) dgNil))) (b_put_range_1 A w) D (rs.map pr) [some R, some (.int lo), some (.int hi), some (.ref p), s4, s5] (updM M p (.lst (f.map pr)))
  | [], f, lo, hi, s4, s5, h, hl => hN f lo hi s4 s5 h (by simpa using hl)
  | (a, b) :: rs, f, lo, hi, s4, s5, h, hl => by
    have ih := put_loop (A := A) (w := w) (rs0 := rs0) (lo0 := lo0) (hi0 := hi0) hN rs
    have e2 : 2 ≤ sizeLine := sz 2 (by omega)
    have e3 : f.length < sizeLine := by simp at hl; have := sizeLine_big; omega
    rw [List.map_cons, walkD_cons]
    generalize walkD (kTupG 2 (dgCons (dgName 4) (dgCons (dgName 5) dgNil))) (b_put_range_1 A w) D (rs.map pr) = Wk at ih ⊢
    simp [pr, b_put_range_1, e2, e3]
    split
    · have := ih (f ++ [(a, b)]) lo hi (some (.int a)) (some (.int b)) (h.keep (.inl (by assumption))) (by simp at hl ⊢; omega)
      simpa [pr] using this
    · split
      · have := ih (f ++ [(a, b)]) lo hi (some (.int a)) (some (.int b)) (h.keep (.inr (by assumption))) (by simp at hl ⊢; omega)
        simpa [pr] using this
      · exact ih f (min lo a) (max hi b) (some (.int a)) (some (.int b)) (h.eat (by assumption) (by assumption)) (by simp at hl ⊢; omega)
theorem sat_put_range (A : Ad) (ds : List Dt) (M : DM) (Q : DK) (E : Addr → Dt → DM → Prop) (h : sd_put_range A ds M Q E) : d_put_range A (fun C d _ M => Eg E C d M) { nx := fun _ M => Qg Q .non M, rt := Qg Q } (startD 6 ds) M := by
  obtain ⟨rs, lo, hi, rfl, hr, hl, hs, k⟩ := h
  have hlen := small_len hr hs
  unfold d_put_range
  simp
  intro p hp
  refine put_loop (rs0 := rs) (lo0 := lo) (hi0 := hi) ?_ rs [] lo hi none none (PutI.start hr hl) (by simpa using hlen)
  intro f lo' hi' s4 s5 hf hfl
  obtain ⟨h1, h2⟩ := hf.done
  simp [bSortH]
  refine ⟨sz _ (by omega), sz _ (by omega), sz _ (by omega), (f ++ [(lo', hi')]).map (fun r => (r.1, Dt.int r.2)), ?_, ?_, ?_⟩
  · rw [← pr_hd]; simp [pr]
  · rw [List.map_map]; exact h1
  · intro qs hq hs'
    obtain ⟨zs, z1, z2⟩ := perm_back hq
    subst z2
    rw [← pr_hd]
    obtain ⟨q1, q2⟩ := h2 zs z1 (by rw [List.pairwise_map] at hs'; exact hs')
    exact ⟨M, Sub.new hp, k zs q1 q2⟩
/-! comprehensions whose step tells nothing of the store -/
theorem delM_upd {M : DM} {p : Addr} {o : MO} (h : M p = none) : delM (updM M p o) p = M := by
  funext b
  unfold delM updM
  by_cases e : b = p
  · simp [e, h]
  · simp [e]
theorem walkC_pure {dg : DG} {dt : DT} {de : DE} {δ : DS} {p : Addr} {Q : DK} (f : Dt → Option Dt) {M0 : DM} (hp : M0 p = none) : ∀ (ds acc : List Dt), acc.length + ds.length ≤ 10000000 - 1 →
    (∀ d ∈ ds, ∀ (acc' : List Dt) (N : DS → DM → Prop) (Wk : DM → Prop), acc'.length < 10000000 → (match f d with
      | some y => Wk (updM M0 p (.lst (acc' ++ [y])))
      | none => Wk (updM M0 p (.lst acc'))) → dg d δ (updM M0 p (.lst acc')) (kC1 dt de p Wk)) →
    Q (.lst (acc ++ ds.filterMap f)) M0 → walkC dg dt de δ p Q ds (updM M0 p (.lst acc))
  | [], acc, hl, hs, q => by
    show endC p Q (updM M0 p (.lst acc)) (updM M0 p (.lst acc) p)
    rw [updM_same]
    show Q (.lst acc) (delM (updM M0 p (.lst acc)) p)
    rw [delM_upd hp]
    simpa using q
  | d :: ds, acc, hl, hs, q => by
    refine hs d List.mem_cons_self acc (fun _ _ => True) _ (by simp at hl; omega) ?_
    cases e : f d with
    | none =>
      refine walkC_pure f hp ds acc (by simp at hl ⊢; omega) (fun d' h' => hs d' (List.mem_cons_of_mem _ h')) ?_
      simpa [e] using q
    | some y =>
      refine walkC_pure f hp ds (acc ++ [y]) (by simp at hl ⊢; omega) (fun d' h' => hs d' (List.mem_cons_of_mem _ h')) ?_
      simpa [e] using q
theorem addC_at {p : Addr} {y : Dt} {N : DM → Prop} {M0 : DM} {acc : List Dt} : addC p y N (updM M0 p (.lst acc)) (updM M0 p (.lst acc) p) ↔ acc.length < sizeLine ∧ N (updM M0 p (.lst (acc ++ [y]))) := by
  rw [updM_same]
  show _ ∧ N (updM (updM M0 p (.lst acc)) p _) ↔ _
  rw [updM_updM]
theorem drop_loop {A : Ad} {w : WD} {p : Addr} {R : Dt} {M : DM} {D : DEnds} {lo hi : Int} (hN : ∀ (f : RL) (s4 s5 s6 : Option Dt), f.length ≤ 4000000 → D.nx [some R, some (.int lo), some (.int hi), some (.ref p), s4, s5, s6] (updM M p (.lst (f.map pr)))) : True := trivial
theorem drop_loop' {A : Ad} {w : WD} {p : Addr} {R : Dt} {M : DM} {D : DEnds} {lo hi : Int} {s6 : Option Dt} : ∀ (rs f : RL) (s4 s5 : Option Dt), f.length + 2 * rs.length ≤ 4000000 →
    (∀ s4 s5, D.nx [some R, some (.int lo), some (.int hi), some (.ref p), s4, s5, s6] (updM M p (.lst ((f ++ dropR rs lo hi).map pr)))) →
    walkD (kTupG 2 (dgCons (dgName 4) (dgCons (dgName 5) dgNil))) (b_drop_range_1 A w) D (rs.map pr) [some R, some (.int lo), some (.int hi), some (.ref p), s4, s5, s6] (updM M p (.lst (f.map pr)))
  | [], f, s4, s5, hl, h => by simpa [dropR] using h s4 s5
  | (a, b) :: rs, f, s4, s5, hl, h => by
    have ih := drop_loop' (A := A) (w := w) (p := p) (R := R) (M := M) (D := D) (lo := lo) (hi := hi) (s6 := s6) rs
    have e2 : 2 ≤ sizeLine := sz 2 (by omega)
    have e3 : f.length < sizeLine := by simp at hl; have := sizeLine_big; omega
    have e4 : f.length + 1 < sizeLine := by simp at hl; have := sizeLine_big; omega
    rw [List.map_cons, walkD_cons]
    generalize walkD (kTupG 2 (dgCons (dgName 4) (dgCons (dgName 5) dgNil))) (b_drop_range_1 A w) D (rs.map pr) = Wk at ih ⊢
    have hd : dropR ((a, b) :: rs) lo hi = drop1 lo hi (a, b) ++ dropR rs lo hi := by unfold dropR; rw [List.flatMap_cons]
    rw [hd] at h
    unfold drop1 at h
    simp [pr, b_drop_range_1, e2, e3, e4]
    by_cases c1 : a < lo <;> by_cases c2 : hi < b <;> simp [c1, c2, e2, e3, e4] at h ⊢
    · have := ih (f ++ [(a, min b (lo - 1)), (max a (hi + 1), b)]) (some (.int a)) (some (.int b)) (by simp at hl ⊢; omega) (by simpa [pr] using h)
      simpa [pr] using this
    · have := ih (f ++ [(a, min b (lo - 1))]) (some (.int a)) (some (.int b)) (by simp at hl ⊢; omega) (by simpa [pr] using h)
      simpa [pr] using this
    · have := ih (f ++ [(max a (hi + 1), b)]) (some (.int a)) (some (.int b)) (by simp at hl ⊢; omega) (by simpa [pr] using h)
      simpa [pr] using this
    · exact ih f (some (.int a)) (some (.int b)) (by simp at hl ⊢; omega) (by simpa [pr] using h)
theorem filterMap_some {α β : Type} {f : α → β} : ∀ l : List α, l.filterMap (fun x => some (f x)) = l.map f
  | [] => rfl
  | a :: l => by simp [filterMap_some l]
theorem sat_drop_range (A : Ad) (ds : List Dt) (M : DM) (Q : DK) (E : Addr → Dt → DM → Prop) (h : sd_drop_range A ds M Q E) : d_drop_range A (fun C d _ M => Eg E C d M) { nx := fun _ M => Qg Q .non M, rt := Qg Q } (startD 7 ds) M := by
  obtain ⟨rs, lo, hi, rfl, hr, hl, hs, k⟩ := h
  have hlen := small_len hr hs
  unfold d_drop_range
  simp
  intro p hp
  refine drop_loop' rs [] none none (by simp; omega) fun s4 s5 => ?_
  simp [dLc]
  have h0 : delM (updM M p (.lst ((dropR rs lo hi).map pr))) p = M := delM_upd hp
  rw [h0]
  intro p2 hp2
  have hdl := dropR_len rs lo hi
  refine walkC_pure some hp2 _ [] (by simp; omega) ?_ ?_
  · intro d hd acc' N Wk ha hw
    obtain ⟨r, hr1, rfl⟩ := List.mem_map.mp hd
    have hle := (dropR_rg hr hl).2 r hr1
    have q : acc'.length < sizeLine := Nat.lt_of_lt_of_le ha sizeLine_big
    simp [pr, hle, q]
    simpa [pr] using hw
  · simp
    exact ⟨M, Sub.refl M, k⟩
theorem drop_all_loop {A : Ad} {w : WD} {D : DEnds} {M : DM} {R : Dt} {rs0 : RL} : ∀ (os rs : RL) (s2 s3 : Option Dt), Rg rs → Small rs → (∀ r ∈ os, r.1 ≤ r.2) →
    (∀ (rs' : RL) (s2 s3 : Option Dt), Rg rs' → (∀ x, cov rs' x ↔ cov rs x ∧ ¬ cov os x) → D.nx [some (rgs rs'), some R, s2, s3] M) →
    walkD (kTupG 2 (dgCons (dgName 2) (dgCons (dgName 3) dgNil))) (b_drop_all_1 A w) D (os.map pr) [some (rgs rs), some R, s2, s3] M
  | [], rs, s2, s3, hr, hs, ho, h => by
    simpa using h rs s2 s3 hr (fun x => by simp [cov_nil])
  | (a, b) :: os, rs, s2, s3, hr, hs, ho, h => by
    have hab : a ≤ b := ho (a, b) List.mem_cons_self
    have ih := drop_all_loop (A := A) (w := w) (D := D) (M := M) (R := R) (rs0 := rs0) os (dropR rs a b) (some (.int a)) (some (.int b)) (dropR_rg hr hab) (fun x hx => hs x ((dropR_cov hr hab x).mp hx).1) (fun r hr => ho r (List.mem_cons_of_mem _ hr)) (fun rs' s2 s3 h1 h2 => h rs' s2 s3 h1 fun x => by
      rw [h2 x, dropR_cov hr hab x, cov_cons]
      simp only
      constructor
      · rintro ⟨⟨h1, h2⟩, h3⟩
        exact ⟨h1, fun z => z.elim h2 h3⟩
      · rintro ⟨h1, h2⟩
        exact ⟨⟨h1, fun z => h2 (.inl z)⟩, fun z => h2 (.inr z)⟩)
    rw [List.map_cons, walkD_cons]
    generalize walkD (kTupG 2 (dgCons (dgName 2) (dgCons (dgName 3) dgNil))) (b_drop_all_1 A w) D (os.map pr) = Wk at ih ⊢
    simp [pr, b_drop_all_1]
    exact ⟨rs, a, b, rfl, hr, hab, hs, ih⟩
theorem sat_drop_all (A : Ad) (ds : List Dt) (M : DM) (Q : DK) (E : Addr → Dt → DM → Prop) (h : sd_drop_all A ds M Q E) : d_drop_all A (fun C d _ M => Eg E C d M) { nx := fun _ M => Qg Q .non M, rt := Qg Q } (startD 4 ds) M := by
  obtain ⟨rs, os, rfl, hr, ho, hs, k⟩ := h
  unfold d_drop_all
  simp
  refine drop_all_loop (rs0 := rs) os rs none none hr hs ho fun rs' s2 s3 h1 h2 => ?_
  simp
  exact ⟨M, Sub.refl M, k rs' h1 h2⟩
theorem sat_gaps (A : Ad) (ds : List Dt) (M : DM) (Q : DK) (E : Addr → Dt → DM → Prop) (h : sd_gaps A ds M Q E) : d_gaps A (fun C d _ M => Eg E C d M) { nx := fun _ M => Qg Q .non M, rt := Qg Q } (startD 3 ds) M := by
  obtain ⟨rs, lo, hi, rfl, hr, h0, h1, k⟩ := h
  unfold d_gaps
  have e1 := sz 1 (by omega)
  have e2 := sz 2 (by omega)
  simp [e1, e2]
  split
  · rename_i c
    refine ⟨[(lo, hi)], rs, rfl, Rg.one c, fun r hr' => hr.2 r hr', fun x hx => by rw [cov_one] at hx; simp only at hx; omega, fun rs' q1 q2 => ⟨M, Sub.refl M, k rs' q1 fun x => by rw [q2 x, cov_one]⟩⟩
  · rename_i c
    exact ⟨M, Sub.refl M, k [] Rg.nil fun x => by
      constructor
      · intro z; exact (cov_nil x z).elim
      · rintro ⟨z, _⟩; omega⟩
theorem sat_count (A : Ad) (ds : List Dt) (M : DM) (Q : DK) (E : Addr → Dt → DM → Prop) (h : sd_count A ds M Q E) : d_count A (fun C d _ M => Eg E C d M) { nx := fun _ M => Qg Q .non M, rt := Qg Q } (startD 3 ds) M := by
  obtain ⟨rs, rfl, hl, k⟩ := h
  unfold d_count
  simp [dLc]
  intro p hp
  refine walkC_pure (fun d => match d with
    | .tup [.int a, .int b] => some (.int (b - a + 1))
    | _ => none) hp _ [] (by simp; omega) ?_ ?_
  · intro d hd acc' N Wk ha hw
    obtain ⟨r, hr1, rfl⟩ := List.mem_map.mp hd
    have q : acc'.length < sizeLine := Nat.lt_of_lt_of_le ha sizeLine_big
    simp [pr, q]
    simpa [pr] using hw
  · have e : (rs.map pr).filterMap (fun d => match d with
      | .tup [.int a, .int b] => some (Dt.int (b - a + 1))
      | _ => none) = (rs.map fun r => r.2 - r.1 + 1).map Dt.int := by
      rw [List.filterMap_map, List.map_map]
      exact filterMap_some (f := fun r : Int × Int => Dt.int (r.2 - r.1 + 1)) rs
    simp only [List.nil_append]
    rw [e]
    exact ⟨_, rfl, M, Sub.refl M, k⟩
end K23

namespace K23
open PySem L2 DL RG
@[simp ↓ high] theorem kf_o_stream (o : Out) (M : DM) (a C dx : Addr) (Q : DK) : kFld ("stream" : Str) Q (.ref a) (updM M a (.ins C dx (outF o))) = Q (.int o.stream) (updM M a (.ins C dx (outF o))) := by
  show fldO _ _ _ (updM M a _ a) = _
  rw [updM_same]; rfl
@[simp high] theorem kp_o_stream_0 (o : Out) (M : DM) (a C dx : Addr) (Q : DM → Prop) (x : Int) : kPut ("stream" : Str) (.int x) Q (.ref a) (updM M a (.ins C dx (outF o))) = Q (updM M a (.ins C dx (outF { o with stream := x }))) := by
  show putO _ _ _ _ _ (updM M a _ a) = _
  rw [updM_same]
  show Q (updM (updM M a _) a _) = _
  rw [updM_updM]
  try rw [← List.map_append]
  try rw [← List.map_drop]
  rfl
@[simp ↓ high] theorem ka_o_stream (o : Out) (M : DM) (a C dx : Addr) (N : Addr → Addr → Int → DM → Prop) : kAug1 ("stream" : Str) N (.ref a) (updM M a (.ins C dx (outF o))) = N a C (o.stream) (updM M a (.ins C dx (outF o))) := by
  show augR _ a _ _ (updM M a _ a) = _
  rw [updM_same]; rfl
@[simp ↓ high] theorem kb_o_stream (o : Out) (M : DM) (a C dx : Addr) (i j : Int) (Q : DM → Prop) : kAug2 ("stream" : Str) C i a Q (.int j) (updM M a (.ins C dx (outF o))) = Q (updM M a (.ins C dx (outF { o with stream := i + j }))) := by
  show augO _ _ _ _ _ _ _ (updM M a _ a) = _
  rw [updM_same]
  show (C = C ∧ _ ∧ Q (updM (updM M a _) a _)) = _
  rw [updM_updM]
  simp only [true_and]
  exact propext ⟨fun h => h.2, fun h => ⟨rfl, h⟩⟩
@[simp ↓ high] theorem kf_o_keep (o : Out) (M : DM) (a C dx : Addr) (Q : DK) : kFld ("keep" : Str) Q (.ref a) (updM M a (.ins C dx (outF o))) = Q (.int o.keep) (updM M a (.ins C dx (outF o))) := by
  show fldO _ _ _ (updM M a _ a) = _
  rw [updM_same]; rfl
@[simp high] theorem kp_o_keep_0 (o : Out) (M : DM) (a C dx : Addr) (Q : DM → Prop) (x : Int) : kPut ("keep" : Str) (.int x) Q (.ref a) (updM M a (.ins C dx (outF o))) = Q (updM M a (.ins C dx (outF { o with keep := x }))) := by
  show putO _ _ _ _ _ (updM M a _ a) = _
  rw [updM_same]
  show Q (updM (updM M a _) a _) = _
  rw [updM_updM]
  try rw [← List.map_append]
  try rw [← List.map_drop]
  rfl
@[simp ↓ high] theorem ka_o_keep (o : Out) (M : DM) (a C dx : Addr) (N : Addr → Addr → Int → DM → Prop) : kAug1 ("keep" : Str) N (.ref a) (updM M a (.ins C dx (outF o))) = N a C (o.keep) (updM M a (.ins C dx (outF o))) := by
  show augR _ a _ _ (updM M a _ a) = _
  rw [updM_same]; rfl
@[simp ↓ high] theorem kb_o_keep (o : Out) (M : DM) (a C dx : Addr) (i j : Int) (Q : DM → Prop) : kAug2 ("keep" : Str) C i a Q (.int j) (updM M a (.ins C dx (outF o))) = Q (updM M a (.ins C dx (outF { o with keep := i + j }))) := by
  show augO _ _ _ _ _ _ _ (updM M a _ a) = _
  rw [updM_same]
  show (C = C ∧ _ ∧ Q (updM (updM M a _) a _)) = _
  rw [updM_updM]
  simp only [true_and]
  exact propext ⟨fun h => h.2, fun h => ⟨rfl, h⟩⟩
@[simp ↓ high] theorem kf_o_base (o : Out) (M : DM) (a C dx : Addr) (Q : DK) : kFld ("base" : Str) Q (.ref a) (updM M a (.ins C dx (outF o))) = Q (.int o.base) (updM M a (.ins C dx (outF o))) := by
  show fldO _ _ _ (updM M a _ a) = _
  rw [updM_same]; rfl
@[simp high] theorem kp_o_base_0 (o : Out) (M : DM) (a C dx : Addr) (Q : DM → Prop) (x : Int) : kPut ("base" : Str) (.int x) Q (.ref a) (updM M a (.ins C dx (outF o))) = Q (updM M a (.ins C dx (outF { o with base := x }))) := by
  show putO _ _ _ _ _ (updM M a _ a) = _
  rw [updM_same]
  show Q (updM (updM M a _) a _) = _
  rw [updM_updM]
  try rw [← List.map_append]
  try rw [← List.map_drop]
  rfl
@[simp ↓ high] theorem ka_o_base (o : Out) (M : DM) (a C dx : Addr) (N : Addr → Addr → Int → DM → Prop) : kAug1 ("base" : Str) N (.ref a) (updM M a (.ins C dx (outF o))) = N a C (o.base) (updM M a (.ins C dx (outF o))) := by
  show augR _ a _ _ (updM M a _ a) = _
  rw [updM_same]; rfl
@[simp ↓ high] theorem kb_o_base (o : Out) (M : DM) (a C dx : Addr) (i j : Int) (Q : DM → Prop) : kAug2 ("base" : Str) C i a Q (.int j) (updM M a (.ins C dx (outF o))) = Q (updM M a (.ins C dx (outF { o with base := i + j }))) := by
  show augO _ _ _ _ _ _ _ (updM M a _ a) = _
  rw [updM_same]
  show (C = C ∧ _ ∧ Q (updM (updM M a _) a _)) = _
  rw [updM_updM]
  simp only [true_and]
  exact propext ⟨fun h => h.2, fun h => ⟨rfl, h⟩⟩
@[simp ↓ high] theorem kf_o_kept (o : Out) (M : DM) (a C dx : Addr) (Q : DK) : kFld ("kept" : Str) Q (.ref a) (updM M a (.ins C dx (outF o))) = Q (.lst (nums o.kept)) (updM M a (.ins C dx (outF o))) := by
  show fldO _ _ _ (updM M a _ a) = _
  rw [updM_same]; rfl
@[simp high] theorem kp_o_kept_0 (o : Out) (M : DM) (a C dx : Addr) (Q : DM → Prop) (x : List Int) : kPut ("kept" : Str) (.lst (x.map Dt.int)) Q (.ref a) (updM M a (.ins C dx (outF o))) = Q (updM M a (.ins C dx (outF { o with kept := x }))) := by
  show putO _ _ _ _ _ (updM M a _ a) = _
  rw [updM_same]
  show Q (updM (updM M a _) a _) = _
  rw [updM_updM]
  try rw [← List.map_append]
  try rw [← List.map_drop]
  rfl
@[simp high] theorem kp_o_kept_1 (o : Out) (M : DM) (a C dx : Addr) (Q : DM → Prop) : kPut ("kept" : Str) (.lst []) Q (.ref a) (updM M a (.ins C dx (outF o))) = Q (updM M a (.ins C dx (outF { o with kept := [] }))) := by
  show putO _ _ _ _ _ (updM M a _ a) = _
  rw [updM_same]
  show Q (updM (updM M a _) a _) = _
  rw [updM_updM]
  try rw [← List.map_append]
  try rw [← List.map_drop]
  rfl
@[simp high] theorem kp_o_kept_2 (o : Out) (M : DM) (a C dx : Addr) (Q : DM → Prop) (x y : List Int) : kPut ("kept" : Str) (.lst (x.map Dt.int ++ y.map Dt.int)) Q (.ref a) (updM M a (.ins C dx (outF o))) = Q (updM M a (.ins C dx (outF { o with kept := x ++ y }))) := by
  show putO _ _ _ _ _ (updM M a _ a) = _
  rw [updM_same]
  show Q (updM (updM M a _) a _) = _
  rw [updM_updM]
  try rw [← List.map_append]
  try rw [← List.map_drop]
  rfl
@[simp high] theorem kp_o_kept_3 (o : Out) (M : DM) (a C dx : Addr) (Q : DM → Prop) (x : List Int) (n : Nat) : kPut ("kept" : Str) (.lst ((x.map Dt.int).drop n)) Q (.ref a) (updM M a (.ins C dx (outF o))) = Q (updM M a (.ins C dx (outF { o with kept := x.drop n }))) := by
  show putO _ _ _ _ _ (updM M a _ a) = _
  rw [updM_same]
  show Q (updM (updM M a _) a _) = _
  rw [updM_updM]
  try rw [← List.map_append]
  try rw [← List.map_drop]
  rfl
@[simp ↓ high] theorem kf_o_taken (o : Out) (M : DM) (a C dx : Addr) (Q : DK) : kFld ("taken" : Str) Q (.ref a) (updM M a (.ins C dx (outF o))) = Q (.int o.taken) (updM M a (.ins C dx (outF o))) := by
  show fldO _ _ _ (updM M a _ a) = _
  rw [updM_same]; rfl
@[simp high] theorem kp_o_taken_0 (o : Out) (M : DM) (a C dx : Addr) (Q : DM → Prop) (x : Int) : kPut ("taken" : Str) (.int x) Q (.ref a) (updM M a (.ins C dx (outF o))) = Q (updM M a (.ins C dx (outF { o with taken := x }))) := by
  show putO _ _ _ _ _ (updM M a _ a) = _
  rw [updM_same]
  show Q (updM (updM M a _) a _) = _
  rw [updM_updM]
  try rw [← List.map_append]
  try rw [← List.map_drop]
  rfl
@[simp ↓ high] theorem ka_o_taken (o : Out) (M : DM) (a C dx : Addr) (N : Addr → Addr → Int → DM → Prop) : kAug1 ("taken" : Str) N (.ref a) (updM M a (.ins C dx (outF o))) = N a C (o.taken) (updM M a (.ins C dx (outF o))) := by
  show augR _ a _ _ (updM M a _ a) = _
  rw [updM_same]; rfl
@[simp ↓ high] theorem kb_o_taken (o : Out) (M : DM) (a C dx : Addr) (i j : Int) (Q : DM → Prop) : kAug2 ("taken" : Str) C i a Q (.int j) (updM M a (.ins C dx (outF o))) = Q (updM M a (.ins C dx (outF { o with taken := i + j }))) := by
  show augO _ _ _ _ _ _ _ (updM M a _ a) = _
  rw [updM_same]
  show (C = C ∧ _ ∧ Q (updM (updM M a _) a _)) = _
  rw [updM_updM]
  simp only [true_and]
  exact propext ⟨fun h => h.2, fun h => ⟨rfl, h⟩⟩
@[simp ↓ high] theorem kf_o_sent (o : Out) (M : DM) (a C dx : Addr) (Q : DK) : kFld ("sent" : Str) Q (.ref a) (updM M a (.ins C dx (outF o))) = Q (.int o.sent) (updM M a (.ins C dx (outF o))) := by
  show fldO _ _ _ (updM M a _ a) = _
  rw [updM_same]; rfl
@[simp high] theorem kp_o_sent_0 (o : Out) (M : DM) (a C dx : Addr) (Q : DM → Prop) (x : Int) : kPut ("sent" : Str) (.int x) Q (.ref a) (updM M a (.ins C dx (outF o))) = Q (updM M a (.ins C dx (outF { o with sent := x }))) := by
  show putO _ _ _ _ _ (updM M a _ a) = _
  rw [updM_same]
  show Q (updM (updM M a _) a _) = _
  rw [updM_updM]
  try rw [← List.map_append]
  try rw [← List.map_drop]
  rfl
@[simp ↓ high] theorem ka_o_sent (o : Out) (M : DM) (a C dx : Addr) (N : Addr → Addr → Int → DM → Prop) : kAug1 ("sent" : Str) N (.ref a) (updM M a (.ins C dx (outF o))) = N a C (o.sent) (updM M a (.ins C dx (outF o))) := by
  show augR _ a _ _ (updM M a _ a) = _
  rw [updM_same]; rfl
@[simp ↓ high] theorem kb_o_sent (o : Out) (M : DM) (a C dx : Addr) (i j : Int) (Q : DM → Prop) : kAug2 ("sent" : Str) C i a Q (.int j) (updM M a (.ins C dx (outF o))) = Q (updM M a (.ins C dx (outF { o with sent := i + j }))) := by
  show augO _ _ _ _ _ _ _ (updM M a _ a) = _
  rw [updM_same]
  show (C = C ∧ _ ∧ Q (updM (updM M a _) a _)) = _
  rw [updM_updM]
  simp only [true_and]
  exact propext ⟨fun h => h.2, fun h => ⟨rfl, h⟩⟩
@[simp ↓ high] theorem kf_o_got (o : Out) (M : DM) (a C dx : Addr) (Q : DK) : kFld ("got_ranges" : Str) Q (.ref a) (updM M a (.ins C dx (outF o))) = Q (rgs o.got) (updM M a (.ins C dx (outF o))) := by
  show fldO _ _ _ (updM M a _ a) = _
  rw [updM_same]; rfl
@[simp high] theorem kp_o_got_0 (o : Out) (M : DM) (a C dx : Addr) (Q : DM → Prop) (x : RL) : kPut ("got_ranges" : Str) (.lst (x.map pr)) Q (.ref a) (updM M a (.ins C dx (outF o))) = Q (updM M a (.ins C dx (outF { o with got := x }))) := by
  show putO _ _ _ _ _ (updM M a _ a) = _
  rw [updM_same]
  show Q (updM (updM M a _) a _) = _
  rw [updM_updM]
  try rw [← List.map_append]
  try rw [← List.map_drop]
  rfl
@[simp high] theorem kp_o_got_1 (o : Out) (M : DM) (a C dx : Addr) (Q : DM → Prop) : kPut ("got_ranges" : Str) (.lst []) Q (.ref a) (updM M a (.ins C dx (outF o))) = Q (updM M a (.ins C dx (outF { o with got := [] }))) := by
  show putO _ _ _ _ _ (updM M a _ a) = _
  rw [updM_same]
  show Q (updM (updM M a _) a _) = _
  rw [updM_updM]
  try rw [← List.map_append]
  try rw [← List.map_drop]
  rfl
@[simp ↓ high] theorem kf_o_lost (o : Out) (M : DM) (a C dx : Addr) (Q : DK) : kFld ("lost_ranges" : Str) Q (.ref a) (updM M a (.ins C dx (outF o))) = Q (rgs o.lost) (updM M a (.ins C dx (outF o))) := by
  show fldO _ _ _ (updM M a _ a) = _
  rw [updM_same]; rfl
@[simp high] theorem kp_o_lost_0 (o : Out) (M : DM) (a C dx : Addr) (Q : DM → Prop) (x : RL) : kPut ("lost_ranges" : Str) (.lst (x.map pr)) Q (.ref a) (updM M a (.ins C dx (outF o))) = Q (updM M a (.ins C dx (outF { o with lost := x }))) := by
  show putO _ _ _ _ _ (updM M a _ a) = _
  rw [updM_same]
  show Q (updM (updM M a _) a _) = _
  rw [updM_updM]
  try rw [← List.map_append]
  try rw [← List.map_drop]
  rfl
@[simp high] theorem kp_o_lost_1 (o : Out) (M : DM) (a C dx : Addr) (Q : DM → Prop) : kPut ("lost_ranges" : Str) (.lst []) Q (.ref a) (updM M a (.ins C dx (outF o))) = Q (updM M a (.ins C dx (outF { o with lost := [] }))) := by
  show putO _ _ _ _ _ (updM M a _ a) = _
  rw [updM_same]
  show Q (updM (updM M a _) a _) = _
  rw [updM_updM]
  try rw [← List.map_append]
  try rw [← List.map_drop]
  rfl
@[simp ↓ high] theorem kf_o_fin (o : Out) (M : DM) (a C dx : Addr) (Q : DK) : kFld ("finished" : Str) Q (.ref a) (updM M a (.ins C dx (outF o))) = Q (.bl o.fin) (updM M a (.ins C dx (outF o))) := by
  show fldO _ _ _ (updM M a _ a) = _
  rw [updM_same]; rfl
@[simp high] theorem kp_o_fin_0 (o : Out) (M : DM) (a C dx : Addr) (Q : DM → Prop) (x : Bool) : kPut ("finished" : Str) (.bl x) Q (.ref a) (updM M a (.ins C dx (outF o))) = Q (updM M a (.ins C dx (outF { o with fin := x }))) := by
  show putO _ _ _ _ _ (updM M a _ a) = _
  rw [updM_same]
  show Q (updM (updM M a _) a _) = _
  rw [updM_updM]
  try rw [← List.map_append]
  try rw [← List.map_drop]
  rfl
@[simp ↓ high] theorem kf_o_last (o : Out) (M : DM) (a C dx : Addr) (Q : DK) : kFld ("last" : Str) Q (.ref a) (updM M a (.ins C dx (outF o))) = Q (.str o.last.s) (updM M a (.ins C dx (outF o))) := by
  show fldO _ _ _ (updM M a _ a) = _
  rw [updM_same]; rfl
@[simp high] theorem kp_o_last_0 (o : Out) (M : DM) (a C dx : Addr) (Q : DM → Prop) : kPut ("last" : Str) (.str "flying") Q (.ref a) (updM M a (.ins C dx (outF o))) = Q (updM M a (.ins C dx (outF { o with last := La.flying }))) := by
  show putO _ _ _ _ _ (updM M a _ a) = _
  rw [updM_same]
  show Q (updM (updM M a _) a _) = _
  rw [updM_updM]
  try rw [← List.map_append]
  try rw [← List.map_drop]
  rfl
@[simp high] theorem kp_o_last_1 (o : Out) (M : DM) (a C dx : Addr) (Q : DM → Prop) : kPut ("last" : Str) (.str "got") Q (.ref a) (updM M a (.ins C dx (outF o))) = Q (updM M a (.ins C dx (outF { o with last := La.got }))) := by
  show putO _ _ _ _ _ (updM M a _ a) = _
  rw [updM_same]
  show Q (updM (updM M a _) a _) = _
  rw [updM_updM]
  try rw [← List.map_append]
  try rw [← List.map_drop]
  rfl
@[simp high] theorem kp_o_last_2 (o : Out) (M : DM) (a C dx : Addr) (Q : DM → Prop) : kPut ("last" : Str) (.str "lost") Q (.ref a) (updM M a (.ins C dx (outF o))) = Q (updM M a (.ins C dx (outF { o with last := La.lost }))) := by
  show putO _ _ _ _ _ (updM M a _ a) = _
  rw [updM_same]
  show Q (updM (updM M a _) a _) = _
  rw [updM_updM]
  try rw [← List.map_append]
  try rw [← List.map_drop]
  rfl
@[simp ↓ high] theorem kf_o_brk (o : Out) (M : DM) (a C dx : Addr) (Q : DK) : kFld ("broken" : Str) Q (.ref a) (updM M a (.ins C dx (outF o))) = Q (o.brk.d) (updM M a (.ins C dx (outF o))) := by
  show fldO _ _ _ (updM M a _ a) = _
  rw [updM_same]; rfl
@[simp high] theorem kp_o_brk_0 (o : Out) (M : DM) (a C dx : Addr) (Q : DM → Prop) : kPut ("broken" : Str) (.str "due") Q (.ref a) (updM M a (.ins C dx (outF o))) = Q (updM M a (.ins C dx (outF { o with brk := Br.due }))) := by
  show putO _ _ _ _ _ (updM M a _ a) = _
  rw [updM_same]
  show Q (updM (updM M a _) a _) = _
  rw [updM_updM]
  try rw [← List.map_append]
  try rw [← List.map_drop]
  rfl
@[simp high] theorem kp_o_brk_1 (o : Out) (M : DM) (a C dx : Addr) (Q : DM → Prop) : kPut ("broken" : Str) (.str "flying") Q (.ref a) (updM M a (.ins C dx (outF o))) = Q (updM M a (.ins C dx (outF { o with brk := Br.flying }))) := by
  show putO _ _ _ _ _ (updM M a _ a) = _
  rw [updM_same]
  show Q (updM (updM M a _) a _) = _
  rw [updM_updM]
  try rw [← List.map_append]
  try rw [← List.map_drop]
  rfl
@[simp high] theorem kp_o_brk_2 (o : Out) (M : DM) (a C dx : Addr) (Q : DM → Prop) : kPut ("broken" : Str) (.str "got") Q (.ref a) (updM M a (.ins C dx (outF o))) = Q (updM M a (.ins C dx (outF { o with brk := Br.got }))) := by
  show putO _ _ _ _ _ (updM M a _ a) = _
  rw [updM_same]
  show Q (updM (updM M a _) a _) = _
  rw [updM_updM]
  try rw [← List.map_append]
  try rw [← List.map_drop]
  rfl
@[simp ↓ high] theorem km_o_must_stand (o : Out) (M : DM) (a C dx : Addr) (N : Addr → DM → Prop) : kMeth C ("must_stand" : Str) N (.ref a) (updM M a (.ins C dx (outF o))) = N a (updM M a (.ins C dx (outF o))) := by
  show methO _ _ _ _ (updM M a _ a) = _
  rw [updM_same]
  exact propext ⟨fun h => h.2.2, fun h => ⟨rfl, rfl, h⟩⟩
@[simp ↓ high] theorem km_o_is_done (o : Out) (M : DM) (a C dx : Addr) (N : Addr → DM → Prop) : kMeth C ("is_done" : Str) N (.ref a) (updM M a (.ins C dx (outF o))) = N a (updM M a (.ins C dx (outF o))) := by
  show methO _ _ _ _ (updM M a _ a) = _
  rw [updM_same]
  exact propext ⟨fun h => h.2.2, fun h => ⟨rfl, rfl, h⟩⟩
@[simp ↓ high] theorem km_o_next_break (o : Out) (M : DM) (a C dx : Addr) (N : Addr → DM → Prop) : kMeth C ("next_break" : Str) N (.ref a) (updM M a (.ins C dx (outF o))) = N a (updM M a (.ins C dx (outF o))) := by
  show methO _ _ _ _ (updM M a _ a) = _
  rw [updM_same]
  exact propext ⟨fun h => h.2.2, fun h => ⟨rfl, rfl, h⟩⟩
@[simp ↓ high] theorem km_o_piece (o : Out) (M : DM) (a C dx : Addr) (N : Addr → DM → Prop) : kMeth C ("piece" : Str) N (.ref a) (updM M a (.ins C dx (outF o))) = N a (updM M a (.ins C dx (outF o))) := by
  show methO _ _ _ _ (updM M a _ a) = _
  rw [updM_same]
  exact propext ⟨fun h => h.2.2, fun h => ⟨rfl, rfl, h⟩⟩
@[simp ↓ high] theorem km_o_next (o : Out) (M : DM) (a C dx : Addr) (N : Addr → DM → Prop) : kMeth C ("next" : Str) N (.ref a) (updM M a (.ins C dx (outF o))) = N a (updM M a (.ins C dx (outF o))) := by
  show methO _ _ _ _ (updM M a _ a) = _
  rw [updM_same]
  exact propext ⟨fun h => h.2.2, fun h => ⟨rfl, rfl, h⟩⟩
@[simp ↓ high] theorem km_o_write (o : Out) (M : DM) (a C dx : Addr) (N : Addr → DM → Prop) : kMeth C ("write" : Str) N (.ref a) (updM M a (.ins C dx (outF o))) = N a (updM M a (.ins C dx (outF o))) := by
  show methO _ _ _ _ (updM M a _ a) = _
  rw [updM_same]
  exact propext ⟨fun h => h.2.2, fun h => ⟨rfl, rfl, h⟩⟩
@[simp ↓ high] theorem km_o_breaks (o : Out) (M : DM) (a C dx : Addr) (N : Addr → DM → Prop) : kMeth C ("breaks" : Str) N (.ref a) (updM M a (.ins C dx (outF o))) = N a (updM M a (.ins C dx (outF o))) := by
  show methO _ _ _ _ (updM M a _ a) = _
  rw [updM_same]
  exact propext ⟨fun h => h.2.2, fun h => ⟨rfl, rfl, h⟩⟩
@[simp ↓ high] theorem km_o_finish (o : Out) (M : DM) (a C dx : Addr) (N : Addr → DM → Prop) : kMeth C ("finish" : Str) N (.ref a) (updM M a (.ins C dx (outF o))) = N a (updM M a (.ins C dx (outF o))) := by
  show methO _ _ _ _ (updM M a _ a) = _
  rw [updM_same]
  exact propext ⟨fun h => h.2.2, fun h => ⟨rfl, rfl, h⟩⟩
@[simp ↓ high] theorem km_o_got (o : Out) (M : DM) (a C dx : Addr) (N : Addr → DM → Prop) : kMeth C ("got" : Str) N (.ref a) (updM M a (.ins C dx (outF o))) = N a (updM M a (.ins C dx (outF o))) := by
  show methO _ _ _ _ (updM M a _ a) = _
  rw [updM_same]
  exact propext ⟨fun h => h.2.2, fun h => ⟨rfl, rfl, h⟩⟩
@[simp ↓ high] theorem km_o_lost (o : Out) (M : DM) (a C dx : Addr) (N : Addr → DM → Prop) : kMeth C ("lost" : Str) N (.ref a) (updM M a (.ins C dx (outF o))) = N a (updM M a (.ins C dx (outF o))) := by
  show methO _ _ _ _ (updM M a _ a) = _
  rw [updM_same]
  exact propext ⟨fun h => h.2.2, fun h => ⟨rfl, rfl, h⟩⟩
@[simp ↓ high] theorem km_o_is_due (o : Out) (M : DM) (a C dx : Addr) (N : Addr → DM → Prop) : kMeth C ("is_due" : Str) N (.ref a) (updM M a (.ins C dx (outF o))) = N a (updM M a (.ins C dx (outF o))) := by
  show methO _ _ _ _ (updM M a _ a) = _
  rw [updM_same]
  exact propext ⟨fun h => h.2.2, fun h => ⟨rfl, rfl, h⟩⟩
@[simp ↓ high] theorem km_o_memory (o : Out) (M : DM) (a C dx : Addr) (N : Addr → DM → Prop) : kMeth C ("memory" : Str) N (.ref a) (updM M a (.ins C dx (outF o))) = N a (updM M a (.ins C dx (outF o))) := by
  show methO _ _ _ _ (updM M a _ a) = _
  rw [updM_same]
  exact propext ⟨fun h => h.2.2, fun h => ⟨rfl, rfl, h⟩⟩
@[simp ↓ high] theorem kf_i_stream (o : Inc) (M : DM) (a C dx : Addr) (Q : DK) : kFld ("stream" : Str) Q (.ref a) (updM M a (.ins C dx (incF o))) = Q (.int o.stream) (updM M a (.ins C dx (incF o))) := by
  show fldO _ _ _ (updM M a _ a) = _
  rw [updM_same]; rfl
@[simp high] theorem kp_i_stream_0 (o : Inc) (M : DM) (a C dx : Addr) (Q : DM → Prop) (x : Int) : kPut ("stream" : Str) (.int x) Q (.ref a) (updM M a (.ins C dx (incF o))) = Q (updM M a (.ins C dx (incF { o with stream := x }))) := by
  show putO _ _ _ _ _ (updM M a _ a) = _
  rw [updM_same]
  show Q (updM (updM M a _) a _) = _
  rw [updM_updM]
  try rw [← List.map_append]
  try rw [← List.map_drop]
  rfl
@[simp ↓ high] theorem ka_i_stream (o : Inc) (M : DM) (a C dx : Addr) (N : Addr → Addr → Int → DM → Prop) : kAug1 ("stream" : Str) N (.ref a) (updM M a (.ins C dx (incF o))) = N a C (o.stream) (updM M a (.ins C dx (incF o))) := by
  show augR _ a _ _ (updM M a _ a) = _
  rw [updM_same]; rfl
@[simp ↓ high] theorem kb_i_stream (o : Inc) (M : DM) (a C dx : Addr) (i j : Int) (Q : DM → Prop) : kAug2 ("stream" : Str) C i a Q (.int j) (updM M a (.ins C dx (incF o))) = Q (updM M a (.ins C dx (incF { o with stream := i + j }))) := by
  show augO _ _ _ _ _ _ _ (updM M a _ a) = _
  rw [updM_same]
  show (C = C ∧ _ ∧ Q (updM (updM M a _) a _)) = _
  rw [updM_updM]
  simp only [true_and]
  exact propext ⟨fun h => h.2, fun h => ⟨rfl, h⟩⟩
@[simp ↓ high] theorem kf_i_room (o : Inc) (M : DM) (a C dx : Addr) (Q : DK) : kFld ("room" : Str) Q (.ref a) (updM M a (.ins C dx (incF o))) = Q (.int o.room) (updM M a (.ins C dx (incF o))) := by
  show fldO _ _ _ (updM M a _ a) = _
  rw [updM_same]; rfl
@[simp high] theorem kp_i_room_0 (o : Inc) (M : DM) (a C dx : Addr) (Q : DM → Prop) (x : Int) : kPut ("room" : Str) (.int x) Q (.ref a) (updM M a (.ins C dx (incF o))) = Q (updM M a (.ins C dx (incF { o with room := x }))) := by
  show putO _ _ _ _ _ (updM M a _ a) = _
  rw [updM_same]
  show Q (updM (updM M a _) a _) = _
  rw [updM_updM]
  try rw [← List.map_append]
  try rw [← List.map_drop]
  rfl
@[simp ↓ high] theorem ka_i_room (o : Inc) (M : DM) (a C dx : Addr) (N : Addr → Addr → Int → DM → Prop) : kAug1 ("room" : Str) N (.ref a) (updM M a (.ins C dx (incF o))) = N a C (o.room) (updM M a (.ins C dx (incF o))) := by
  show augR _ a _ _ (updM M a _ a) = _
  rw [updM_same]; rfl
@[simp ↓ high] theorem kb_i_room (o : Inc) (M : DM) (a C dx : Addr) (i j : Int) (Q : DM → Prop) : kAug2 ("room" : Str) C i a Q (.int j) (updM M a (.ins C dx (incF o))) = Q (updM M a (.ins C dx (incF { o with room := i + j }))) := by
  show augO _ _ _ _ _ _ _ (updM M a _ a) = _
  rw [updM_same]
  show (C = C ∧ _ ∧ Q (updM (updM M a _) a _)) = _
  rw [updM_updM]
  simp only [true_and]
  exact propext ⟨fun h => h.2, fun h => ⟨rfl, h⟩⟩
@[simp ↓ high] theorem kf_i_upto (o : Inc) (M : DM) (a C dx : Addr) (Q : DK) : kFld ("upto" : Str) Q (.ref a) (updM M a (.ins C dx (incF o))) = Q (.int o.upto) (updM M a (.ins C dx (incF o))) := by
  show fldO _ _ _ (updM M a _ a) = _
  rw [updM_same]; rfl
@[simp high] theorem kp_i_upto_0 (o : Inc) (M : DM) (a C dx : Addr) (Q : DM → Prop) (x : Int) : kPut ("upto" : Str) (.int x) Q (.ref a) (updM M a (.ins C dx (incF o))) = Q (updM M a (.ins C dx (incF { o with upto := x }))) := by
  show putO _ _ _ _ _ (updM M a _ a) = _
  rw [updM_same]
  show Q (updM (updM M a _) a _) = _
  rw [updM_updM]
  try rw [← List.map_append]
  try rw [← List.map_drop]
  rfl
@[simp ↓ high] theorem ka_i_upto (o : Inc) (M : DM) (a C dx : Addr) (N : Addr → Addr → Int → DM → Prop) : kAug1 ("upto" : Str) N (.ref a) (updM M a (.ins C dx (incF o))) = N a C (o.upto) (updM M a (.ins C dx (incF o))) := by
  show augR _ a _ _ (updM M a _ a) = _
  rw [updM_same]; rfl
@[simp ↓ high] theorem kb_i_upto (o : Inc) (M : DM) (a C dx : Addr) (i j : Int) (Q : DM → Prop) : kAug2 ("upto" : Str) C i a Q (.int j) (updM M a (.ins C dx (incF o))) = Q (updM M a (.ins C dx (incF { o with upto := i + j }))) := by
  show augO _ _ _ _ _ _ _ (updM M a _ a) = _
  rw [updM_same]
  show (C = C ∧ _ ∧ Q (updM (updM M a _) a _)) = _
  rw [updM_updM]
  simp only [true_and]
  exact propext ⟨fun h => h.2, fun h => ⟨rfl, h⟩⟩
@[simp ↓ high] theorem kf_i_readU (o : Inc) (M : DM) (a C dx : Addr) (Q : DK) : kFld ("read_upto" : Str) Q (.ref a) (updM M a (.ins C dx (incF o))) = Q (.int o.readU) (updM M a (.ins C dx (incF o))) := by
  show fldO _ _ _ (updM M a _ a) = _
  rw [updM_same]; rfl
@[simp high] theorem kp_i_readU_0 (o : Inc) (M : DM) (a C dx : Addr) (Q : DM → Prop) (x : Int) : kPut ("read_upto" : Str) (.int x) Q (.ref a) (updM M a (.ins C dx (incF o))) = Q (updM M a (.ins C dx (incF { o with readU := x }))) := by
  show putO _ _ _ _ _ (updM M a _ a) = _
  rw [updM_same]
  show Q (updM (updM M a _) a _) = _
  rw [updM_updM]
  try rw [← List.map_append]
  try rw [← List.map_drop]
  rfl
@[simp ↓ high] theorem ka_i_readU (o : Inc) (M : DM) (a C dx : Addr) (N : Addr → Addr → Int → DM → Prop) : kAug1 ("read_upto" : Str) N (.ref a) (updM M a (.ins C dx (incF o))) = N a C (o.readU) (updM M a (.ins C dx (incF o))) := by
  show augR _ a _ _ (updM M a _ a) = _
  rw [updM_same]; rfl
@[simp ↓ high] theorem kb_i_readU (o : Inc) (M : DM) (a C dx : Addr) (i j : Int) (Q : DM → Prop) : kAug2 ("read_upto" : Str) C i a Q (.int j) (updM M a (.ins C dx (incF o))) = Q (updM M a (.ins C dx (incF { o with readU := i + j }))) := by
  show augO _ _ _ _ _ _ _ (updM M a _ a) = _
  rw [updM_same]
  show (C = C ∧ _ ∧ Q (updM (updM M a _) a _)) = _
  rw [updM_updM]
  simp only [true_and]
  exact propext ⟨fun h => h.2, fun h => ⟨rfl, h⟩⟩
@[simp ↓ high] theorem kf_i_greatest (o : Inc) (M : DM) (a C dx : Addr) (Q : DK) : kFld ("greatest" : Str) Q (.ref a) (updM M a (.ins C dx (incF o))) = Q (.int o.greatest) (updM M a (.ins C dx (incF o))) := by
  show fldO _ _ _ (updM M a _ a) = _
  rw [updM_same]; rfl
@[simp high] theorem kp_i_greatest_0 (o : Inc) (M : DM) (a C dx : Addr) (Q : DM → Prop) (x : Int) : kPut ("greatest" : Str) (.int x) Q (.ref a) (updM M a (.ins C dx (incF o))) = Q (updM M a (.ins C dx (incF { o with greatest := x }))) := by
  show putO _ _ _ _ _ (updM M a _ a) = _
  rw [updM_same]
  show Q (updM (updM M a _) a _) = _
  rw [updM_updM]
  try rw [← List.map_append]
  try rw [← List.map_drop]
  rfl
@[simp ↓ high] theorem ka_i_greatest (o : Inc) (M : DM) (a C dx : Addr) (N : Addr → Addr → Int → DM → Prop) : kAug1 ("greatest" : Str) N (.ref a) (updM M a (.ins C dx (incF o))) = N a C (o.greatest) (updM M a (.ins C dx (incF o))) := by
  show augR _ a _ _ (updM M a _ a) = _
  rw [updM_same]; rfl
@[simp ↓ high] theorem kb_i_greatest (o : Inc) (M : DM) (a C dx : Addr) (i j : Int) (Q : DM → Prop) : kAug2 ("greatest" : Str) C i a Q (.int j) (updM M a (.ins C dx (incF o))) = Q (updM M a (.ins C dx (incF { o with greatest := i + j }))) := by
  show augO _ _ _ _ _ _ _ (updM M a _ a) = _
  rw [updM_same]
  show (C = C ∧ _ ∧ Q (updM (updM M a _) a _)) = _
  rw [updM_updM]
  simp only [true_and]
  exact propext ⟨fun h => h.2, fun h => ⟨rfl, h⟩⟩
@[simp ↓ high] theorem kf_i_en (o : Inc) (M : DM) (a C dx : Addr) (Q : DK) : kFld ("end" : Str) Q (.ref a) (updM M a (.ins C dx (incF o))) = Q (optI o.en) (updM M a (.ins C dx (incF o))) := by
  show fldO _ _ _ (updM M a _ a) = _
  rw [updM_same]; rfl
@[simp high] theorem kp_i_en_0 (o : Inc) (M : DM) (a C dx : Addr) (Q : DM → Prop) (x : Int) : kPut ("end" : Str) (.int x) Q (.ref a) (updM M a (.ins C dx (incF o))) = Q (updM M a (.ins C dx (incF { o with en := some x }))) := by
  show putO _ _ _ _ _ (updM M a _ a) = _
  rw [updM_same]
  show Q (updM (updM M a _) a _) = _
  rw [updM_updM]
  try rw [← List.map_append]
  try rw [← List.map_drop]
  rfl
@[simp ↓ high] theorem kf_i_come (o : Inc) (M : DM) (a C dx : Addr) (Q : DK) : kFld ("come" : Str) Q (.ref a) (updM M a (.ins C dx (incF o))) = Q (rgs o.come) (updM M a (.ins C dx (incF o))) := by
  show fldO _ _ _ (updM M a _ a) = _
  rw [updM_same]; rfl
@[simp high] theorem kp_i_come_0 (o : Inc) (M : DM) (a C dx : Addr) (Q : DM → Prop) (x : RL) : kPut ("come" : Str) (.lst (x.map pr)) Q (.ref a) (updM M a (.ins C dx (incF o))) = Q (updM M a (.ins C dx (incF { o with come := x }))) := by
  show putO _ _ _ _ _ (updM M a _ a) = _
  rw [updM_same]
  show Q (updM (updM M a _) a _) = _
  rw [updM_updM]
  try rw [← List.map_append]
  try rw [← List.map_drop]
  rfl
@[simp high] theorem kp_i_come_1 (o : Inc) (M : DM) (a C dx : Addr) (Q : DM → Prop) : kPut ("come" : Str) (.lst []) Q (.ref a) (updM M a (.ins C dx (incF o))) = Q (updM M a (.ins C dx (incF { o with come := [] }))) := by
  show putO _ _ _ _ _ (updM M a _ a) = _
  rw [updM_same]
  show Q (updM (updM M a _) a _) = _
  rw [updM_updM]
  try rw [← List.map_append]
  try rw [← List.map_drop]
  rfl
@[simp ↓ high] theorem kf_i_parts (o : Inc) (M : DM) (a C dx : Addr) (Q : DK) : kFld ("parts" : Str) Q (.ref a) (updM M a (.ins C dx (incF o))) = Q (.lst (o.parts.map prt)) (updM M a (.ins C dx (incF o))) := by
  show fldO _ _ _ (updM M a _ a) = _
  rw [updM_same]; rfl
@[simp high] theorem kp_i_parts_0 (o : Inc) (M : DM) (a C dx : Addr) (Q : DM → Prop) (x : List (Int × List Int)) : kPut ("parts" : Str) (.lst (x.map prt)) Q (.ref a) (updM M a (.ins C dx (incF o))) = Q (updM M a (.ins C dx (incF { o with parts := x }))) := by
  show putO _ _ _ _ _ (updM M a _ a) = _
  rw [updM_same]
  show Q (updM (updM M a _) a _) = _
  rw [updM_updM]
  try rw [← List.map_append]
  try rw [← List.map_drop]
  rfl
@[simp high] theorem kp_i_parts_1 (o : Inc) (M : DM) (a C dx : Addr) (Q : DM → Prop) : kPut ("parts" : Str) (.lst []) Q (.ref a) (updM M a (.ins C dx (incF o))) = Q (updM M a (.ins C dx (incF { o with parts := [] }))) := by
  show putO _ _ _ _ _ (updM M a _ a) = _
  rw [updM_same]
  show Q (updM (updM M a _) a _) = _
  rw [updM_updM]
  try rw [← List.map_append]
  try rw [← List.map_drop]
  rfl
@[simp ↓ high] theorem kf_i_brkn (o : Inc) (M : DM) (a C dx : Addr) (Q : DK) : kFld ("is_broken" : Str) Q (.ref a) (updM M a (.ins C dx (incF o))) = Q (.bl o.brkn) (updM M a (.ins C dx (incF o))) := by
  show fldO _ _ _ (updM M a _ a) = _
  rw [updM_same]; rfl
@[simp high] theorem kp_i_brkn_0 (o : Inc) (M : DM) (a C dx : Addr) (Q : DM → Prop) (x : Bool) : kPut ("is_broken" : Str) (.bl x) Q (.ref a) (updM M a (.ins C dx (incF o))) = Q (updM M a (.ins C dx (incF { o with brkn := x }))) := by
  show putO _ _ _ _ _ (updM M a _ a) = _
  rw [updM_same]
  show Q (updM (updM M a _) a _) = _
  rw [updM_updM]
  try rw [← List.map_append]
  try rw [← List.map_drop]
  rfl
@[simp ↓ high] theorem kf_i_skipped (o : Inc) (M : DM) (a C dx : Addr) (Q : DK) : kFld ("skipped" : Str) Q (.ref a) (updM M a (.ins C dx (incF o))) = Q (.int o.skipped) (updM M a (.ins C dx (incF o))) := by
  show fldO _ _ _ (updM M a _ a) = _
  rw [updM_same]; rfl
@[simp high] theorem kp_i_skipped_0 (o : Inc) (M : DM) (a C dx : Addr) (Q : DM → Prop) (x : Int) : kPut ("skipped" : Str) (.int x) Q (.ref a) (updM M a (.ins C dx (incF o))) = Q (updM M a (.ins C dx (incF { o with skipped := x }))) := by
  show putO _ _ _ _ _ (updM M a _ a) = _
  rw [updM_same]
  show Q (updM (updM M a _) a _) = _
  rw [updM_updM]
  try rw [← List.map_append]
  try rw [← List.map_drop]
  rfl
@[simp ↓ high] theorem ka_i_skipped (o : Inc) (M : DM) (a C dx : Addr) (N : Addr → Addr → Int → DM → Prop) : kAug1 ("skipped" : Str) N (.ref a) (updM M a (.ins C dx (incF o))) = N a C (o.skipped) (updM M a (.ins C dx (incF o))) := by
  show augR _ a _ _ (updM M a _ a) = _
  rw [updM_same]; rfl
@[simp ↓ high] theorem kb_i_skipped (o : Inc) (M : DM) (a C dx : Addr) (i j : Int) (Q : DM → Prop) : kAug2 ("skipped" : Str) C i a Q (.int j) (updM M a (.ins C dx (incF o))) = Q (updM M a (.ins C dx (incF { o with skipped := i + j }))) := by
  show augO _ _ _ _ _ _ _ (updM M a _ a) = _
  rw [updM_same]
  show (C = C ∧ _ ∧ Q (updM (updM M a _) a _)) = _
  rw [updM_updM]
  simp only [true_and]
  exact propext ⟨fun h => h.2, fun h => ⟨rfl, h⟩⟩
@[simp ↓ high] theorem km_i_wrong (o : Inc) (M : DM) (a C dx : Addr) (N : Addr → DM → Prop) : kMeth C ("wrong" : Str) N (.ref a) (updM M a (.ins C dx (incF o))) = N a (updM M a (.ins C dx (incF o))) := by
  show methO _ _ _ _ (updM M a _ a) = _
  rw [updM_same]
  exact propext ⟨fun h => h.2.2, fun h => ⟨rfl, rfl, h⟩⟩
@[simp ↓ high] theorem km_i_take (o : Inc) (M : DM) (a C dx : Addr) (N : Addr → DM → Prop) : kMeth C ("take" : Str) N (.ref a) (updM M a (.ins C dx (incF o))) = N a (updM M a (.ins C dx (incF o))) := by
  show methO _ _ _ _ (updM M a _ a) = _
  rw [updM_same]
  exact propext ⟨fun h => h.2.2, fun h => ⟨rfl, rfl, h⟩⟩
@[simp ↓ high] theorem km_i_take_break (o : Inc) (M : DM) (a C dx : Addr) (N : Addr → DM → Prop) : kMeth C ("take_break" : Str) N (.ref a) (updM M a (.ins C dx (incF o))) = N a (updM M a (.ins C dx (incF o))) := by
  show methO _ _ _ _ (updM M a _ a) = _
  rw [updM_same]
  exact propext ⟨fun h => h.2.2, fun h => ⟨rfl, rfl, h⟩⟩
@[simp ↓ high] theorem km_i_ready (o : Inc) (M : DM) (a C dx : Addr) (N : Addr → DM → Prop) : kMeth C ("ready" : Str) N (.ref a) (updM M a (.ins C dx (incF o))) = N a (updM M a (.ins C dx (incF o))) := by
  show methO _ _ _ _ (updM M a _ a) = _
  rw [updM_same]
  exact propext ⟨fun h => h.2.2, fun h => ⟨rfl, rfl, h⟩⟩
@[simp ↓ high] theorem km_i_read (o : Inc) (M : DM) (a C dx : Addr) (N : Addr → DM → Prop) : kMeth C ("read" : Str) N (.ref a) (updM M a (.ins C dx (incF o))) = N a (updM M a (.ins C dx (incF o))) := by
  show methO _ _ _ _ (updM M a _ a) = _
  rw [updM_same]
  exact propext ⟨fun h => h.2.2, fun h => ⟨rfl, rfl, h⟩⟩
@[simp ↓ high] theorem km_i_grown (o : Inc) (M : DM) (a C dx : Addr) (N : Addr → DM → Prop) : kMeth C ("grown" : Str) N (.ref a) (updM M a (.ins C dx (incF o))) = N a (updM M a (.ins C dx (incF o))) := by
  show methO _ _ _ _ (updM M a _ a) = _
  rw [updM_same]
  exact propext ⟨fun h => h.2.2, fun h => ⟨rfl, rfl, h⟩⟩
@[simp ↓ high] theorem km_i_let (o : Inc) (M : DM) (a C dx : Addr) (N : Addr → DM → Prop) : kMeth C ("let" : Str) N (.ref a) (updM M a (.ins C dx (incF o))) = N a (updM M a (.ins C dx (incF o))) := by
  show methO _ _ _ _ (updM M a _ a) = _
  rw [updM_same]
  exact propext ⟨fun h => h.2.2, fun h => ⟨rfl, rfl, h⟩⟩
@[simp ↓ high] theorem km_i_is_whole (o : Inc) (M : DM) (a C dx : Addr) (N : Addr → DM → Prop) : kMeth C ("is_whole" : Str) N (.ref a) (updM M a (.ins C dx (incF o))) = N a (updM M a (.ins C dx (incF o))) := by
  show methO _ _ _ _ (updM M a _ a) = _
  rw [updM_same]
  exact propext ⟨fun h => h.2.2, fun h => ⟨rfl, rfl, h⟩⟩
@[simp ↓ high] theorem km_i_memory (o : Inc) (M : DM) (a C dx : Addr) (N : Addr → DM → Prop) : kMeth C ("memory" : Str) N (.ref a) (updM M a (.ins C dx (incF o))) = N a (updM M a (.ins C dx (incF o))) := by
  show methO _ _ _ _ (updM M a _ a) = _
  rw [updM_same]
  exact propext ⟨fun h => h.2.2, fun h => ⟨rfl, rfl, h⟩⟩
@[simp] theorem la_unsent (l : La) : (l.s = ("unsent" : Str)) = (l = .unsent) := by cases l <;> simp (decide := true) [La.s]
@[simp] theorem la_flying (l : La) : (l.s = ("flying" : Str)) = (l = .flying) := by cases l <;> simp (decide := true) [La.s]
@[simp] theorem la_lost (l : La) : (l.s = ("lost" : Str)) = (l = .lost) := by cases l <;> simp (decide := true) [La.s]
@[simp] theorem la_got (l : La) : (l.s = ("got" : Str)) = (l = .got) := by cases l <;> simp (decide := true) [La.s]
@[simp ↓ high] theorem br_is (n : Bool) (b : Br) (M : DM) (Q : DK) : dIs n b.d .non M Q ↔ Q (.bl (n != decide (b = .no))) M := by cases b <;> cases n <;> simp [Br.d]
@[simp ↓ high] theorem br_got (n : Bool) (b : Br) (M : DM) (Q : DK) : dEq n b.d (.str "got") M Q ↔ Q (.bl (n != decide (b = .got))) M := by cases b <;> cases n <;> simp (decide := true) [Br.d]
@[simp ↓ high] theorem br_due (n : Bool) (b : Br) (M : DM) (Q : DK) : dEq n b.d (.str "due") M Q ↔ Q (.bl (n != decide (b = .due))) M := by cases b <;> cases n <;> simp (decide := true) [Br.d]
@[simp ↓ high] theorem br_flying (n : Bool) (b : Br) (M : DM) (Q : DK) : dEq n b.d (.str "flying") M Q ↔ Q (.bl (n != decide (b = .flying))) M := by cases b <;> cases n <;> simp (decide := true) [Br.d]
@[simp] theorem s_db : (("data" : Str) = ("break" : Str)) = False := by simp (decide := true)
@[simp] theorem s_bd : (("break" : Str) = ("data" : Str)) = False := by simp (decide := true)
abbrev RT (Q : DK) : DEnds := { nx := fun _ M => Qg Q .non M, rt := Qg Q }
abbrev WT (E : Addr → Dt → DM → Prop) : WD := fun C d _ M => Eg E C d M
theorem upd_self {M : DM} {a : Addr} {o : MO} (h : M a = some o) : updM M a o = M := by
  funext b
  unfold updM
  split
  · rename_i e; rw [e, h]
  · rfl
theorem qs {Q : DK} {v : Dt} {M : DM} {a : Addr} {o : MO} (h : M a = some o) (q : Q v M) : Qg Q v (updM M a o) := by
  rw [upd_self h]
  exact ⟨M, Sub.refl M, q⟩
theorem es {E : Addr → Dt → DM → Prop} {C : Addr} {v : Dt} {M : DM} {a : Addr} {o : MO} (h : M a = some o) (q : E C v M) : Eg E C v (updM M a o) := by
  rw [upd_self h]
  exact ⟨M, Sub.refl M, q⟩
theorem qg {Q : DK} {v : Dt} {M : DM} (h : Q v M) : Qg Q v M := ⟨M, Sub.refl M, h⟩
theorem eg {E : Addr → Dt → DM → Prop} {C : Addr} {v : Dt} {M : DM} (h : E C v M) : Eg E C v M := ⟨M, Sub.refl M, h⟩
theorem isi_int_int : isiT "int" (some "int") = some true := kitB_int_int
theorem isi_int_bool : isiT "bool" (some "int") = some false := kitB_int_bool
theorem sat_out_init (A : Ad) (ds : List Dt) (M : DM) (Q : DK) (E : Addr → Dt → DM → Prop) (h : sd_Outgoing___init__ A ds M Q E) : d_Outgoing___init__ A (WT E) (RT Q) (startD 3 ds) M := by
  obtain ⟨a, dx, st, kp, rfl, hk, hm, k⟩ := h
  have hk' : ¬ kp < 1 := by omega
  unfold d_Outgoing___init__
  simp (decide := true) [hm, hk', putA]
  exact qg k
theorem sat_must (A : Ad) (ds : List Dt) (M : DM) (Q : DK) (E : Addr → Dt → DM → Prop) (h : sd_Outgoing_must_stand A ds M Q E) : d_Outgoing_must_stand A (WT E) (RT Q) (startD 1 ds) M := by
  obtain ⟨a, dx, o, rfl, hm, k1, k2⟩ := h
  unfold d_Outgoing_must_stand
  rw [← upd_self hm]
  simp
  split
  · exact qs hm (k1 (by assumption))
  · exact es hm (k2 (by assumption))
theorem sat_done (A : Ad) (ds : List Dt) (M : DM) (Q : DK) (E : Addr → Dt → DM → Prop) (h : sd_Outgoing_is_done A ds M Q E) : d_Outgoing_is_done A (WT E) (RT Q) (startD 1 ds) M := by
  obtain ⟨a, dx, o, rfl, hm, k⟩ := h
  unfold d_Outgoing_is_done
  unfold doneB at k
  rw [← upd_self hm]
  simp
  split <;> rename_i hb <;> simp [hb] at k
  · split
    · split
      · rename_i h1 h2; simp [h1, h2] at k; exact qs hm k
      · rename_i h1 h2; simp [h1, h2] at k; exact qs hm k
    · rename_i h1; simp [h1] at k; exact qs hm k
  · exact qs hm k
end K23

namespace K23
open PySem L2 DL RG
/-! slices of numbers -/
theorem six_some {n d : Nat} {a : Int} (h : 0 ≤ a) : HT.sIx n d (some a) = min a.toNat n := by
  show (if a < 0 then _ else _) = _
  rw [if_neg (by omega)]
theorem cut_pp {xs : List Dt} {a b : Int} (ha : 0 ≤ a) (hb : 0 ≤ b) : cutD xs (some a) (some b) = (xs.drop a.toNat).take (b - a).toNat := by
  unfold cutD
  rw [six_some ha, six_some hb]
  apply List.ext_getElem?
  intro n
  rw [List.getElem?_take, List.getElem?_take, List.getElem?_drop, List.getElem?_drop]
  by_cases h1 : a.toNat ≤ xs.length
  · rw [Nat.min_eq_left h1]
    by_cases h2 : b.toNat ≤ xs.length
    · rw [Nat.min_eq_left h2]
      have : b.toNat - a.toNat = (b - a).toNat := by omega
      rw [this]
    · rw [Nat.min_eq_right (by omega)]
      by_cases h3 : n < xs.length - a.toNat
      · rw [if_pos h3, if_pos (by omega)]
      · rw [if_neg h3, List.getElem?_eq_none (by omega)]
        simp
  · have hz : min a.toNat xs.length = xs.length := Nat.min_eq_right (by omega)
    rw [hz, List.getElem?_eq_none (l := xs) (i := xs.length + n) (by omega), List.getElem?_eq_none (l := xs) (i := a.toNat + n) (by omega)]
    simp
theorem cut_to {xs : List Dt} {b : Int} (hb : 0 ≤ b) : cutD xs none (some b) = xs.take b.toNat := by
  unfold cutD
  rw [six_some hb]
  show List.take (min b.toNat xs.length - 0) (xs.drop 0) = _
  rw [List.drop_zero, Nat.sub_zero]
  by_cases h : b.toNat ≤ xs.length
  · rw [Nat.min_eq_left h]
  · rw [Nat.min_eq_right (by omega), List.take_length, List.take_of_length_le (by omega)]
theorem cut_from {xs : List Dt} {a : Int} (ha : 0 ≤ a) : cutD xs (some a) none = xs.drop a.toNat := by
  unfold cutD
  rw [six_some ha]
  show List.take (xs.length - min a.toNat xs.length) (xs.drop (min a.toNat xs.length)) = _
  rw [List.take_of_length_le (by rw [List.length_drop]; omega)]
  by_cases h : a.toNat ≤ xs.length
  · rw [Nat.min_eq_left h]
  · rw [Nat.min_eq_right (by omega), List.drop_eq_nil_of_le (by omega), List.drop_eq_nil_of_le (by omega)]
theorem nums_cut_pp {xs : List Int} {a b : Int} (ha : 0 ≤ a) (hb : 0 ≤ b) : cutD (nums xs) (some a) (some b) = nums (slc xs a b) := by
  rw [cut_pp ha hb]; unfold slc; simp
theorem nums_cut_to {xs : List Int} {b : Int} (hb : 0 ≤ b) : cutD (nums xs) none (some b) = nums (xs.take b.toNat) := by
  rw [cut_to hb]; simp
theorem nums_cut_from {xs : List Int} {b : Int} (hb : 0 ≤ b) : cutD (nums xs) (some b) none = nums (xs.drop b.toNat) := by
  rw [cut_from hb]; simp
theorem slc_drop {xs : List Int} {b lo hi : Int} (hb : 0 ≤ b) (hl : b ≤ lo) : slc (xs.drop b.toNat) (lo - b) (hi - b) = slc xs lo hi := by
  unfold slc
  rw [List.drop_drop]
  have e1 : b.toNat + (lo - b).toNat = lo.toNat := by omega
  have e2 : (hi - b - (lo - b)).toNat = (hi - lo).toNat := by omega
  rw [e1, e2]
theorem slc_len {xs : List Int} {lo hi : Int} (h0 : 0 ≤ lo) (hl : lo ≤ hi) (hh : hi ≤ xs.length) : (slc xs lo hi).length = hi - lo := by
  unfold slc
  rw [List.length_take, List.length_drop]
  omega
/-! the rest of the stream that goes out -/
theorem sat_write (A : Ad) (ds : List Dt) (M : DM) (Q : DK) (E : Addr → Dt → DM → Prop) (h : sd_Outgoing_write A ds M Q E) : d_Outgoing_write A (WT E) (RT Q) (startD 3 ds) M := by
  obtain ⟨a, dx, o, os, rfl, hm, hkl, k1, k2⟩ := h
  unfold d_Outgoing_write
  rw [← upd_self hm]
  simp
  refine ⟨a, dx, o, rfl, updM_same, fun hb => ?_, fun hb => ?_⟩
  · obtain ⟨hf, h1, h2, h3, q⟩ := k2 hb
    have e : min3 (os.length : Int) (o.base + o.keep - o.taken) (16777215 - o.taken) = os.length := by unfold min3; omega
    have e2 : cutD (nums os) none (some (os.length : Int)) = nums os := by
      rw [nums_cut_to (by omega)]; simp
    simp [hf, e, e2]
    refine ⟨sz _ (by omega), ?_⟩
    have q' := qg q
    simp only [hf] at q'
    exact q'
  · exact es hm (k1 hb)
theorem sat_breaks (A : Ad) (ds : List Dt) (M : DM) (Q : DK) (E : Addr → Dt → DM → Prop) (h : sd_Outgoing_breaks A ds M Q E) : d_Outgoing_breaks A (WT E) (RT Q) (startD 1 ds) M := by
  obtain ⟨a, dx, o, rfl, hm, k1, k2, k3⟩ := h
  unfold d_Outgoing_breaks
  rw [← upd_self hm]
  simp
  refine ⟨a, dx, o, rfl, updM_same, fun hb => ?_, fun hb => es hm (k1 hb)⟩
  simp
  refine ⟨a, dx, o, rfl, updM_same, ?_⟩
  cases hd : doneB o
  · have e0 := sz 0 (by omega)
    have e3 := sz 3 (by omega)
    simp [e0, e3]
    exact qg (k3 hb hd)
  · simp
    exact es hm (k2 hb hd)
theorem sat_finish (A : Ad) (ds : List Dt) (M : DM) (Q : DK) (E : Addr → Dt → DM → Prop) (h : sd_Outgoing_finish A ds M Q E) : d_Outgoing_finish A (WT E) (RT Q) (startD 1 ds) M := by
  obtain ⟨a, dx, o, rfl, hm, k1, k2⟩ := h
  unfold d_Outgoing_finish
  rw [← upd_self hm]
  simp
  refine ⟨a, dx, o, rfl, updM_same, fun hb => ?_, fun hb => es hm (k1 hb)⟩
  obtain ⟨hf, q⟩ := k2 hb
  simp [hf]
  have q' := qg q
  exact q'
theorem sat_next_break (A : Ad) (ds : List Dt) (M : DM) (Q : DK) (E : Addr → Dt → DM → Prop) (h : sd_Outgoing_next_break A ds M Q E) : d_Outgoing_next_break A (WT E) (RT Q) (startD 1 ds) M := by
  obtain ⟨a, dx, o, rfl, hm, hb, k1, k2⟩ := h
  unfold d_Outgoing_next_break
  rw [← upd_self hm]
  have e3 := sz 3 (by omega)
  simp [e3]
  split
  · exact qg (k1 (by assumption))
  · exact qs hm (k2 (by assumption))
theorem sat_is_due (A : Ad) (ds : List Dt) (M : DM) (Q : DK) (E : Addr → Dt → DM → Prop) (h : sd_Outgoing_is_due A ds M Q E) : d_Outgoing_is_due A (WT E) (RT Q) (startD 2 ds) M := by
  obtain ⟨a, dx, o, n, rfl, hm, hb, k⟩ := h
  unfold d_Outgoing_is_due
  rw [← upd_self hm]
  simp [hb]
  exact qs hm k
theorem sat_memory (A : Ad) (ds : List Dt) (M : DM) (Q : DK) (E : Addr → Dt → DM → Prop) (h : sd_Outgoing_memory A ds M Q E) : d_Outgoing_memory A (WT E) (RT Q) (startD 1 ds) M := by
  obtain ⟨a, dx, o, rfl, hm, k⟩ := h
  unfold d_Outgoing_memory
  rw [← upd_self hm]
  simp
  exact qs hm k
theorem sat_piece (A : Ad) (ds : List Dt) (M : DM) (Q : DK) (E : Addr → Dt → DM → Prop) (h : sd_Outgoing_piece A ds M Q E) : d_Outgoing_piece A (WT E) (RT Q) (startD 4 ds) M := by
  obtain ⟨a, dx, o, text, lo, hi, rfl, hm, oi, hl, hlh, hh, k⟩ := h
  unfold d_Outgoing_piece
  rw [← upd_self hm]
  have b0 := oi.base0
  have hk := oi.kept
  have ht := oi.tk
  have hs := oi.small
  have h5 := sz 5 (by omega)
  have hcut : cutD (nums o.kept) (some (lo - o.base)) (some (hi - o.base)) = nums (slc text lo hi) := by
    rw [nums_cut_pp (by omega) (by omega), hk, slc_drop b0 hl]
  have fin : ∀ (lost' : RL) (la : La), Rg lost' → (∀ x, cov lost' x ↔ cov o.lost x ∧ ¬ (lo ≤ x ∧ x < hi)) → Qg Q (dataP lo (slc text lo hi) (o.fin && decide (hi = o.taken))) (updM M a (outM A dx { o with lost := lost', sent := max o.sent hi, last := la })) := fun l la h1 h2 => qg (k l la h1 h2)
  have hstr := oi.str
  have leaf : ∀ (l : RL), Rg l → (∀ x, cov l x ↔ cov o.lost x ∧ ¬ (lo ≤ x ∧ x < hi)) → ∀ fl : Bool, fl = (o.fin && decide (hi = o.taken)) → ∀ la, 5 ≤ sizeLine ∧ Qg Q (Dt.tup [.str "data", .int o.stream, .int lo, .tup (cutD (nums o.kept) (some (lo - o.base)) (some (hi - o.base))), .int (if fl = true then 1 else 0)]) (updM M a (.ins A.c_Outgoing dx (outF { stream := o.stream, keep := o.keep, base := o.base, kept := o.kept, taken := o.taken, sent := max o.sent hi, got := o.got, lost := l, fin := o.fin, last := la, brk := o.brk }))) := by
    intro l h1 h2 fl hf la
    have z := fin l la h1 h2
    rw [hcut, hstr, hf]
    rw [hstr] at z
    exact ⟨h5, z⟩
  simp
  split
  · rename_i c
    refine ⟨o.lost, lo, hi - 1, rfl, oi.rgL, by omega, fun x hx => ?_, ?_⟩
    · have := oi.cL x hx
      have := oi.st
      omega
    · have hc : ∀ x, cov (dropR o.lost lo (hi - 1)) x ↔ cov o.lost x ∧ ¬ (lo ≤ x ∧ x < hi) := fun x => by
        rw [dropR_cov oi.rgL (by omega) x]
        constructor
        · rintro ⟨p, q⟩; exact ⟨p, fun z => q (by omega)⟩
        · rintro ⟨p, q⟩; exact ⟨p, fun z => q (by omega)⟩
      have hr := dropR_rg oi.rgL (show lo ≤ hi - 1 by omega)
      have lf := leaf _ hr hc
      clear leaf fin k
      simp
      by_cases hf : o.fin = true
      · rw [if_pos hf]
        by_cases he : hi = o.taken
        · have e : true = (o.fin && decide (hi = o.taken)) := by rw [hf, decide_eq_true he]; rfl
          repeat rw [if_pos he]
          split <;> (repeat rw [if_pos he]) <;> exact lf true e _
        · have e : false = (o.fin && decide (hi = o.taken)) := by rw [hf, decide_eq_false he]; rfl
          repeat rw [if_neg he]
          first | exact lf false e _ | (split <;> (repeat rw [if_neg he]) <;> exact lf false e _)
      · rw [if_neg hf]
        have e : false = (o.fin && decide (hi = o.taken)) := by
          have e1 : o.fin = false := by simpa using hf
          rw [e1]; rfl
        exact lf false e _
  · rename_i c
    have lf := leaf o.lost oi.rgL (fun x => ⟨fun h => ⟨h, fun z => by omega⟩, fun h => h.1⟩)
    clear leaf fin k
    by_cases hf : o.fin = true
    · rw [if_pos hf]
      by_cases he : hi = o.taken
      · have e : true = (o.fin && decide (hi = o.taken)) := by rw [hf, decide_eq_true he]; rfl
        repeat rw [if_pos he]
        split <;> (repeat rw [if_pos he]) <;> exact lf true e _
      · have e : false = (o.fin && decide (hi = o.taken)) := by rw [hf, decide_eq_false he]; rfl
        repeat rw [if_neg he]
        first | exact lf false e _ | (split <;> (repeat rw [if_neg he]) <;> exact lf false e _)
    · rw [if_neg hf]
      have e : false = (o.fin && decide (hi = o.taken)) := by
        have e1 : o.fin = false := by simpa using hf
        rw [e1]; rfl
      exact lf false e _
end K23

namespace K23
open PySem L2 DL RG
theorem oi_piece {text : List Int} {o : Out} (oi : OI text o) {lost' : RL} {la : La} {lo hi : Int} (hr : Rg lost') (hc : ∀ x, cov lost' x ↔ cov o.lost x ∧ ¬ (lo ≤ x ∧ x < hi)) (hh : hi ≤ o.taken) : OI text { o with lost := lost', sent := max o.sent hi, last := la } := by
  refine ⟨oi.brk, oi.str, oi.base0, ?_, ?_, oi.tk, oi.kept, oi.rgG, hr, fun x hx => ?_, fun x hx => ?_, oi.small⟩
  · have := oi.bs; show o.base ≤ max o.sent hi; omega
  · have := oi.st; show max o.sent hi ≤ o.taken; omega
  · have := oi.cG x hx; show o.base ≤ x ∧ x < max o.sent hi; omega
  · have z := oi.cL x ((hc x).mp hx).1
    show o.base ≤ x ∧ x < max o.sent hi ∧ _
    exact ⟨z.1, by omega, z.2.2⟩
theorem sat_next (A : Ad) (ds : List Dt) (M : DM) (Q : DK) (E : Addr → Dt → DM → Prop) (h : sd_Outgoing_next A ds M Q E) : d_Outgoing_next A (WT E) (RT Q) (startD 5 ds) M := by
  obtain ⟨a, dx, o, text, most, upto, rfl, hm, h⟩ := h
  unfold d_Outgoing_next
  rw [← upd_self hm]
  simp
  rcases h with ⟨hl, q⟩ | ⟨hl, hb, q⟩ | ⟨hl, oi, q, k⟩
  · rw [if_pos hl]
    exact qs hm q
  · rw [if_neg (by omega), if_neg hb]
    refine ⟨a, dx, o, rfl, updM_same, hb, fun hd => ?_, fun hd => qs hm (q.2 hd)⟩
    have := q.1 hd
    rw [updM_updM]
    exact qg this
  · rw [if_neg (by omega), if_pos oi.brk]
    have bs := oi.bs
    have st := oi.st
    have tk := oi.tk
    have b0 := oi.base0
    have sm := oi.small
    have fin : ∀ (lo hi : Int), o.base ≤ lo → lo ≤ hi → hi ≤ o.taken → (max o.sent hi = o.sent ∨ max o.sent hi ≤ upto) → ∀ E', sd_Outgoing_piece A [.ref a, .int lo, .int hi] (updM M a (outM A dx o)) (Qg Q) E' := by
      intro lo hi h1 h2 h3 h4 E'
      refine ⟨a, dx, o, text, lo, hi, rfl, updM_same, oi, h1, h2, h3, fun lost' la hr hc => ?_⟩
      rw [updM_updM]
      have hlen : (slc text lo hi).length = hi - lo := slc_len (by omega) h2 (by omega)
      refine qg (k _ lo (slc text lo hi) _ (oi_piece oi hr hc h3) rfl rfl ?_ ?_ ⟨by omega, ?_, ?_, ?_⟩)
      · show max o.sent hi = max o.sent (lo + _); rw [hlen]; congr 1; omega
      · exact h4
      · show lo + _ ≤ max o.sent hi; rw [hlen]; omega
      · rw [hlen]; congr 1; omega
      · intro hf
        rw [Bool.and_eq_true, decide_eq_true_eq] at hf
        rw [hlen]
        exact ⟨hf.1, by omega⟩
    have e2 := sz 2 (by omega)
    have rest : ∀ E' : Addr → Dt → DM → Prop, if o.sent < min o.taken (min upto (o.sent + most)) then sd_Outgoing_piece A [Dt.ref a, Dt.int o.sent, Dt.int (min o.taken (min upto (o.sent + most)))] (updM M a (MO.ins A.c_Outgoing dx (outF o))) (Qg Q) E'
      else if o.fin = true then 2 ≤ sizeLine ∧ flatD (Dt.str o.last.s) = true ∧ (flatD (Dt.str (Str.ofString "unsent")) = true ∧ flatD (Dt.str (Str.ofString "lost")) = true) ∧
          if eqFlat (Dt.str (Str.ofString "unsent")) (Dt.str o.last.s) = true ∨ eqFlat (Dt.str (Str.ofString "lost")) (Dt.str o.last.s) = true then
            if o.sent = o.taken then sd_Outgoing_piece A [Dt.ref a, Dt.int o.taken, Dt.int o.taken] (updM M a (MO.ins A.c_Outgoing dx (outF o))) (Qg Q) E'
            else Qg Q Dt.non (updM M a (MO.ins A.c_Outgoing dx (outF o)))
          else Qg Q Dt.non (updM M a (MO.ins A.c_Outgoing dx (outF o)))
        else Qg Q Dt.non (updM M a (MO.ins A.c_Outgoing dx (outF o))) := by
      intro E'
      split
      · exact fin _ _ bs (by omega) (by omega) (by omega) E'
      · split
        · refine ⟨e2, rfl, ⟨rfl, rfl⟩, ?_⟩
          split
          · split
            · exact fin _ _ (by omega) (by omega) (by omega) (by omega) E'
            · exact qs hm q
          · exact qs hm q
        · exact qs hm q
    cases hlo : o.lost with
    | nil =>
      simp
      exact rest _
    | cons r ls =>
      have hr : cov o.lost r.1 := by rw [hlo]; exact cov_cons.mpr (.inl ⟨Int.le_refl _, (oi.rgL.2 r (by rw [hlo]; simp))⟩)
      have hr2 : cov o.lost r.2 := by rw [hlo]; exact cov_cons.mpr (.inl ⟨(oi.rgL.2 r (by rw [hlo]; simp)), Int.le_refl _⟩)
      have c1 := oi.cL _ hr
      have c2 := oi.cL _ hr2
      have c3 := oi.rgL.2 r (by rw [hlo]; simp)
      simp [pr]
      rw [if_pos (by omega)]
      exact fin _ _ (by omega) (by omega) (by omega) (by omega) _
end K23

namespace K23
open PySem L2 DL RG
@[simp ↓] theorem dEq_int (n : Bool) (i j : Int) (M : DM) (Q : DK) : dEq n (.int i) (.int j) M Q = Q (.bl (n != decide (i = j))) M := rfl
theorem got_125 {A : Ad} {w : WD} {Q : DK} {a dx : Addr} {M : DM} {text : List Int} {o : Out} {s1 s2 s3 s4 : Option Dt} (oi : OI text o) (k : ∀ o', OI text o' → o'.fin = o.fin → o'.sent = o.sent → Q .non (updM M a (outM A dx o'))) :
    t_Outgoing_got_125 A w (RT Q) [some (.ref a), s1, s2, s3, s4] (updM M a (outM A dx o)) := by
  unfold t_Outgoing_got_125
  cases hg : o.got with
  | nil =>
    simp [hg]
    exact qg (k o oi rfl rfl)
  | cons r rs =>
    have hr := oi.rgG
    rw [hg] at hr
    have hh := hr.head
    have c1 := oi.cG r.1 (by rw [hg]; exact cov_cons.mpr (.inl ⟨Int.le_refl _, hh.1⟩))
    have c2 := oi.cG r.2 (by rw [hg]; exact cov_cons.mpr (.inl ⟨hh.1, Int.le_refl _⟩))
    have b0 := oi.base0
    simp [hg, pr]
    split
    · rename_i e
      have e1 : cutD (nums o.kept) (some (r.2 + 1 - o.base)) none = nums (o.kept.drop (r.2 + 1 - o.base).toNat) := nums_cut_from (by omega)
      have e2 : cutD (o.got.map pr) (some 1) none = rs.map pr := by
        rw [hg, cut_from (by omega)]; rfl
      simp [e1, e2]
      refine qg (k _ ?_ ?_ ?_)
      rotate_left
      · rfl
      · rfl
      refine ⟨oi.brk, oi.str, ?_, ?_, oi.st, oi.tk, ?_, hr.tail, oi.rgL, fun x hx => ?_, fun x hx => ?_, oi.small⟩
      · show 0 ≤ r.2 + 1; omega
      · show r.2 + 1 ≤ o.sent; omega
      · show o.kept.drop _ = text.drop (r.2 + 1).toNat
        rw [oi.kept, List.drop_drop]
        congr 1
        omega
      · have := hh.2 x hx
        have := oi.cG x (by rw [hg]; exact cov_cons.mpr (.inr hx))
        show r.2 + 1 ≤ x ∧ x < o.sent
        omega
      · have z := oi.cL x hx
        have z1 : ¬ (r.1 ≤ x ∧ x ≤ r.2) := fun q => z.2.2 (by rw [hg]; exact cov_cons.mpr (.inl q))
        show r.2 + 1 ≤ x ∧ x < o.sent ∧ ¬ cov rs x
        exact ⟨by omega, z.2.1, fun q => z.2.2 (by rw [hg]; exact cov_cons.mpr (.inr q))⟩
    · have z := qg (k o oi rfl rfl)
      exact z
theorem oi_last {text : List Int} {o : Out} (oi : OI text o) (l : La) : OI text { o with last := l } := ⟨oi.brk, oi.str, oi.base0, oi.bs, oi.st, oi.tk, oi.kept, oi.rgG, oi.rgL, oi.cG, oi.cL, oi.small⟩
theorem got_123 {A : Ad} {w : WD} {Q : DK} {a dx : Addr} {M : DM} {text : List Int} {o : Out} {lo : Int} {os : List Int} {fl : Bool} {s2 s3 s4 : Option Dt} (oi : OI text o) (k : ∀ o', OI text o' → o'.fin = o.fin → o'.sent = o.sent → Q .non (updM M a (outM A dx o'))) :
    t_Outgoing_got_123 A w (RT Q) [some (.ref a), some (dataP lo os fl), s2, s3, s4] (updM M a (outM A dx o)) := by
  unfold t_Outgoing_got_123
  simp [dataP]
  split
  · exact got_125 (oi_last oi .got) fun o' h1 h2 h3 => k o' h1 h2 h3
  · exact got_125 oi k
theorem sat_got (A : Ad) (ds : List Dt) (M : DM) (Q : DK) (E : Addr → Dt → DM → Prop) (h : sd_Outgoing_got A ds M Q E) : d_Outgoing_got A (WT E) (RT Q) (startD 5 ds) M := by
  obtain ⟨a, dx, o, pc, rfl, hm, h⟩ := h
  unfold d_Outgoing_got
  rw [← upd_self hm]
  rcases h with ⟨n, rfl, q⟩ | ⟨lo, os, fl, rfl, hb, q⟩ | ⟨text, lo, os, fl, rfl, oi, dp, k⟩
  · simp [brkP]
    exact qg q
  · simp [dataP, hb]
    exact qs hm q
  · have h0 := dp.lo0
    have h1 := dp.hi
    have bs := oi.bs
    have st := oi.st
    have tk := oi.tk
    have b0 := oi.base0
    have sm := oi.small
    have hk := fun (o1 : Out) (s2 s3 : Option Dt) => @got_123 A (WT E) Q a dx M text o1 lo os fl s2 s3 none
    simp only [dataP] at hk
    simp [dataP, oi.brk]
    split
    · rename_i c
      refine ⟨o.lost, lo, lo + os.length - 1, rfl, oi.rgL, by omega, fun x hx => by have := oi.cL x hx; omega, ?_⟩
      have hrL := dropR_rg oi.rgL (show lo ≤ lo + os.length - 1 by omega)
      have hcL := dropR_cov oi.rgL (show lo ≤ lo + os.length - 1 by omega)
      simp
      split
      · rename_i c2
        refine ⟨o.got, max lo o.base, lo + os.length - 1, rfl, oi.rgG, by omega, fun x hx => by have := oi.cG x hx; omega, fun rs' g1 g2 => ?_⟩
        simp
        refine hk _ _ _ ⟨oi.brk, oi.str, oi.base0, oi.bs, oi.st, oi.tk, oi.kept, g1, hrL, fun x hx => ?_, fun x hx => ?_, oi.small⟩ fun o' p1 p2 p3 => k o' p1 p2 p3
        · have hx' := (g2 x).mp hx
          show o.base ≤ x ∧ x < o.sent
          rcases hx' with z | z
          · exact oi.cG x z
          · omega
        · have hx' := (hcL x).mp hx
          have z := oi.cL x hx'.1
          show o.base ≤ x ∧ x < o.sent ∧ ¬ cov rs' x
          refine ⟨z.1, z.2.1, fun q => ?_⟩
          rcases (g2 x).mp q with y | y
          · exact z.2.2 y
          · exact hx'.2 (by omega)
      · exact hk _ _ _ ⟨oi.brk, oi.str, oi.base0, oi.bs, oi.st, oi.tk, oi.kept, oi.rgG, hrL, oi.cG, fun x hx => oi.cL x ((hcL x).mp hx).1, oi.small⟩ fun o' p1 p2 p3 => k o' p1 p2 p3
    · exact hk _ _ _ oi k
theorem lost_141 {A : Ad} {w : WD} {Q : DK} {a dx : Addr} {M : DM} {text : List Int} {o : Out} {lo : Int} {os : List Int} {fl : Bool} {s2 s3 s5 s6 : Option Dt} {rs : RL} (oi : OI text o) (k : ∀ v o', OI text o' → o'.fin = o.fin → o'.sent = o.sent → Q v (updM M a (outM A dx o'))) :
    t_Outgoing_lost_141 A w (RT Q) [some (.ref a), some (dataP lo os fl), s2, s3, some (rgs rs), s5, s6] (updM M a (outM A dx o)) := by
  unfold t_Outgoing_lost_141
  simp [dataP]
  split
  · split
    · exact qg (k _ _ (oi_last oi .lost) rfl rfl)
    · exact qg (k _ _ oi rfl rfl)
  · exact qg (k _ _ oi rfl rfl)
theorem lost_loop {A : Ad} {w : WD} {a dx : Addr} {M : DM} {text : List Int} {D : DEnds} {fin : Bool} {sent : Int} {s1 s2 s3 s4 : Option Dt} (hN : ∀ (o' : Out) (s5 s6 : Option Dt), OI text o' → o'.fin = fin → o'.sent = sent → D.nx [some (.ref a), s1, s2, s3, s4, s5, s6] (updM M a (outM A dx o'))) :
    ∀ (rs : RL) (o : Out) (s5 s6 : Option Dt), OI text o → o.fin = fin → o.sent = sent → (∀ r ∈ rs, r.1 ≤ r.2) → (∀ x, cov rs x → o.base ≤ x ∧ x < o.sent ∧ ¬ cov o.got x) →
    walkD (kTupG 2 (dgCons (dgName 5) (dgCons (dgName 6) dgNil))) (b_Outgoing_lost_1 A w) D (rs.map pr) [some (.ref a), s1, s2, s3, s4, s5, s6] (updM M a (outM A dx o))
  | [], o, s5, s6, oi, h1, h2, _, _ => by simpa using hN o s5 s6 oi h1 h2
  | (b, e) :: rs, o, s5, s6, oi, h1, h2, hn, hc => by
    have ih := lost_loop (A := A) (w := w) hN rs
    have hbe : b ≤ e := hn (b, e) List.mem_cons_self
    have b0 := oi.base0
    have sm := oi.small
    have st := oi.st
    have tk := oi.tk
    rw [List.map_cons, walkD_cons]
    generalize walkD (kTupG 2 (dgCons (dgName 5) (dgCons (dgName 6) dgNil))) (b_Outgoing_lost_1 A w) D (rs.map pr) = Wk at ih ⊢
    simp [pr, b_Outgoing_lost_1]
    refine ⟨o.lost, b, e, rfl, oi.rgL, hbe, fun x hx => by have := oi.cL x hx; omega, fun rs' g1 g2 => ?_⟩
    simp
    refine ih _ _ _ ⟨oi.brk, oi.str, oi.base0, oi.bs, oi.st, oi.tk, oi.kept, oi.rgG, g1, oi.cG, fun x hx => ?_, oi.small⟩ h1 h2 (fun r hr => hn r (List.mem_cons_of_mem _ hr)) (fun x hx => hc x (cov_cons.mpr (.inr hx)))
    rcases (g2 x).mp hx with z | z
    · exact oi.cL x z
    · exact hc x (cov_cons.mpr (.inl z))
theorem sat_lost (A : Ad) (ds : List Dt) (M : DM) (Q : DK) (E : Addr → Dt → DM → Prop) (h : sd_Outgoing_lost A ds M Q E) : d_Outgoing_lost A (WT E) (RT Q) (startD 7 ds) M := by
  obtain ⟨a, dx, o, pc, rfl, hm, h⟩ := h
  unfold d_Outgoing_lost
  rw [← upd_self hm]
  rcases h with ⟨n, rfl, hb, q1, q2⟩ | ⟨lo, os, fl, rfl, hb, q⟩ | ⟨text, lo, os, fl, rfl, oi, dp, k⟩
  · simp [brkP]
    split
    · exact qg (q1 (by assumption) _)
    · first
        | exact qs hm (q2 (by assumption) _)
        | (rw [if_neg hb]; exact qs hm (q2 (by assumption) _))
  · simp [dataP, hb]
    exact qs hm (q _)
  · have h0 := dp.lo0
    have h1 := dp.hi
    have bs := oi.bs
    have st := oi.st
    have tk := oi.tk
    have b0 := oi.base0
    have sm := oi.small
    have e1 := sz 1 (by omega)
    have e2 := sz 2 (by omega)
    have e0 := sz 0 (by omega)
    have tail : ∀ rs : RL, Rg rs → (∀ x, cov rs x → o.base ≤ x ∧ x < o.sent ∧ ¬ cov o.got x) → t_Outgoing_lost_139 A (WT E) (RT Q) [some (.ref a), some (dataP lo os fl), some (.int (max lo o.base)), some (.int (lo + os.length - 1)), some (rgs rs), none, none] (updM M a (outM A dx o)) := by
      intro rs hr hc
      unfold t_Outgoing_lost_139
      simp
      exact lost_loop (A := A) (w := WT E) (fin := o.fin) (sent := o.sent) (fun o' s5 s6 p1 p2 p3 => lost_141 (w := WT E) p1 fun v o2 z1 z2 z3 => k v o2 z1 (z2.trans p2) (z3.trans p3)) rs o none none oi rfl rfl hr.2 hc
    have tl := tail
    simp [dataP, oi.brk] at tl ⊢
    unfold t_Outgoing_lost_138
    simp [e0, e1, e2]
    split
    · rename_i c
      refine ⟨[(max lo o.base, lo + os.length - 1)], o.got, rfl, Rg.one (by omega), oi.rgG.2, fun x hx => by rw [cov_one] at hx; simp only at hx; omega, fun rs' g1 g2 => ?_⟩
      simp
      refine tl rs' g1 fun x hx => ?_
      have := (g2 x).mp hx
      rw [cov_one] at this
      simp only at this
      exact ⟨by omega, by omega, this.2⟩
    · exact tl [] Rg.nil fun x hx => (cov_nil x hx).elim
end K23

namespace K23
open PySem L2 DL RG
@[simp ↓ high] theorem opt_is (n : Bool) (b : Option Int) (M : DM) (Q : DK) : dIs n (optI b) .non M Q ↔ Q (.bl (n != b.isNone)) M := by cases b <;> cases n <;> simp [optI]
@[simp ↓ high] theorem opt_eq (n : Bool) (i : Int) (b : Option Int) (M : DM) (Q : DK) : dEq n (.int i) (optI b) M Q ↔ Q (.bl (n != decide (b = some i))) M := by
  cases b with
  | none => cases n <;> simp [optI]
  | some j =>
    have e : decide (i = j) = decide (j = i) := decide_eq_decide.mpr ⟨Eq.symm, Eq.symm⟩
    cases n <;> simp [optI, e]
theorem sat_inc_init (A : Ad) (ds : List Dt) (M : DM) (Q : DK) (E : Addr → Dt → DM → Prop) (h : sd_Incoming___init__ A ds M Q E) : d_Incoming___init__ A (WT E) (RT Q) (startD 3 ds) M := by
  obtain ⟨a, dx, st, kp, rfl, hk, hm, k⟩ := h
  have hk' : ¬ kp < 1 := by omega
  unfold d_Incoming___init__
  simp (decide := true) [hm, hk', putA]
  exact qg k
theorem sat_ready (A : Ad) (ds : List Dt) (M : DM) (Q : DK) (E : Addr → Dt → DM → Prop) (h : sd_Incoming_ready A ds M Q E) : d_Incoming_ready A (WT E) (RT Q) (startD 1 ds) M := by
  obtain ⟨a, dx, i, rfl, hm, k⟩ := h
  unfold d_Incoming_ready
  unfold readyI at k
  rw [← upd_self hm]
  cases hc : i.come with
  | nil =>
    rw [hc] at k
    simp [hc]
    exact qs hm k
  | cons r rs =>
    rw [hc] at k
    simp only at k
    simp [hc, pr]
    split
    · rename_i e
      rw [if_pos e] at k
      exact qs hm k
    · rename_i e
      rw [if_neg e] at k
      exact qs hm k
theorem sat_is_whole (A : Ad) (ds : List Dt) (M : DM) (Q : DK) (E : Addr → Dt → DM → Prop) (h : sd_Incoming_is_whole A ds M Q E) : d_Incoming_is_whole A (WT E) (RT Q) (startD 1 ds) M := by
  obtain ⟨a, dx, i, rfl, hm, k⟩ := h
  unfold d_Incoming_is_whole
  unfold wholeB at k
  rw [← upd_self hm]
  simp
  split
  · rename_i e
    simp [e] at k
    exact qs hm k
  · rename_i e
    simp [e] at k
    split
    · refine ⟨a, dx, i, rfl, updM_same, ?_⟩
      simp
      exact qs hm k
    · rename_i e2
      have e3 : i.en = none := by simpa using e2
      rw [e3] at k
      exact qs hm (by simpa using k)
theorem sat_take_break (A : Ad) (ds : List Dt) (M : DM) (Q : DK) (E : Addr → Dt → DM → Prop) (h : sd_Incoming_take_break A ds M Q E) : d_Incoming_take_break A (WT E) (RT Q) (startD 2 ds) M := by
  obtain ⟨a, dx, i, n, rfl, hm, k1, k2⟩ := h
  unfold d_Incoming_take_break
  rw [← upd_self hm]
  simp
  split
  · rename_i e
    exact qs hm (k1 (by unfold wholeB; rw [e]; rfl))
  · rename_i e
    refine ⟨a, dx, i, rfl, updM_same, ?_⟩
    have e2 := sz 2 (by omega)
    have e0 := sz 0 (by omega)
    cases hw : wholeB i
    · simp [e2, e0]
      exact qg (k2 hw)
    · simp
      exact qs hm (k1 hw)
theorem sat_grown (A : Ad) (ds : List Dt) (M : DM) (Q : DK) (E : Addr → Dt → DM → Prop) (h : sd_Incoming_grown A ds M Q E) : d_Incoming_grown A (WT E) (RT Q) (startD 2 ds) M := by
  obtain ⟨a, dx, i, rfl, hm, b1, b2, b3, b4, b5, b6, k1, k2⟩ := h
  unfold d_Incoming_grown
  rw [← upd_self hm]
  have hc : CMulW 2 (min (i.readU + i.room) 16777215 - i.upto) := wide_mul (a := 64) (b := 64) (by decide) (by omega) (by decide) (by decide) (by decide)
  simp [hc]
  split
  · exact qs hm k1
  · split
    · exact qs hm k1
    · split
      · exact qs hm k1
      · exact qs hm (k2 _ (by omega) (by omega))
theorem sat_let (A : Ad) (ds : List Dt) (M : DM) (Q : DK) (E : Addr → Dt → DM → Prop) (h : sd_Incoming_let A ds M Q E) : d_Incoming_let A (WT E) (RT Q) (startD 2 ds) M := by
  obtain ⟨a, dx, i, n, rfl, hm, hn, k⟩ := h
  unfold d_Incoming_let
  rw [← upd_self hm]
  simp
  rw [if_neg (by omega)]
  exact qg k
theorem sat_imemory (A : Ad) (ds : List Dt) (M : DM) (Q : DK) (E : Addr → Dt → DM → Prop) (h : sd_Incoming_memory A ds M Q E) : d_Incoming_memory A (WT E) (RT Q) (startD 1 ds) M := by
  obtain ⟨a, dx, i, rfl, hm, hl, k⟩ := h
  unfold d_Incoming_memory
  rw [← upd_self hm]
  simp
  exact ⟨i.come, rfl, hl, qs hm k⟩
theorem sat_wrong (A : Ad) (ds : List Dt) (M : DM) (Q : DK) (E : Addr → Dt → DM → Prop) (h : sd_Incoming_wrong A ds M Q E) : d_Incoming_wrong A (WT E) (RT Q) (startD 3 ds) M := by
  obtain ⟨a, dx, i, pc, rfl, hm, h, q⟩ := h
  unfold d_Incoming_wrong
  rw [← upd_self hm]
  rcases h with ⟨lo, os, fl, rfl, h1, h2, h3⟩ | ⟨n, rfl, h1, h2, h3⟩
  · cases hen : i.en with
    | none =>
      rw [hen] at h2
      simp [dataP, hen]
      rw [if_neg (by omega)]
      split
      · rename_i hf
        have := (h2 hf).1
        rw [if_neg (by omega)]
        exact qs hm q
      · exact qs hm q
    | some e =>
      rw [hen] at h2
      have h3' := h3 e hen
      have ho : optI i.en = .int e := by rw [hen]; rfl
      simp [dataP, hen, optI, ho]
      rw [if_neg (by omega)]
      split
      · rename_i hf
        have z := (h2 hf)
        have z2 : e = lo + os.length := by simpa using z.2
        rw [if_neg (by omega), if_pos z2, if_neg (by omega)]
        exact qs hm q
      · rw [if_neg (by omega)]
        exact qs hm q
  · simp [brkP]
    rw [if_neg (by omega), if_neg (by omega)]
    split
    · rename_i hs
      rcases h3 with h3 | h3
      · rw [h3] at hs; cases hs
      · rw [if_pos h3]
        exact qs hm q
    · exact qs hm q
end K23

namespace K23
open PySem L2 DL RG
/-! ### take -/
theorem slc_slc {text : List Int} {lo hi b c : Int} (h0 : 0 ≤ lo) (h1 : lo ≤ b) (h2 : b ≤ c) (h3 : c ≤ hi) : slc (slc text lo hi) (b - lo) (c - lo) = slc text b c := by
  unfold slc
  rw [List.drop_take, List.take_take, List.drop_drop]
  have e1 : lo.toNat + (b - lo).toNat = b.toNat := by omega
  have e2 : min (c - lo - (b - lo)).toNat ((hi - lo).toNat - (b - lo).toNat) = (c - b).toNat := by omega
  rw [e1, e2]
abbrev Pts := List (Int × List Int)
def PW (ps : Pts) : Prop := ps.Pairwise (fun p q => p.1 + (p.2.length : Int) ≤ q.1)
def PN (text : List Int) (ps : Pts) : Prop := ∀ p ∈ ps, p.2 ≠ [] ∧ 0 ≤ p.1 ∧ p.1 + (p.2.length : Int) ≤ text.length ∧ p.2 = slc text p.1 (p.1 + (p.2.length : Int))
def hdP (p : Int × List Int) : Int × Dt := (p.1, .tup (nums p.2))
theorem prt_hd (ps : Pts) : ps.map prt = (ps.map hdP).map hdD := by rw [List.map_map]; rfl
theorem perm_parts {ps : Pts} {qs : List (Int × Dt)} (h : qs.Perm (ps.map hdP)) : ∃ rs : Pts, rs.Perm ps ∧ qs = rs.map hdP := by
  obtain ⟨ys, h1, h2⟩ := perm_rel (R := fun (q : Int × Dt) (r : Int × List Int) => q = hdP r) h (ys := ps) (by
    clear h
    induction ps with
    | nil => exact .nil
    | cons r ps ih => exact .cons rfl ih)
  refine ⟨ys, h1, ?_⟩
  clear h1 h
  induction h2 with
  | nil => rfl
  | cons e _ ih => rw [e, ih]; rfl
theorem pos_len {p : Int × List Int} (h : p.2 ≠ []) : 0 < (p.2.length : Int) := by
  have := List.length_pos_iff.mpr h
  omega
def PApart (p q : Int × List Int) : Prop := p.1 + (p.2.length : Int) ≤ q.1 ∨ q.1 + (q.2.length : Int) ≤ p.1
/-- a new part beside the others: sorted, it is one more -/
theorem parts_more {text : List Int} {ps : Pts} {b e : Int} (h1 : PW ps) (h2 : PN text ps) (hb : 0 ≤ b) (hbe : b ≤ e) (he : e < text.length) (hd : ∀ x, b ≤ x → x ≤ e → ¬ pcov ps x) :
    ((ps ++ [(b, slc text b (e + 1))]).map (·.1)).Nodup ∧ ∀ qs : Pts, qs.Perm (ps ++ [(b, slc text b (e + 1))]) → qs.Pairwise (fun x y => x.1 < y.1) → PW qs ∧ PN text qs ∧ ∀ x, pcov qs x ↔ pcov ps x ∨ (b ≤ x ∧ x ≤ e) := by
  have hlen : ((slc text b (e + 1)).length : Int) = e + 1 - b := slc_len hb (by omega) (by omega)
  have hne : slc text b (e + 1) ≠ [] := fun z => by rw [z] at hlen; simp at hlen; omega
  have hpn : PN text (ps ++ [(b, slc text b (e + 1))]) := fun p hp => by
    rcases List.mem_append.mp hp with z | z
    · exact h2 p z
    · simp at z
      subst z
      refine ⟨hne, hb, ?_, ?_⟩
      · show b + _ ≤ _; rw [hlen]; omega
      · show slc text b (e + 1) = slc text b (b + _); rw [hlen]; congr 1; omega
  have hap : (ps ++ [(b, slc text b (e + 1))]).Pairwise PApart := by
    rw [List.pairwise_append]
    refine ⟨h1.imp fun {x y} q => .inl q, List.pairwise_singleton _ _, fun p hp q hq => ?_⟩
    simp at hq
    subst hq
    have l := pos_len (h2 p hp).1
    show p.1 + _ ≤ b ∨ b + _ ≤ p.1
    rw [hlen]
    by_cases c1 : p.1 + (p.2.length : Int) ≤ b
    · exact .inl c1
    · by_cases c2 : e + 1 ≤ p.1
      · right; omega
      · exact (hd (max p.1 b) (by omega) (by omega) ⟨p, hp, by omega, by omega⟩).elim
  have hboth := List.Pairwise.and_mem.mp hap
  constructor
  · show List.Pairwise _ _
    rw [List.pairwise_map]
    refine hboth.imp fun {x y} z e => ?_
    obtain ⟨m1, m2, q⟩ := z
    have := pos_len (hpn x m1).1
    have := pos_len (hpn y m2).1
    rcases q with q | q <;> omega
  · intro qs hp hs
    have hq : qs.Pairwise PApart := hp.symm.pairwise hap (fun {x y} h => h.symm)
    have hqm := List.Pairwise.and_mem.mp (hq.and hs)
    refine ⟨hqm.imp fun {x y} z => ?_, fun p m => hpn p (hp.mem_iff.mp m), fun x => ?_⟩
    · obtain ⟨m1, m2, q, l⟩ := z
      have := pos_len (hpn x (hp.mem_iff.mp m1)).1
      have := pos_len (hpn y (hp.mem_iff.mp m2)).1
      rcases q with q | q <;> omega
    · unfold pcov
      constructor
      · rintro ⟨p, m, c⟩
        rcases List.mem_append.mp (hp.mem_iff.mp m) with z | z
        · exact .inl ⟨p, z, c⟩
        · simp at z
          subst z
          right
          simp only at c
          rw [hlen] at c
          omega
      · rintro (⟨p, m, c⟩ | c)
        · exact ⟨p, hp.mem_iff.mpr (List.mem_append_left _ m), c⟩
        · refine ⟨(b, slc text b (e + 1)), hp.mem_iff.mpr (by simp), ?_⟩
          simp only
          rw [hlen]
          omega
theorem parts_len : ∀ {ps : Pts} {lo hi : Int}, PW ps → (∀ p ∈ ps, p.2 ≠ [] ∧ lo ≤ p.1 ∧ p.1 + (p.2.length : Int) ≤ hi) → lo ≤ hi → (ps.length : Int) ≤ hi - lo
  | [], lo, hi, _, _, h => by simp; omega
  | p :: ps, lo, hi, hw, hp, h => by
    have h1 := hp p List.mem_cons_self
    have hl := pos_len h1.1
    have := parts_len (ps := ps) (lo := p.1 + (p.2.length : Int)) (hi := hi) (List.pairwise_cons.mp hw).2 (fun q hq => ⟨(hp q (List.mem_cons_of_mem _ hq)).1, (List.pairwise_cons.mp hw).1 q hq, (hp q (List.mem_cons_of_mem _ hq)).2.2⟩) h1.2.2
    rw [List.length_cons]
    push_cast
    omega
theorem take_loop {A : Ad} {w : WD} {a dx : Addr} {M : DM} {text : List Int} {D : DEnds} {i1 : Inc} {lo : Int} {os : List Int} {fl : Bool} {s2 s4 : Option Dt} (h0 : 0 ≤ lo) (hlt : lo + os.length ≤ text.length) (hos : os = slc text lo (lo + os.length))
    (hN : ∀ (i' : Inc) (s5 s6 : Option Dt), II text i' → (∃ c p, i' = { i1 with come := c, parts := p }) → (∀ x, cov i1.come x → cov i'.come x) → D.nx [some (.ref a), some (dataP lo os fl), s2, some (.int lo), s4, s5, s6] (updM M a (incM A dx i'))) :
    ∀ (rs : RL) (i : Inc) (s5 s6 : Option Dt), II text i → (∃ c p, i = { i1 with come := c, parts := p }) → (∀ x, cov i1.come x → cov i.come x) → Rg rs → (∀ x, cov rs x → lo ≤ x ∧ i1.readU ≤ x ∧ x < lo + os.length ∧ x < i1.greatest ∧ ¬ cov i.come x) →
    walkD (kTupG 2 (dgCons (dgName 5) (dgCons (dgName 6) dgNil))) (b_Incoming_take_1 A w) D (rs.map pr) [some (.ref a), some (dataP lo os fl), s2, some (.int lo), s4, s5, s6] (updM M a (incM A dx i))
  | [], i, s5, s6, ii, hi, hc, _, _ => by simpa using hN i s5 s6 ii hi hc
  | (b, e) :: rs, i, s5, s6, ii, hi, hc, hr, hd => by
    have ih := take_loop (A := A) (w := w) h0 hlt hos hN rs
    have hbe : b ≤ e := hr.2 (b, e) List.mem_cons_self
    have cb := hd b (cov_cons.mpr (.inl ⟨Int.le_refl _, hbe⟩))
    have ce := hd e (cov_cons.mpr (.inl ⟨hbe, Int.le_refl _⟩))
    have hh := hr.head
    obtain ⟨c0, p0, rfl⟩ := hi
    have r0 : 0 ≤ i1.readU := ii.r0
    have gt : i1.greatest ≤ text.length := ii.gt
    have sm := ii.small
    have hdis : ∀ x, b ≤ x → x ≤ e → ¬ pcov p0 x := fun x h1 h2 q => (hd x (cov_cons.mpr (.inl ⟨h1, h2⟩))).2.2.2.2 ((ii.pc x).mp q)
    obtain ⟨pn, ps⟩ := parts_more ii.pw ii.pn (by omega) hbe (by omega) hdis
    have hcut : cutD (nums os) (some (b - lo)) (some (e + 1 - lo)) = nums (slc text b (e + 1)) := by
      rw [nums_cut_pp (by omega) (by omega)]
      rw [hos, slc_slc h0 (by omega) (by omega) (by omega)]
    have hplen : p0.length ≤ 1000 := by
      have := parts_len (lo := 0) (hi := text.length) ii.pw (fun p hp => ⟨(ii.pn p hp).1, (ii.pn p hp).2.1, (ii.pn p hp).2.2.1⟩) (by omega)
      simp only at this
      omega
    have e1 := sz 1 (by omega)
    have e2 := sz 2 (by omega)
    have e3 : p0.length + 1 ≤ sizeLine := sz _ (by omega)
    rw [List.map_cons, walkD_cons]
    generalize walkD (kTupG 2 (dgCons (dgName 5) (dgCons (dgName 6) dgNil))) (b_Incoming_take_1 A w) D (rs.map pr) = Wk at ih ⊢
    simp [pr, b_Incoming_take_1, dataP, e1, e2, e3, hcut, bSortH]
    refine ⟨(p0 ++ [(b, slc text b (e + 1))]).map hdP, ?_, ?_, ?_⟩
    · simp [hdP, hdD, prt]
    · rw [List.map_map]; exact pn
    · intro qs hq hs
      obtain ⟨zs, z1, z2⟩ := perm_parts hq
      subst z2
      obtain ⟨w1, w2, w3⟩ := ps zs z1 (by rw [List.pairwise_map] at hs; exact hs)
      rw [← prt_hd]
      simp
      refine ⟨c0, b, e, rfl, ii.rgC, hbe, fun x hx => by have := ii.cC x hx; simp only at this; omega, fun rs' g1 g2 => ?_⟩
      simp
      refine ih { i1 with come := rs', parts := zs } _ _ ⟨ii.nb, ii.r0, ii.rg, ii.gt, ii.en, g1, fun x hx => ?_, w1, w2, fun x => ?_, ii.small⟩ ⟨_, _, rfl⟩ (fun x hx => (g2 x).mpr (.inl (hc x hx))) hr.tail (fun x hx => ?_)
      · rcases (g2 x).mp hx with z | z
        · exact ii.cC x z
        · have := hd x (cov_cons.mpr (.inl z))
          exact ⟨this.2.1, this.2.2.2.1⟩
      · rw [w3 x]
        show pcov p0 x ∨ _ ↔ cov rs' x
        rw [g2 x, ii.pc x]
      · have := hd x (cov_cons.mpr (.inr hx))
        have hx2 := hh.2 x hx
        refine ⟨this.1, this.2.1, this.2.2.1, this.2.2.2.1, fun q => ?_⟩
        rcases (g2 x).mp q with z | z
        · exact this.2.2.2.2 z
        · simp only at hx2; omega
theorem sat_take (A : Ad) (ds : List Dt) (M : DM) (Q : DK) (E : Addr → Dt → DM → Prop) (h : sd_Incoming_take A ds M Q E) : d_Incoming_take A (WT E) (RT Q) (startD 7 ds) M := by
  obtain ⟨a, dx, i, pc, rfl, hm, h⟩ := h
  unfold d_Incoming_take
  rw [← upd_self hm]
  simp
  rcases h with ⟨n, rfl, hf, q⟩ | ⟨lo, os, fl, rfl, hf, hb, q⟩ | ⟨text, lo, os, fl, rfl, hf, ii, h0, hlt, hos, hfl, k⟩
  · refine ⟨a, dx, i, brkP n, rfl, updM_same, .inr ⟨n, rfl, hf⟩, ?_⟩
    simp [brkP]
    refine ⟨a, dx, i, n, rfl, updM_same, fun hw => ?_, fun hw => ?_⟩
    · simp
      exact qs hm (q.1 hw)
    · simp
      exact qg (q.2 hw)
  · refine ⟨a, dx, i, dataP lo os fl, rfl, updM_same, .inl ⟨lo, os, fl, rfl, hf⟩, ?_⟩
    simp [dataP, hb]
    exact qs hm q
  · refine ⟨a, dx, i, dataP lo os fl, rfl, updM_same, .inl ⟨lo, os, fl, rfl, hf⟩, ?_⟩
    have r0 := ii.r0
    have gt := ii.gt
    have sm := ii.small
    have main : ∀ en' : Option Int, en' = (if fl = true then some (lo + os.length : Int) else i.en) → t_Incoming_take_203 A (WT E) (RT Q) [some (.ref a), some (dataP lo os fl), some .non, some (.int lo), some (.int (lo + os.length)), none, none] (updM M a (incM A dx { i with greatest := max i.greatest (lo + os.length), en := en' })) := by
      intro en' hen
      unfold t_Incoming_take_203
      simp
      refine ⟨i.come, max lo i.readU, lo + os.length - 1, rfl, ii.rgC, by omega, by omega, fun rs' g1 g2 => ?_⟩
      simp
      refine take_loop (text := text) (i1 := { i with greatest := max i.greatest (lo + os.length), en := en' }) h0 hlt hos ?_ rs' { i with greatest := max i.greatest (lo + os.length), en := en' } none none ?_ ⟨_, _, rfl⟩ (fun x hx => hx) g1 (fun x hx => ?_)
      · rintro i' s5 s6 ii' ⟨c, p, rfl⟩ hc
        simp
        exact qg (k _ ii' rfl rfl rfl rfl rfl rfl hen hc)
      · refine ⟨ii.nb, ii.r0, ?_, ?_, ?_, ii.rgC, fun x hx => ?_, ii.pw, ii.pn, ii.pc, ii.small⟩
        · have := ii.rg; show i.readU ≤ max _ _; omega
        · show max _ _ ≤ _; omega
        · show en' = none ∨ en' = _
          rw [hen]
          split
          · rename_i hf'
            right
            rw [hfl hf']
          · exact ii.en
        · have := ii.cC x hx; show i.readU ≤ x ∧ x < max _ _; omega
      · have := (g2 x).mp hx
        show lo ≤ x ∧ i.readU ≤ x ∧ x < lo + os.length ∧ x < max _ _ ∧ ¬ cov i.come x
        exact ⟨by omega, by omega, by omega, by omega, this.2⟩
    have m1 := main
    simp only [dataP] at m1
    simp [dataP, ii.nb]
    unfold t_Incoming_take_199
    simp
    unfold t_Incoming_take_201
    simp
    cases fl
    · simp
      exact m1 _ (by simp)
    · simp
      exact m1 _ (by simp)
end K23

namespace K23
open PySem L2 DL RG
/-! ### read -/
def clip1 (n : Int) (r : Int × Int) : Option (Int × Int) := if n ≤ r.2 then some (max r.1 n, r.2) else none
def clipR (rs : RL) (n : Int) : RL := rs.filterMap (clip1 n)
theorem clip1_some {n : Int} {r q : Int × Int} (h : clip1 n r = some q) : n ≤ r.2 ∧ q = (max r.1 n, r.2) := by
  unfold clip1 at h
  split at h
  · simp at h; exact ⟨by assumption, h.symm⟩
  · cases h
theorem clipR_rg {rs : RL} {n : Int} (h : Rg rs) : Rg (clipR rs n) := by
  unfold clipR
  constructor
  · rw [List.pairwise_filterMap]
    refine (List.Pairwise.and_mem.mp h.1).imp fun {a b} z x hx y hy => ?_
    obtain ⟨m1, m2, g⟩ := z
    obtain ⟨c1, e1⟩ := clip1_some hx
    obtain ⟨c2, e2⟩ := clip1_some hy
    have := h.2 b m2
    unfold Gap at *
    rw [e1, e2]
    simp only
    omega
  · intro q hq
    obtain ⟨r, h1, h2⟩ := List.mem_filterMap.mp hq
    obtain ⟨c, e⟩ := clip1_some h2
    have := h.2 r h1
    rw [e]
    simp only
    omega
theorem clipR_cov {rs : RL} {n : Int} (x : Int) : cov (clipR rs n) x ↔ cov rs x ∧ n ≤ x := by
  unfold clipR cov
  constructor
  · rintro ⟨q, hq, hx⟩
    obtain ⟨r, h1, h2⟩ := List.mem_filterMap.mp hq
    obtain ⟨c, e⟩ := clip1_some h2
    rw [e] at hx
    simp only at hx
    exact ⟨⟨r, h1, by omega⟩, by omega⟩
  · rintro ⟨⟨r, h1, h2⟩, hn⟩
    refine ⟨(max r.1 n, r.2), List.mem_filterMap.mpr ⟨r, h1, ?_⟩, ?_⟩
    · unfold clip1
      rw [if_pos (by omega)]
    · simp only; omega
theorem clipR_same {rs : RL} {n : Int} (h : ∀ x, cov rs x → n ≤ x) (hr : ∀ r ∈ rs, r.1 ≤ r.2) : clipR rs n = rs := by
  unfold clipR
  induction rs with
  | nil => rfl
  | cons r rs ih =>
    have h1 := hr r List.mem_cons_self
    have h2 := h r.1 (cov_cons.mpr (.inl ⟨Int.le_refl _, h1⟩))
    have e : clip1 n r = some r := by
      unfold clip1
      rw [if_pos (by omega)]
      congr 1
      have : max r.1 n = r.1 := by omega
      rw [this]
    rw [List.filterMap_cons_some e, ih (fun x hx => h x (cov_cons.mpr (.inr hx))) (fun q hq => hr q (List.mem_cons_of_mem _ hq))]
theorem delM_upd2 {M : DM} {p : Addr} {o : MO} (h : M p = none) : delM (updM M p o) p = M := delM_upd h
@[simp ↓ high] theorem kf_i_readU_skip {a p C dx : Addr} {i : Inc} {M : DM} {o : MO} {Q : DK} (hne : a ≠ p) : kFld ("read_upto" : Str) Q (.ref a) (updM (updM M a (.ins C dx (incF i))) p o) = Q (.int i.readU) (updM (updM M a (.ins C dx (incF i))) p o) := by
  show fldO _ _ _ (updM (updM M a _) p o a) = _
  rw [updM_ne hne, updM_same]
  rfl
theorem read_234 {A : Ad} {w : WD} {Q : DK} {a dx : Addr} {M : DM} {i : Inc} {s1 s2 s4 s5 s6 s7 s8 : Option Dt} {d3 : Dt} (hl : i.come.length ≤ 1000000) (h : Q d3 (updM M a (incM A dx { i with come := clipR i.come i.readU }))) :
    t_Incoming_read_234 A w (RT Q) [some (.ref a), s1, s2, some d3, s4, s5, s6, s7, s8] (updM M a (incM A dx i)) := by
  unfold t_Incoming_read_234
  simp
  intro p hp
  have hne : a ≠ p := fun e => by subst e; rw [updM_same] at hp; cases hp
  have e2 := sz 2 (by omega)
  refine walkC_pure (fun d => match d with
    | .tup [.int x, .int y] => (clip1 i.readU (x, y)).map pr
    | _ => none) hp _ [] (by simp; omega) ?_ ?_
  · intro d hd acc' N Wk ha hw
    obtain ⟨r, hr1, rfl⟩ := List.mem_map.mp hd
    have q : acc'.length < sizeLine := Nat.lt_of_lt_of_le ha sizeLine_big
    simp [pr, q, e2, hne]
    simp only [pr] at hw
    unfold clip1 at hw
    split
    · rename_i c
      rw [if_pos c] at hw
      exact hw
    · rename_i c
      rw [if_neg c] at hw
      exact hw
  · have e : (i.come.map pr).filterMap (fun d => match d with
      | .tup [.int x, .int y] => (clip1 i.readU (x, y)).map pr
      | _ => none) = (clipR i.come i.readU).map pr := by
      rw [List.filterMap_map]
      unfold clipR
      rw [List.map_filterMap]
      rfl
    simp only [List.nil_append]
    rw [e]
    simp
    exact qg h
theorem slc_app {text : List Int} {a b c : Int} (h0 : 0 ≤ a) (h1 : a ≤ b) (h2 : b ≤ c) (h3 : c ≤ text.length) : slc text a b ++ slc text b c = slc text a c := by
  unfold slc
  apply List.ext_getElem?
  intro n
  have l1 : ((text.drop a.toNat).take (b - a).toNat).length = (b - a).toNat := by
    rw [List.length_take, List.length_drop]; omega
  rw [List.getElem?_append, l1]
  simp only [List.getElem?_take, List.getElem?_drop]
  by_cases h : n < (b - a).toNat
  · rw [if_pos h, if_pos h, if_pos (by omega)]
  · rw [if_neg h]
    have e : b.toNat + (n - (b - a).toNat) = a.toNat + n := by omega
    rw [e]
    by_cases h4 : n - (b - a).toNat < (c - b).toNat
    · rw [if_pos h4, if_pos (by omega)]
    · rw [if_neg h4, if_neg (by omega)]
theorem slc_nil {text : List Int} {a : Int} : slc text a a = [] := by unfold slc; simp
theorem slc_take {text : List Int} {a b : Int} {n : Nat} (h : (n : Int) ≤ b - a) : (slc text a b).take n = slc text a (a + n) := by
  unfold slc
  rw [List.take_take]
  congr 1
  omega
theorem slc_dropN {text : List Int} {a b : Int} {n : Nat} (h0 : 0 ≤ a) : (slc text a b).drop n = slc text (a + n) b := by
  unfold slc
  rw [List.drop_take, List.drop_drop]
  congr 1
  · omega
  · congr 1; omega
structure RI (text : List Int) (i : Inc) (k : Int) (ps : Pts) : Prop where
  pw : PW ps
  pn : PN text ps
  pc : ∀ x, pcov ps x ↔ cov i.come x ∧ i.readU + k ≤ x
  no : k = 0 → ps = i.parts
theorem ri_start {text : List Int} {i : Inc} (ii : II text i) : RI text i 0 i.parts := ⟨ii.pw, ii.pn, fun x => by
  rw [ii.pc x]
  constructor
  · intro h; exact ⟨h, by have := ii.cC x h; omega⟩
  · intro h; exact h.1, fun _ => rfl⟩
/-- what is first is what is wanted -/
theorem ri_first {text : List Int} {i : Inc} {k : Int} {ps : Pts} (ii : II text i) (ri : RI text i k ps) (hk : 0 ≤ k) (hr : k < readyI i) : ∃ p ps', ps = p :: ps' ∧ p.1 = i.readU + k := by
  have hc : cov i.come (i.readU + k) := by
    unfold readyI at hr
    cases h : i.come with
    | nil => rw [h] at hr; simp only at hr; omega
    | cons r rs =>
      rw [h] at hr
      simp only at hr
      split at hr
      · exact cov_cons.mpr (.inl ⟨by omega, by omega⟩)
      · omega
  obtain ⟨q, hq, hx⟩ := (ri.pc _).mpr ⟨hc, Int.le_refl _⟩
  cases ps with
  | nil => cases hq
  | cons p ps' =>
    refine ⟨p, ps', rfl, ?_⟩
    have h1 : i.readU + k ≤ p.1 := ((ri.pc p.1).mp ⟨p, List.mem_cons_self, Int.le_refl _, by have := pos_len (ri.pn p List.mem_cons_self).1; omega⟩).2
    rcases List.mem_cons.mp hq with e | e
    · subst e; omega
    · have := (List.pairwise_cons.mp ri.pw).1 q e
      have := pos_len (ri.pn p List.mem_cons_self).1
      omega
/-- m octets of the first part are taken -/
theorem ri_step {text : List Int} {i : Inc} {k : Int} {p : Int × List Int} {ps : Pts} (ri : RI text i k (p :: ps)) (hp : p.1 = i.readU + k) (hk : 0 ≤ k) {m : Nat} (hm : 0 < m) (hl : m ≤ p.2.length) :
    RI text i (k + m) (if m < p.2.length then (p.1 + m, p.2.drop m) :: ps else ps) := by
  have hpn := ri.pn p List.mem_cons_self
  have hw := List.pairwise_cons.mp ri.pw
  have hps : ∀ x, pcov ps x → p.1 + p.2.length ≤ x := fun x ⟨q, hq, h1, h2⟩ => by have := hw.1 q hq; omega
  have key : ∀ x, pcov (p :: ps) x ↔ (p.1 ≤ x ∧ x < p.1 + p.2.length) ∨ pcov ps x := fun x => by
    constructor
    · rintro ⟨q, hq, h⟩
      rcases List.mem_cons.mp hq with e | e
      · subst e; exact .inl h
      · exact .inr ⟨q, e, h⟩
    · rintro (h | ⟨q, hq, h⟩)
      · exact ⟨p, List.mem_cons_self, h⟩
      · exact ⟨q, List.mem_cons_of_mem _ hq, h⟩
  by_cases c : m < p.2.length
  · rw [if_pos c]
    have hdl : ((p.2.drop m).length : Int) = p.2.length - m := by rw [List.length_drop]; omega
    refine ⟨List.pairwise_cons.mpr ⟨fun q hq => ?_, hw.2⟩, fun q hq => ?_, fun x => ?_, fun h => by omega⟩
    · have := hw.1 q hq
      simp only
      rw [hdl]
      omega
    · rcases List.mem_cons.mp hq with e | e
      · subst e
        refine ⟨fun z => ?_, ?_, ?_, ?_⟩
        · simp only at z; rw [z] at hdl; simp at hdl; omega
        · have := hpn.2.1; simp only; omega
        · have := hpn.2.2.1; simp only; rw [hdl]; omega
        · simp only
          rw [hdl]
          have e1 : p.2.drop m = (slc text p.1 (p.1 + p.2.length)).drop m := by rw [← hpn.2.2.2]
          rw [e1, slc_dropN hpn.2.1]
          congr 1
          omega
      · exact ri.pn q (List.mem_cons_of_mem _ e)
    · have h0 := ri.pc x
      rw [key x] at h0
      constructor
      · rintro ⟨q, hq, h⟩
        rcases List.mem_cons.mp hq with e | e
        · subst e
          simp only at h
          rw [hdl] at h
          have := h0.mp (.inl ⟨by omega, by omega⟩)
          exact ⟨this.1, by omega⟩
        · have z := h0.mp (.inr ⟨q, e, h⟩)
          have := hps x ⟨q, e, h⟩
          exact ⟨z.1, by omega⟩
      · rintro ⟨h1, h2⟩
        rcases h0.mpr ⟨h1, by omega⟩ with z | ⟨q, hq, z⟩
        · exact ⟨_, List.mem_cons_self, by simp only; omega, by simp only; rw [hdl]; omega⟩
        · exact ⟨q, List.mem_cons_of_mem _ hq, z⟩
  · rw [if_neg c]
    refine ⟨hw.2, fun q hq => ri.pn q (List.mem_cons_of_mem _ hq), fun x => ?_, fun h => by omega⟩
    have h0 := ri.pc x
    rw [key x] at h0
    constructor
    · intro h
      have z := h0.mp (.inr h)
      have := hps x h
      exact ⟨z.1, by omega⟩
    · rintro ⟨h1, h2⟩
      rcases h0.mpr ⟨h1, by omega⟩ with z | z
      · omega
      · exact z
end K23

namespace K23
open PySem L2 DL RG
theorem read_step {A : Ad} {w : WD} {D : DEnds} {a dx : Addr} {M : DM} {text : List Int} {i : Inc} {many k : Int} {p : Int × List Int} {ps' : Pts} {s1 s4 s5 s6 s7 s8 : Option Dt} (ii : II text i) (hk0 : 0 ≤ k) (c : k < many) (hg : i.readU + many ≤ text.length) (ri : RI text i k (p :: ps')) (hp1 : p.1 = i.readU + k)
    (N : DS → DM → Prop) (hN : ∀ (k' : Int) ps s4 s5 s6 s7, k < k' → k' ≤ many → RI text i k' ps → N [some (.ref a), s1, some (.int many), some (.lst (nums (slc text i.readU (i.readU + k')))), s4, s5, s6, s7, s8] (updM M a (incM A dx { i with parts := ps }))) :
    b_Incoming_read_1 A w { nx := N, rt := D.rt, bk := D.nx, ct := N } [some (.ref a), s1, some (.int many), some (.lst (nums (slc text i.readU (i.readU + k)))), s4, s5, s6, s7, s8] (updM M a (incM A dx { i with parts := p :: ps' })) := by
  have r0 := ii.r0
  have sm := ii.small
  have hlen : ((slc text i.readU (i.readU + k)).length : Int) = k := by
    rw [slc_len r0 (by omega) (by omega)]; omega
  have hpn := ri.pn p List.mem_cons_self
  have hpl := pos_len hpn.1
  have hplen : ps'.length ≤ 1000 := by
    have := parts_len (lo := 0) (hi := text.length) ri.pw (fun p hp => ⟨(ri.pn p hp).1, (ri.pn p hp).2.1, (ri.pn p hp).2.2.1⟩) (by omega)
    rw [List.length_cons] at this
    omega
  have e0 := sz 0 (by omega)
  have e1 := sz 1 (by omega)
  have e2 := sz 2 (by omega)
  have e3 : ps'.length ≤ sizeLine := sz _ (by omega)
  have e4 : 1 + ps'.length ≤ sizeLine := sz _ (by omega)
  have hcut : cutD (nums p.2) none (some (many - k)) = nums (p.2.take (many - k).toNat) := nums_cut_to (by omega)
  have hcut1 : cutD (Dt.tup [Dt.int p.1, Dt.tup (nums p.2)] :: List.map prt ps') (some 1) none = ps'.map prt := by rw [cut_from (by omega)]; rfl
  have hcut2 : ∀ n : Nat, cutD (nums p.2) (some (n : Int)) none = nums (p.2.drop n) := fun n => by rw [nums_cut_from (by omega)]; simp
  have hmin : 0 < min (many - k).toNat p.2.length := by omega
  have hfound : nums (slc text i.readU (i.readU + k)) ++ List.take (many - k).toNat (List.map Dt.int p.2) = nums (slc text i.readU (i.readU + (k + (min (many - k).toNat p.2.length : Nat)))) := by
    have e : List.take (many - k).toNat (List.map Dt.int p.2) = nums (p.2.take (min (many - k).toNat p.2.length)) := by
      rw [← List.map_take]
      congr 1
      rw [List.take_eq_take_iff]; omega
    have e5 : p.2 = slc text (i.readU + k) (i.readU + k + p.2.length) := by rw [← hp1]; exact hpn.2.2.2
    rw [e]
    have hb : i.readU + k + (min (many - k).toNat p.2.length : Nat) ≤ text.length := by have := hpn.2.2.1; omega
    generalize hmm : min (many - k).toNat p.2.length = mm at *
    rw [e5, slc_take (by omega)]
    show List.map _ _ ++ List.map _ _ = _
    rw [← List.map_append, slc_app r0 (by omega) (by omega) hb]
    congr 2
    omega
  have hl : (slc text i.readU (i.readU + k)).length + min (many - k).toNat p.2.length ≤ sizeLine := sz _ (by have := hpn.2.2.1; omega)
  have st := ri_step ri hp1 hk0 hmin (by omega)
  have fin := hN _ _ (some (.int p.1)) (some (.tup (nums p.2))) (some (.tup (nums (p.2.take (many - k).toNat)))) (some (.lst (if min (many - k).toNat p.2.length < p.2.length then [.tup [.int (p.1 + (min (many - k).toNat p.2.length : Nat)), .tup (nums (p.2.drop (min (many - k).toNat p.2.length)))]] else []))) (by omega) (by omega) st
  rw [← hfound] at fin
  unfold b_Incoming_read_1
  simp [hlen, prt, hcut, e0, e1, e2]
  refine ⟨hl, ?_⟩
  rw [hcut1]
  have e6 : (ps'.map prt).length = ps'.length := List.length_map ..
  rw [e6, hcut2]
  split
  · rename_i c2
    rw [if_pos c2, if_pos c2] at fin
    refine ⟨e4, ?_⟩
    rw [show (Dt.tup [Dt.int (p.1 + (min (many - k).toNat p.2.length : Nat)), Dt.tup (nums (p.2.drop (min (many - k).toNat p.2.length)))] :: ps'.map prt) = List.map prt ((p.1 + (min (many - k).toNat p.2.length : Nat), p.2.drop (min (many - k).toNat p.2.length)) :: ps') from rfl, kp_i_parts_0]
    simpa using fin
  · rename_i c2
    rw [if_neg c2, if_neg c2] at fin
    refine ⟨e3, ?_⟩
    rw [kp_i_parts_0]
    simpa using fin
theorem read_loop {A : Ad} {w : WD} {D : DEnds} {a dx : Addr} {M : DM} {text : List Int} {i : Inc} {many : Int} {s1 s8 : Option Dt} (ii : II text i) (h0 : 0 ≤ many) (hm : many ≤ readyI i) (hg : i.readU + readyI i ≤ text.length)
    (hN : ∀ ps s4 s5 s6 s7, RI text i many ps → D.nx [some (.ref a), s1, some (.int many), some (.lst (nums (slc text i.readU (i.readU + many)))), s4, s5, s6, s7, s8] (updM M a (incM A dx { i with parts := ps }))) :
    dWhile (dTest (dOp dLt (dCB bLen (dCons (dVar 3) dNil)) (dVar 2))) (b_Incoming_read_1 A w) D [some (.ref a), s1, some (.int many), some (.lst []), none, none, none, none, s8] (updM M a (incM A dx i)) := by
  have r0 := ii.r0
  have sm := ii.small
  refine ⟨fun m δ M' => ∃ (k : Int) (ps : Pts) (s4 s5 s6 s7 : Option Dt), m = (many - k).toNat ∧ 0 ≤ k ∧ k ≤ many ∧ RI text i k ps ∧ δ = [some (.ref a), s1, some (.int many), some (.lst (nums (slc text i.readU (i.readU + k)))), s4, s5, s6, s7, s8] ∧ M' = updM M a (incM A dx { i with parts := ps }),
    ⟨_, 0, i.parts, none, none, none, none, rfl, Int.le_refl _, h0, ri_start ii, ?_, rfl⟩, ?_⟩
  · rw [Int.add_zero, slc_nil]; rfl
  · rintro m δ M' ⟨k, ps, s4, s5, s6, s7, em, hk0, hkm, ri, rfl, rfl⟩
    have hlen : ((slc text i.readU (i.readU + k)).length : Int) = k := by
      rw [slc_len r0 (by omega) (by omega)]; omega
    simp
    rw [hlen]
    by_cases c : k < many
    · rw [if_pos c]
      obtain ⟨p, ps', rfl, hp1⟩ := ri_first ii ri hk0 (by omega)
      refine read_step ii hk0 c (by omega) ri hp1 _ fun k' ps s4 s5 s6 s7 h1 h2 h3 => ?_
      exact ⟨(many - k').toNat, by omega, k', rfl, by omega, h2, ps, h3, ⟨s4, s5, s6, s7, rfl⟩, rfl⟩
    · rw [if_neg c]
      have hkk : k = many := by omega
      subst hkk
      exact hN ps s4 s5 s6 s7 ri
theorem ready_nn {text : List Int} {i : Inc} (ii : II text i) : 0 ≤ readyI i ∧ i.readU + readyI i ≤ text.length ∧ i.readU + readyI i ≤ i.greatest ∧ (0 < readyI i → ∀ x, i.readU ≤ x → x < i.readU + readyI i → cov i.come x) := by
  have r0 := ii.r0
  have rg := ii.rg
  have gt := ii.gt
  unfold readyI
  cases h : i.come with
  | nil => simp only; exact ⟨by omega, by omega, by omega, fun z => by omega⟩
  | cons r rs =>
    simp only
    have hr := ii.rgC.2 r (by rw [h]; simp)
    have h2 := ii.cC r.2 (by rw [h]; exact cov_cons.mpr (.inl ⟨hr, Int.le_refl _⟩))
    split
    · exact ⟨by omega, by omega, by omega, fun _ x h1 h2 => cov_cons.mpr (.inl ⟨by omega, by omega⟩)⟩
    · exact ⟨by omega, by omega, by omega, fun z => by omega⟩
theorem sat_read (A : Ad) (ds : List Dt) (M : DM) (Q : DK) (E : Addr → Dt → DM → Prop) (h : sd_Incoming_read A ds M Q E) : d_Incoming_read A (WT E) (RT Q) (startD 9 ds) M := by
  obtain ⟨a, dx, i, most, rfl, hm, hmost, h⟩ := h
  unfold d_Incoming_read
  rw [← upd_self hm]
  have e0 := sz 0 (by omega)
  simp
  rw [if_neg (by omega)]
  unfold t_Incoming_read_225
  simp
  refine ⟨a, dx, i, rfl, updM_same, ?_⟩
  simp [e0]
  unfold t_Incoming_read_227
  simp only [dSeq_at]
  rcases h with ⟨hc, q⟩ | ⟨text, ii, k⟩
  · have hr : readyI i = 0 := by unfold readyI; rw [hc]
    have hz : min most (readyI i) = 0 := by omega
    rw [hz]
    refine ⟨fun m δ M' => δ = [some (.ref a), some (.int most), some (.int 0), some (.lst []), none, none, none, none, none] ∧ M' = updM M a (incM A dx i), ⟨0, rfl, rfl⟩, ?_⟩
    rintro m δ M' ⟨rfl, rfl⟩
    simp
    unfold t_Incoming_read_233
    simp
    refine read_234 (by simp [hc]) ?_
    have e : clipR i.come (i.readU + 0) = i.come := by rw [hc]; rfl
    simp only [Int.add_zero] at e ⊢
    rw [e]
    rw [upd_self hm]
    exact q
  · obtain ⟨rn, rt, rg, rc⟩ := ready_nn ii
    have sm := ii.small
    refine read_loop ii (by omega) (by omega) rt fun ps s4 s5 s6 s7 ri => ?_
    unfold t_Incoming_read_233
    simp
    refine read_234 (by have := ii.rgC.len (lo := 0) (hi := 1000000) (fun x hx => by have := ii.cC x hx; have := ii.r0; have := ii.gt; omega) (by omega); simp only; omega) ?_
    have hcov : ∀ x, cov (clipR i.come (i.readU + min most (readyI i))) x ↔ cov i.come x ∧ i.readU + min most (readyI i) ≤ x := fun x => clipR_cov x
    refine k { i with readU := i.readU + min most (readyI i), come := clipR i.come (i.readU + min most (readyI i)), parts := ps } ?_ ?_ ?_ ?_ ?_ ?_ ?_ ?_ ?_ ?_ ?_ ?_
    rotate_left
    · rfl
    · rfl
    · rfl
    · rfl
    · rfl
    · rfl
    · show i.readU ≤ i.readU + min most (readyI i); omega
    · show i.readU + min most (readyI i) ≤ i.readU + most; omega
    · show i.readU + min most (readyI i) ≤ i.readU + readyI i; omega
    · exact hcov
    · intro hz
      have hz2 : min most (readyI i) = 0 := by omega
      rw [hz2] at ri ⊢
      rw [ri.no rfl, Int.add_zero, clipR_same (fun x hx => (ii.cC x hx).1) ii.rgC.2]
    refine ⟨ii.nb, ?_, ?_, ii.gt, ii.en, clipR_rg ii.rgC, fun x hx => ?_, ri.pw, ri.pn, fun x => ?_, sm⟩
    · have := ii.r0; show 0 ≤ i.readU + min most (readyI i); omega
    · show i.readU + min most (readyI i) ≤ i.greatest; omega
    · have := (hcov x).mp hx
      have := ii.cC x this.1
      show i.readU + min most (readyI i) ≤ x ∧ x < i.greatest
      omega
    · rw [ri.pc x]
      exact (hcov x).symm
end K23

namespace K23
open PySem L2 DL RG
theorem sat_draws (A : Ad) (ds : List Dt) (M : DM) (Q : DK) (E : Addr → Dt → DM → Prop) (h : sd__law_draws A ds M Q E) : d__law_draws A (WT E) (RT Q) (startD 1 ds) M := by
  obtain ⟨ns, rfl, k⟩ := h
  unfold d__law_draws
  have e4 := sz 4 (by omega)
  simp [e4]
  intro p hp
  exact qg (k p _ hp ⟨ns, 0, 0, 1, rfl, by omega, by omega, by omega, by omega⟩)
@[simp] theorem ixN_40 : ixN 4 (0 : Int) = some 0 := by decide
@[simp] theorem ixN_41 : ixN 4 (1 : Int) = some 1 := by decide
@[simp] theorem ixN_42 : ixN 4 (2 : Int) = some 2 := by decide
@[simp] theorem ixN_43 : ixN 4 (3 : Int) = some 3 := by decide
theorem cmul {i j : Int} (h1 : i.natAbs < 2 ^ 64) (h2 : j.natAbs < 2 ^ 64) : CMulW i j := wide_mul (a := 64) (b := 64) h1 h2 (by decide) (by decide) (by decide)
theorem cdiv {i j : Int} (h1 : 0 < j) (h2 : j.natAbs < 2 ^ 64) : CDivW i j := wide_div (b := 64) h1 h2 (by decide) (by decide)
theorem sat_draw (A : Ad) (ds : List Dt) (M : DM) (Q : DK) (E : Addr → Dt → DM → Prop) (h : sd__law_draw A ds M Q E) : d__law_draw A (WT E) (RT Q) (startD 4 ds) M := by
  obtain ⟨p, o, lim, rfl, hm, ⟨ns, i, v, s, rfl, hi, hv, hs, hs2⟩, h1, h2, k⟩ := h
  have hm' : M p = some (MO.lst [Dt.lst (nums ns), Dt.int i, Dt.int v, Dt.int s]) := hm
  unfold d__law_draw
  rw [← upd_self hm']
  have fin : ∀ (i v s : Int), 0 ≤ i → 0 ≤ v → 0 ≤ s → s < 2147483648 → (if 0 < v then 0 < lim ∧ CDivW v lim ∧ Qg Q (Dt.int (v % lim)) (updM M p (MO.lst [Dt.lst (nums ns), Dt.int i, Dt.int (v / lim), Dt.int s]))
      else CMulW s 69621 ∧ CDivW ((s * 69621 + 7) % 2147483629) 11 ∧ 0 < lim ∧ Qg Q (Dt.int ((s * 69621 + 7) % 2147483629 / 11 % lim)) (updM M p (MO.lst [Dt.lst (nums ns), Dt.int i, Dt.int v, Dt.int ((s * 69621 + 7) % 2147483629)]))) := by
    intro i v s hi hv hs hs2
    split
    · refine ⟨by omega, cdiv (by omega) (by omega), qg (k _ _ (Int.emod_nonneg _ (by omega)) (Int.emod_lt_of_pos _ (by omega)) ⟨ns, i, v / lim, s, rfl, hi, Int.ediv_nonneg hv (by omega), hs, hs2⟩)⟩
    · refine ⟨cmul (by omega) (by decide), cdiv (by decide) (by decide), by omega, qg (k _ _ (Int.emod_nonneg _ (by omega)) (Int.emod_lt_of_pos _ (by omega)) ⟨ns, i, v, _, rfl, hi, hv, by omega, by omega⟩)⟩
  simp
  split
  · split
    · rename_i c1 c2
      obtain ⟨c, hc⟩ : ∃ c : Int, atI (nums ns) i = some (.int c) := by
        have hn : i.toNat < ns.length := by omega
        refine ⟨ns[i.toNat], ?_⟩
        have e : (nums ns)[i.toNat]? = some (.int ns[i.toNat]) := by
          rw [List.getElem?_map, List.getElem?_eq_getElem hn]; rfl
        have z := atI_nat e
        rw [Int.toNat_of_nonneg hi] at z
        exact z
      have hp : CPow 10 18 := by unfold CPow; decide
      rw [hc]
      simp [hp]
      have em : ∀ x : Int, 0 ≤ x % 2147483647 ∧ x % 2147483647 < 2147483648 := fun x => by omega
      split
      · refine ⟨cmul (by omega) (by decide), ?_⟩
        exact fin _ _ _ (by omega) (by omega) (em _).1 (em _).2
      · refine ⟨cmul (by omega) (by decide), ?_⟩
        exact fin _ _ _ (by omega) (by omega) (em _).1 (em _).2
    · exact fin _ _ _ hi hv hs hs2
  · exact fin _ _ _ hi hv hs hs2
end K23

namespace K23
open PySem L2 DL RG
@[simp] theorem kit_NoneType_bool : kitB "NoneType" "bool" = some false := by decide +kernel
@[simp] theorem kit_NoneType_int : kitB "NoneType" "int" = some false := by decide +kernel
@[simp] theorem kit_NoneType_str : kitB "NoneType" "str" = some false := by decide +kernel
@[simp] theorem kit_NoneType_list : kitB "NoneType" "list" = some false := by decide +kernel
@[simp] theorem kit_NoneType_tuple : kitB "NoneType" "tuple" = some false := by decide +kernel
@[simp] theorem kit_NoneType_dict : kitB "NoneType" "dict" = some false := by decide +kernel
@[simp] theorem kit_bool_bool : kitB "bool" "bool" = some true := by decide +kernel
@[simp] theorem kit_bool_int : kitB "bool" "int" = some true := by decide +kernel
@[simp] theorem kit_bool_str : kitB "bool" "str" = some false := by decide +kernel
@[simp] theorem kit_bool_list : kitB "bool" "list" = some false := by decide +kernel
@[simp] theorem kit_bool_tuple : kitB "bool" "tuple" = some false := by decide +kernel
@[simp] theorem kit_bool_dict : kitB "bool" "dict" = some false := by decide +kernel
@[simp] theorem kit_int_str : kitB "int" "str" = some false := by decide +kernel
@[simp] theorem kit_int_list : kitB "int" "list" = some false := by decide +kernel
@[simp] theorem kit_int_tuple : kitB "int" "tuple" = some false := by decide +kernel
@[simp] theorem kit_int_dict : kitB "int" "dict" = some false := by decide +kernel
@[simp] theorem kit_str_bool : kitB "str" "bool" = some false := by decide +kernel
@[simp] theorem kit_str_int : kitB "str" "int" = some false := by decide +kernel
@[simp] theorem kit_str_str : kitB "str" "str" = some true := by decide +kernel
@[simp] theorem kit_str_list : kitB "str" "list" = some false := by decide +kernel
@[simp] theorem kit_str_tuple : kitB "str" "tuple" = some false := by decide +kernel
@[simp] theorem kit_str_dict : kitB "str" "dict" = some false := by decide +kernel
@[simp] theorem kit_list_bool : kitB "list" "bool" = some false := by decide +kernel
@[simp] theorem kit_list_int : kitB "list" "int" = some false := by decide +kernel
@[simp] theorem kit_list_str : kitB "list" "str" = some false := by decide +kernel
@[simp] theorem kit_list_list : kitB "list" "list" = some true := by decide +kernel
@[simp] theorem kit_list_tuple : kitB "list" "tuple" = some false := by decide +kernel
@[simp] theorem kit_list_dict : kitB "list" "dict" = some false := by decide +kernel
@[simp] theorem kit_tuple_bool : kitB "tuple" "bool" = some false := by decide +kernel
@[simp] theorem kit_tuple_int : kitB "tuple" "int" = some false := by decide +kernel
@[simp] theorem kit_tuple_str : kitB "tuple" "str" = some false := by decide +kernel
@[simp] theorem kit_tuple_list : kitB "tuple" "list" = some false := by decide +kernel
@[simp] theorem kit_tuple_tuple : kitB "tuple" "tuple" = some true := by decide +kernel
@[simp] theorem kit_tuple_dict : kitB "tuple" "dict" = some false := by decide +kernel

def prevC : Nat → DSp
  | 0 => fun _ _ _ _ => False
  | n + 1 => sdN__law_copy n
theorem plain_mem {n : Nat} : ∀ {ds : List Dt}, plainDs n ds → ∀ d ∈ ds, plainD n d
  | [], _, d, h => by cases h
  | e :: ds, hp, d, h => by
    rw [plainDs] at hp
    rcases List.mem_cons.mp h with z | z
    · rw [z]; exact hp.1
    · exact plain_mem hp.2 d z
theorem filterMap_id (ds : List Dt) : ds.filterMap some = ds := by simp
theorem sat_copy (A : Ad) (n : Nat) (ds : List Dt) (M : DM) (Q : DK) (E : Addr → Dt → DM → Prop) (h : sdN__law_copy n ds M Q E) : d__law_copy A (prevC n) (WT E) (RT Q) (startD 4 ds) M := by
  obtain ⟨d, rfl, hp, q⟩ := h
  cases d with
  | non => unfold d__law_copy; simp; exact qg q
  | bl b => unfold d__law_copy; simp; exact qg q
  | int b => unfold d__law_copy; simp; exact qg q
  | str b => unfold d__law_copy; simp; exact qg q
  | ref a => exact (by cases n <;> simpa [plainD] using hp : False).elim
  | ty a => exact (by cases n <;> simpa [plainD] using hp : False).elim
  | src a => exact (by cases n <;> simpa [plainD] using hp : False).elim
  | lst xs =>
    cases n with
    | zero => exact (by simpa [plainD] using hp : False).elim
    | succ n =>
      rw [plainD] at hp
      unfold d__law_copy
      simp [dLc]
      intro p hpn
      refine walkC_pure some hpn _ [] (by simp; omega) ?_ ?_
      · intro d hd acc' N Wk ha hw
        have z : acc'.length < sizeLine := Nat.lt_of_lt_of_le ha sizeLine_big
        simp [prevC]
        exact ⟨d, rfl, plain_mem hp.1 d hd, by simp [z]; simpa using hw⟩
      · simp
        exact qg q
  | tup xs =>
    cases n with
    | zero => exact (by simpa [plainD] using hp : False).elim
    | succ n =>
      rw [plainD] at hp
      unfold d__law_copy
      simp [dLc]
      intro p hpn
      refine walkC_pure some hpn _ [] (by simp; omega) ?_ ?_
      · intro d hd acc' N Wk ha hw
        have z : acc'.length < sizeLine := Nat.lt_of_lt_of_le ha sizeLine_big
        simp [prevC]
        exact ⟨d, rfl, plain_mem hp.1 d hd, by simp [z]; simpa using hw⟩
      · simp
        exact qg q
def prevS : Nat → DSp
  | 0 => fun _ _ _ _ => False
  | n + 1 => sdN__law_same n
theorem same_seq {A : Ad} {n : Nat} {w : WD} {Q : DK} {M : DM} {d : Dt} {xs : List Dt} {s3 : Option Dt} (hd : d = .lst xs ∨ d = .tup xs) (hp : plainDs n xs) (hl : xs.length ≤ 1000) (q : Q (.bl true) M) :
    dRet (dAndV (dVar 2) (dAndV (dOp (dEq false) (dCB bLen (dCons (dVar 0) dNil)) (dCB bLen (dCons (dVar 1) dNil))) (dCB (bQuant fun bs => bs.all id) (dCons (dLc (iR1 (dCons (dCB bLen (dCons (dVar 1) dNil)) dNil)) (dgName 4) dYes (dCall w0 (prevS (n + 1)) (dCons (dOp dIx (dVar 0) (dVar 4)) (dCons (dOp dIx (dVar 1) (dVar 4)) dNil))) [4]) dNil)))) (RT Q) [some d, some d, some (.bl true), s3, none] M := by
  rcases hd with rfl | rfl
  · simp [dLc]
    refine ⟨by omega, fun p hpn => ?_⟩
    refine walkC_pure (fun _ => some (.bl true)) hpn _ [] (by rw [rngD_len]; simp; omega) ?_ ?_
    · intro d hd acc' N Wk ha hw
      have z : acc'.length < sizeLine := Nat.lt_of_lt_of_le ha sizeLine_big
      obtain ⟨k, hk, rfl⟩ := List.mem_map.mp hd
      have hk' : k < xs.length := by simpa using hk
      have e : atI xs (0 + (k : Int)) = some xs[k] := by
        rw [Int.zero_add]
        exact atI_nat (List.getElem?_eq_getElem hk')
      have e' : atI xs (k : Int) = some xs[k] := atI_nat (List.getElem?_eq_getElem hk')
      simp [e, e', prevS]
      exact ⟨xs[k], rfl, plain_mem hp _ (List.getElem_mem hk'), by simp [z]; simpa using hw⟩
    · simp [bQuant]
      refine ⟨List.replicate xs.length true, ?_, ?_⟩
      · apply List.ext_getElem?
        intro j
        simp [rngD, List.getElem?_replicate]
        split <;> simp_all
      · have : (List.replicate xs.length true).all id = true := by simp
        rw [this]
        exact qg q
  · simp [dLc]
    refine ⟨by omega, fun p hpn => ?_⟩
    refine walkC_pure (fun _ => some (.bl true)) hpn _ [] (by rw [rngD_len]; simp; omega) ?_ ?_
    · intro d hd acc' N Wk ha hw
      have z : acc'.length < sizeLine := Nat.lt_of_lt_of_le ha sizeLine_big
      obtain ⟨k, hk, rfl⟩ := List.mem_map.mp hd
      have hk' : k < xs.length := by simpa using hk
      have e' : atI xs (k : Int) = some xs[k] := atI_nat (List.getElem?_eq_getElem hk')
      simp [e', prevS]
      exact ⟨xs[k], rfl, plain_mem hp _ (List.getElem_mem hk'), by simp [z]; simpa using hw⟩
    · simp [bQuant]
      refine ⟨List.replicate xs.length true, ?_, ?_⟩
      · apply List.ext_getElem?
        intro j
        simp [rngD, List.getElem?_replicate]
        split <;> simp_all
      · have : (List.replicate xs.length true).all id = true := by simp
        rw [this]
        exact qg q
theorem sat_same (A : Ad) (n : Nat) (ds : List Dt) (M : DM) (Q : DK) (E : Addr → Dt → DM → Prop) (h : sdN__law_same n ds M Q E) : d__law_same A (prevS n) (WT E) (RT Q) (startD 5 ds) M := by
  obtain ⟨d, rfl, hp, q⟩ := h
  unfold d__law_same
  cases d with
  | non => simp; exact qg q
  | bl b => simp; exact qg q
  | int b => simp; exact qg q
  | str b => simp; exact qg q
  | ref a => exact (by cases n <;> simpa [plainD] using hp : False).elim
  | ty a => exact (by cases n <;> simpa [plainD] using hp : False).elim
  | src a => exact (by cases n <;> simpa [plainD] using hp : False).elim
  | lst xs =>
    cases n with
    | zero => exact (by simpa [plainD] using hp : False).elim
    | succ n =>
      rw [plainD] at hp
      have z := same_seq (A := A) (w := WT E) (Q := Q) (M := M) (s3 := none) (.inl rfl) hp.1 hp.2 q
      simp at z ⊢
      exact z
  | tup xs =>
    cases n with
    | zero => exact (by simpa [plainD] using hp : False).elim
    | succ n =>
      rw [plainD] at hp
      have z := same_seq (A := A) (w := WT E) (Q := Q) (M := M) (s3 := none) (.inr rfl) hp.1 hp.2 q
      simp at z ⊢
      exact z
end K23

namespace K23
open PySem L2 DL RG
theorem s_wf : (("write" : Str) = ("finish" : Str)) = False := by simp (decide := true)
theorem s_fw : (("finish" : Str) = ("write" : Str)) = False := by simp (decide := true)
theorem s_bw : (("breaks" : Str) = ("write" : Str)) = False := by simp (decide := true)
theorem s_bf : (("breaks" : Str) = ("finish" : Str)) = False := by simp (decide := true)
theorem sat_refused (A : Ad) (ds : List Dt) (M : DM) (Q : DK) (E : Addr → Dt → DM → Prop) (h : sd__law_refused A ds M Q E) : d__law_refused A (WT E) (RT Q) (startD 3 ds) M := by
  obtain ⟨a, dx, o, wd, rfl, hm, h⟩ := h
  have e1 := sz 1 (by omega)
  have e2 := sz 2 (by omega)
  unfold d__law_refused
  rw [← upd_self hm]
  rcases h with ⟨hb, hw, hk, q⟩ | ⟨hb, rfl, q1, q2⟩
  · have fin : wTry A.c_DeedWrong 2 ("deed" : Str) (RT Q).rt A.c_DeedWrong (.str "broken") (startD 3 [.ref a, .str wd]) (updM M a (outM A dx o)) := ⟨rfl, Nat.lt_of_sub_ne_zero (by simp), e2, qs hm q⟩
    rcases hw with rfl | rfl | rfl
    · simp [e1]
      exact ⟨a, dx, o, [1], rfl, updM_same, hk, fun _ => fin, fun z => absurd z hb⟩
    · simp [s_fw]
      exact ⟨a, dx, o, rfl, updM_same, fun _ => fin, fun z => absurd z hb⟩
    · simp [s_bw, s_bf]
      exact ⟨a, dx, o, rfl, updM_same, fun _ => fin, fun z => absurd z hb, fun z => absurd z hb⟩
  · simp [s_bw, s_bf]
    refine ⟨a, dx, o, rfl, updM_same, fun z => absurd hb z, fun _ hd => ?_, fun _ hd => ?_⟩
    · exact ⟨rfl, Nat.lt_of_sub_ne_zero (by simp), e2, qs hm (q1 hd)⟩
    · simp [e2]
      exact qg (q2 hd)
theorem toPy_deed : toPy (.tup [.str "deed", .str "broken"]) = some (.tuple [.str "deed", .str "broken"]) := rfl
theorem sat_broken (A : Ad) (ds : List Dt) (M : DM) (Q : DK) (E : Addr → Dt → DM → Prop) (h : sd__law_broken A ds M Q E) : d__law_broken A (WT E) (RT Q) (startD 5 ds) M := by
  obtain ⟨dr, a, dx, o, rfl, hm, hb, hk, q⟩ := h
  have e1 := sz 1 (by omega)
  have e2 := sz 2 (by omega)
  have e3 := sz 3 (by omega)
  unfold d__law_broken
  rw [← upd_self hm]
  simp (implicitDefEqProofs := false) [dLc, e3]
  intro p hp
  have hne : a ≠ p := fun e => by subst e; rw [updM_same] at hp; cases hp
  refine walkC_pure (fun _ => some (.tup [.str "deed", .str "broken"])) hp _ [] (by simp) ?_ ?_
  · intro d hd acc' N Wk ha hw
    have z : acc'.length < sizeLine := Nat.lt_of_lt_of_le ha sizeLine_big
    have hm2 : updM (updM M a (outM A dx o)) p (.lst acc') a = some (outM A dx o) := by rw [updM_ne hne, updM_same]
    have fin : ∀ wd : Str, (wd = "write" ∨ wd = "finish" ∨ wd = "breaks") → ∀ E', sd__law_refused A [.ref a, .str wd] (updM (updM M a (outM A dx o)) p (.lst acc')) (kC3 p Wk) E' := fun wd hwd E' =>
      ⟨a, dx, o, wd, rfl, hm2, .inl ⟨by rw [hb]; decide, hwd, by rw [hk]; decide, by simp [z]; simpa using hw⟩⟩
    simp at hd
    rcases hd with rfl | rfl | rfl
    · simp
      exact fin _ (.inl rfl) _
    · simp
      exact fin _ (.inr (.inl rfl)) _
    · simp
      exact fin _ (.inr (.inr rfl)) _
  · simp (implicitDefEqProofs := false) [e1, e2]
    refine ⟨e3, _, _, rfl, rfl, by decide +kernel, by decide +kernel, ?_⟩
    rw [SeqAt.eqv_refl _ (by decide +kernel)]
    simp (implicitDefEqProofs := false)
    refine ⟨a, dx, o, rfl, updM_same, ?_⟩
    simp (implicitDefEqProofs := false) [hk]
    refine ⟨a, dx, o, rfl, updM_same, ?_⟩
    have hd : doneB o = false := by unfold doneB; rw [hb]; rfl
    simp (implicitDefEqProofs := false) [hd]
    refine ⟨a, dx, o, 0, rfl, updM_same, by rw [hb]; decide, ?_⟩
    have hp10 : CPow 10 6 := by unfold CPow; decide
    simp (implicitDefEqProofs := false) [hb, hp10]
    refine ⟨a, dx, o, [], -1, 1000000, rfl, updM_same, .inl ⟨by omega, ?_⟩⟩
    simp (implicitDefEqProofs := false)
    exact qs hm q
end K23

namespace K23
open PySem L2 DL RG
/-! ### the law, plainly -/
def bkD : Option Int → Dt
  | none => .non
  | some b => .int b
def SoP (text : List Int) (o : Out) : Option Int → Prop
  | none => OI text o
  | some b => o.brk ≠ .no ∧ o.kept = [] ∧ o.base = b ∧ o.stream = 4
structure WI (text : List Int) (fin : Bool) (room : Int) (o : Out) (i : Inc) (n : Int) (bk : Option Int) : Prop where
  so : SoP text o bk
  fin : o.fin = fin
  tl : text.length ≤ 90
  s0 : 0 ≤ o.sent
  sl : o.sent ≤ text.length
  up : o.sent ≤ i.upto
  ur : i.brkn = false → i.upto ≤ i.readU + i.room
  ub : i.upto ≤ 10000
  rm : i.room = room
  r0 : 1 ≤ room
  r1 : room ≤ 5000
  si : (i.brkn = false ∧ II text i ∧ i.readU = n ∧ i.greatest ≤ o.sent ∧ (i.en ≠ none → o.sent = text.length)) ∨
    (i.brkn = true ∧ i.come = [] ∧ i.parts = [] ∧ i.greatest = o.sent ∧ i.readU = o.sent ∧ i.en = some o.sent ∧ i.skipped + n = o.sent ∧ bk.isSome = true)
  n0 : 0 ≤ n
  n1 : n ≤ text.length
  gw : o.brk = .got → wholeB i = true
def VP (text : List Int) (fin : Bool) (sent : Int) (bk : Option Int) (d : Dt) : Prop := (∃ lo os fl, d = dataP lo os fl ∧ DP text fin sent lo os fl) ∨ (d = brkP sent ∧ bk.isSome = true)
theorem DP.mono {text : List Int} {fin : Bool} {s s' lo : Int} {os : List Int} {fl : Bool} (h : DP text fin s lo os fl) (hs : s ≤ s') : DP text fin s' lo os fl := ⟨h.lo0, by have := h.hi; omega, h.eo, h.fl⟩
theorem VP.up {text : List Int} {fin : Bool} {s s' : Int} {d : Dt} (h : VP text fin s none d) (hs : s ≤ s') (bk : Option Int) : VP text fin s' bk d := by
  rcases h with ⟨lo, os, fl, e, dp⟩ | ⟨_, h⟩
  · exact .inl ⟨lo, os, fl, e, dp.mono hs⟩
  · cases h
/-- all is there -/
def Wh (text : List Int) (i : Inc) : Prop := i.en = some (text.length : Int) ∧ ∀ x, i.readU ≤ x → x < text.length → cov i.come x
theorem whole_iff {text : List Int} {i : Inc} (ii : II text i) : wholeB i = true ↔ Wh text i := by
  obtain ⟨h1, h2, h3, h4⟩ := ready_nn ii
  have gt := ii.gt
  have rg := ii.rg
  unfold wholeB Wh
  rw [ii.nb, Bool.false_or, decide_eq_true_eq]
  constructor
  · intro e
    rcases ii.en with z | z
    · rw [e] at z; cases z
    · rw [e] at z
      have z : i.readU + readyI i = text.length := by simpa using z
      refine ⟨by rw [e, z], fun x hx hx2 => h4 (by omega) x hx (by omega)⟩
  · rintro ⟨e, hc⟩
    rw [e]
    congr 1
    by_cases c : i.readU < text.length
    · have hr := hc i.readU (Int.le_refl _) c
      unfold readyI at h1 h2 h3 h4 ⊢
      cases hcm : i.come with
      | nil => rw [hcm] at hr; exact (cov_nil _ hr).elim
      | cons r rs =>
        have rgC := ii.rgC
        rw [hcm] at hr rgC
        have hh := rgC.head
        have hr1 : i.readU ≤ r.1 := (ii.cC r.1 (by rw [hcm]; exact cov_cons.mpr (.inl ⟨Int.le_refl _, hh.1⟩))).1
        have hr2 := (ii.cC r.2 (by rw [hcm]; exact cov_cons.mpr (.inl ⟨hh.1, Int.le_refl _⟩))).2
        have e1 : r.1 = i.readU := by
          rcases cov_cons.mp hr with q | q
          · omega
          · have := hh.2 _ q; omega
        simp only
        rw [if_pos e1]
        by_cases c2 : r.2 + 1 < text.length
        · have := hc (r.2 + 1) (by omega) c2
          rw [hcm] at this
          rcases cov_cons.mp this with q | q
          · omega
          · have := hh.2 _ q; omega
        · omega
    · omega
theorem wi_broken {text : List Int} {fin : Bool} {room : Int} {o : Out} {i : Inc} {n : Int} {bk : Option Int} (h : WI text fin room o i n bk) (hb : i.brkn = true) : i.come = [] ∧ i.parts = [] ∧ i.greatest = o.sent ∧ i.readU = o.sent ∧ i.en = some o.sent ∧ i.skipped + n = o.sent ∧ bk.isSome = true := by
  rcases h.si with ⟨z, _⟩ | ⟨_, z⟩
  · rw [hb] at z; cases z
  · exact z
theorem wi_not {text : List Int} {fin : Bool} {room : Int} {o : Out} {i : Inc} {n : Int} {bk : Option Int} (h : WI text fin room o i n bk) (hb : i.brkn = false) : II text i ∧ i.readU = n ∧ i.greatest ≤ o.sent ∧ (i.en ≠ none → o.sent = text.length) := by
  rcases h.si with ⟨_, z⟩ | ⟨z, _⟩
  · exact z
  · rw [hb] at z; cases z
/-- no right piece is refused -/
theorem wi_fitsD {text : List Int} {fin : Bool} {room : Int} {o : Out} {i : Inc} {n : Int} {bk : Option Int} {lo : Int} {os : List Int} {fl : Bool} (h : WI text fin room o i n bk) (dp : DP text fin o.sent lo os fl) : fitsD i lo os fl := by
  have up := h.up
  have hi := dp.hi
  have sl := h.sl
  unfold fitsD
  cases hb : i.brkn
  · obtain ⟨ii, h1, h2, h3⟩ := wi_not h hb
    refine ⟨by omega, fun hf => ?_, fun e he => ?_⟩
    · have := (dp.fl hf).2
      refine ⟨by omega, ?_⟩
      rcases ii.en with z | z
      · exact .inl z
      · right; rw [z, this]
    · rcases ii.en with z | z
      · rw [he] at z; cases z
      · rw [he] at z
        have z : e = text.length := by simpa using z
        omega
  · obtain ⟨h1, h2, h3, h4, h5, h6, h7⟩ := wi_broken h hb
    refine ⟨by omega, fun hf => ?_, fun e he => ?_⟩
    · have := (dp.fl hf).2
      refine ⟨by omega, .inr ?_⟩
      rw [h5]
      congr 1
      omega
    · rw [h5] at he
      have : o.sent = e := by simpa using he
      omega
theorem wi_fitsB {text : List Int} {fin : Bool} {room : Int} {o : Out} {i : Inc} {n : Int} {bk : Option Int} (h : WI text fin room o i n bk) : fitsB i o.sent := by
  have up := h.up
  unfold fitsB
  cases hb : i.brkn
  · obtain ⟨ii, h1, h2, h3⟩ := wi_not h hb
    refine ⟨by omega, by omega, ?_⟩
    rcases ii.en with z | z
    · exact .inl z
    · right
      rw [z, h3 (by rw [z]; simp)]
  · obtain ⟨h1, h2, h3, h4, h5, h6, h7⟩ := wi_broken h hb
    exact ⟨by omega, by omega, .inr h5⟩
/-- a piece of octets is taken in -/
theorem wi_took {text : List Int} {fin : Bool} {room : Int} {o : Out} {i i' : Inc} {n : Int} {bk : Option Int} {lo : Int} {os : List Int} {fl : Bool} (h : WI text fin room o i n bk) (hb : i.brkn = false) (dp : DP text fin o.sent lo os fl)
    (ii' : II text i') (e2 : i'.room = i.room) (e3 : i'.upto = i.upto) (e4 : i'.readU = i.readU) (e6 : i'.greatest = max i.greatest (lo + os.length)) (e7 : i'.en = (if fl = true then some (lo + os.length : Int) else i.en)) (e8 : ∀ x, cov i.come x → cov i'.come x) :
    WI text fin room o i' n bk ∧ (wholeB i = true → wholeB i' = true) := by
  obtain ⟨ii, h1, h2, h3⟩ := wi_not h hb
  have hi := dp.hi
  have sl := h.sl
  have hw : wholeB i = true → wholeB i' = true := fun z => by
    rw [whole_iff ii'] 
    obtain ⟨z1, z2⟩ := (whole_iff ii).mp z
    refine ⟨?_, fun x hx hx2 => e8 x (z2 x (by rw [e4] at hx; exact hx) hx2)⟩
    rw [e7]
    split
    · rename_i hf
      rw [(dp.fl hf).2]
    · exact z1
  refine ⟨⟨h.so, h.fin, h.tl, h.s0, h.sl, by rw [e3]; exact h.up, fun _ => by rw [e3, e4, e2]; exact h.ur hb, by rw [e3]; exact h.ub, by rw [e2]; exact h.rm, h.r0, h.r1, .inl ⟨ii'.nb, ii', by rw [e4]; exact h1, by rw [e6]; omega, fun z => ?_⟩, h.n0, h.n1, fun z => hw (h.gw z)⟩, hw⟩
  rw [e7] at z
  split at z
  · rename_i hf
    have := (dp.fl hf).2
    omega
  · exact h3 z
/-- the break is taken in -/
theorem wi_brokeI {text : List Int} {fin : Bool} {room : Int} {o : Out} {i : Inc} {n : Int} {bk : Option Int} (h : WI text fin room o i n bk) (hb : i.brkn = false) (hk : bk.isSome = true) : WI text fin room o (brokenI i o.sent) n bk ∧ (brokenI i o.sent).skipped + n = o.sent := by
  obtain ⟨ii, h1, h2, h3⟩ := wi_not h hb
  have e : (brokenI i o.sent).skipped + n = o.sent := by show o.sent - i.readU + n = o.sent; omega
  exact ⟨⟨h.so, h.fin, h.tl, h.s0, h.sl, h.up, fun z => Bool.noConfusion z, h.ub, h.rm, h.r0, h.r1, .inr ⟨rfl, rfl, rfl, rfl, rfl, rfl, e, hk⟩, h.n0, h.n1, fun _ => rfl⟩, e⟩
/-- octets are read -/
theorem wi_read {text : List Int} {fin : Bool} {room : Int} {o : Out} {i i' : Inc} {n : Int} {bk : Option Int} (h : WI text fin room o i n bk) (hb : i.brkn = false)
    (ii' : II text i') (e2 : i'.room = i.room) (e3 : i'.upto = i.upto) (e6 : i'.greatest = i.greatest) (e7 : i'.en = i.en) (e4 : i.readU ≤ i'.readU) (e8 : ∀ x, cov i'.come x ↔ cov i.come x ∧ i'.readU ≤ x) :
    WI text fin room o i' i'.readU bk ∧ (wholeB i = true → wholeB i' = true) := by
  obtain ⟨ii, h1, h2, h3⟩ := wi_not h hb
  have hw : wholeB i = true → wholeB i' = true := fun z => by
    rw [whole_iff ii']
    obtain ⟨z1, z2⟩ := (whole_iff ii).mp z
    exact ⟨by rw [e7]; exact z1, fun x hx hx2 => (e8 x).mpr ⟨z2 x (by omega) hx2, hx⟩⟩
  have ur := h.ur hb
  refine ⟨⟨h.so, h.fin, h.tl, h.s0, h.sl, by rw [e3]; exact h.up, fun _ => by rw [e3, e2]; omega, by rw [e3]; exact h.ub, by rw [e2]; exact h.rm, h.r0, h.r1, .inl ⟨ii'.nb, ii', rfl, by rw [e6]; exact h2, fun z => h3 (by rw [e7] at z; exact z)⟩, ii'.r0, ?_, fun z => hw (h.gw z)⟩, hw⟩
  have := ii'.rg
  have := ii'.gt
  omega
end K23

namespace K23
open PySem L2 DL RG
/-! ### the law's store -/
structure ST (A : Ad) (p a b : Addr) (M : DM) (o : Out) (i : Inc) : Prop where
  pa : p ≠ a
  pb : p ≠ b
  ab : a ≠ b
  dr : ∃ od, M p = some od ∧ DrV od
  ou : ∃ dx, M a = some (outM A dx o)
  ic : ∃ dx, M b = some (incM A dx i)
section
variable {A : Ad} {p a b : Addr} {M : DM} {o o' : Out} {i i' : Inc}
theorem ST.out (h : ST A p a b M o i) {dx : Addr} : ST A p a b (updM M a (outM A dx o')) o' i :=
  ⟨h.pa, h.pb, h.ab, by rw [updM_ne h.pa]; exact h.dr, ⟨dx, updM_same⟩, by rw [updM_ne (Ne.symm h.ab)]; exact h.ic⟩
theorem ST.inc (h : ST A p a b M o i) {dx : Addr} : ST A p a b (updM M b (incM A dx i')) o i' :=
  ⟨h.pa, h.pb, h.ab, by rw [updM_ne h.pb]; exact h.dr, by rw [updM_ne h.ab]; exact h.ou, ⟨dx, updM_same⟩⟩
theorem ST.drw (h : ST A p a b M o i) {od : MO} (hd : DrV od) : ST A p a b (updM M p od) o i :=
  ⟨h.pa, h.pb, h.ab, ⟨od, updM_same, hd⟩, by rw [updM_ne (Ne.symm h.pa)]; exact h.ou, by rw [updM_ne (Ne.symm h.pb)]; exact h.ic⟩
theorem ST.off (h : ST A p a b M o i) {q : Addr} {x : MO} (h1 : q ≠ p) (h2 : q ≠ a) (h3 : q ≠ b) : ST A p a b (updM M q x) o i :=
  ⟨h.pa, h.pb, h.ab, by rw [updM_ne (Ne.symm h1)]; exact h.dr, by rw [updM_ne (Ne.symm h2)]; exact h.ou, by rw [updM_ne (Ne.symm h3)]; exact h.ic⟩
theorem ST.del (h : ST A p a b M o i) {q : Addr} (h1 : q ≠ p) (h2 : q ≠ a) (h3 : q ≠ b) : ST A p a b (delM M q) o i := by
  have e : ∀ c, c ≠ q → delM M q c = M c := fun c hc => by unfold delM; rw [if_neg hc]
  exact ⟨h.pa, h.pb, h.ab, by rw [e _ (Ne.symm h1)]; exact h.dr, by rw [e _ (Ne.symm h2)]; exact h.ou, by rw [e _ (Ne.symm h3)]; exact h.ic⟩
theorem ST.new (h : ST A p a b M o i) {q : Addr} (hq : M q = none) : q ≠ p ∧ q ≠ a ∧ q ≠ b := by
  obtain ⟨od, h1, _⟩ := h.dr
  obtain ⟨dx, h2⟩ := h.ou
  obtain ⟨dy, h3⟩ := h.ic
  exact ⟨fun e => (by rw [e, h1] at hq; cases hq), fun e => (by rw [e, h2] at hq; cases hq), fun e => (by rw [e, h3] at hq; cases hq)⟩
end
/-! fields, where the object stands -/
section
variable {A : Ad} {M : DM} {c dx : Addr} {o : Out} {i : Inc} {Q : DK}
theorem fo_base (h : M c = some (outM A dx o)) : kFld ("base" : Str) Q (.ref c) M = Q (.int o.base) M := by show fldO _ _ _ (M c) = _; rw [h]; rfl
theorem fo_sent (h : M c = some (outM A dx o)) : kFld ("sent" : Str) Q (.ref c) M = Q (.int o.sent) M := by show fldO _ _ _ (M c) = _; rw [h]; rfl
theorem fi_upto (h : M c = some (incM A dx i)) : kFld ("upto" : Str) Q (.ref c) M = Q (.int i.upto) M := by show fldO _ _ _ (M c) = _; rw [h]; rfl
theorem fi_brkn (h : M c = some (incM A dx i)) : kFld ("is_broken" : Str) Q (.ref c) M = Q (.bl i.brkn) M := by show fldO _ _ _ (M c) = _; rw [h]; rfl
theorem fi_skip (h : M c = some (incM A dx i)) : kFld ("skipped" : Str) Q (.ref c) M = Q (.int i.skipped) M := by show fldO _ _ _ (M c) = _; rw [h]; rfl
theorem mo (h : M c = some (outM A dx o)) {m : Str} {N : Addr → DM → Prop} (hm : (outF o).lookup m = none) : kMeth A.c_Outgoing m N (.ref c) M = N c M := by
  show methO _ _ _ _ (M c) = _
  rw [h]
  exact propext ⟨fun z => z.2.2, fun z => ⟨rfl, hm, z⟩⟩
theorem mi (h : M c = some (incM A dx i)) {m : Str} {N : Addr → DM → Prop} (hm : (incF i).lookup m = none) : kMeth A.c_Incoming m N (.ref c) M = N c M := by
  show methO _ _ _ _ (M c) = _
  rw [h]
  exact propext ⟨fun z => z.2.2, fun z => ⟨rfl, hm, z⟩⟩
end
structure LC where
  src : List Int
  p : Addr
  a : Addr
  b : Addr
  text : List Int
  room : Int
  size : Int
  breaking : Int
abbrev lsl (c : LC) (rd : Dt) (s9 : Option Dt) (far : Int) (bk : Option Int) (ac : Bool) (s13 s14 s15 s16 s17 s18 s19 s20 : Option Dt) : DS :=
  [some (.src c.src), some (.ref c.p), some (.lst (nums c.text)), some (.int c.room), some (.int c.size), some (.int c.breaking), some (.ref c.a), some (.ref c.b), some rd, s9, some (.int far), some (bkD bk), some (.bl ac), s13, s14, s15, s16, s17, s18, s19, s20]
theorem plain_ints (n : Nat) : ∀ ns : List Int, plainDs n (nums ns)
  | [] => by show plainDs n []; rw [plainDs]; trivial
  | k :: ns => by show plainDs n (.int k :: nums ns); rw [plainDs]; exact ⟨by rw [plainD]; trivial, plain_ints n ns⟩
theorem vp_plain {text : List Int} {fin : Bool} {sent : Int} {bk : Option Int} {d : Dt} (ht : text.length ≤ 90) (hs : sent ≤ text.length) (h : VP text fin sent bk d) : plainD 4 d := by
  rcases h with ⟨lo, os, fl, rfl, dp⟩ | ⟨rfl, _⟩
  · have hl : os.length ≤ 1000 := by have := dp.hi; have := dp.lo0; omega
    unfold dataP
    simp [plainD, plainDs, plain_ints, hl]
  · unfold brkP
    simp [plainD, plainDs]
theorem wi_out {text : List Int} {fin : Bool} {room : Int} {o o' : Out} {i : Inc} {n : Int} {bk : Option Int} (h : WI text fin room o i n bk) (hso : SoP text o' bk) (hf : o'.fin = o.fin) (hs : o'.sent = o.sent) (hg : o'.brk = .got → wholeB i = true) : WI text fin room o' i n bk :=
  ⟨hso, hf.trans h.fin, h.tl, by rw [hs]; exact h.s0, by rw [hs]; exact h.sl, by rw [hs]; exact h.up, h.ur, h.ub, h.rm, h.r0, h.r1, by rw [hs]; exact h.si, h.n0, h.n1, hg⟩
theorem brkP_inj {m n : Int} (h : brkP m = brkP n) : m = n := by unfold brkP at h; simpa using h
theorem data_ne_brk {lo : Int} {os : List Int} {fl : Bool} {m : Int} : dataP lo os fl ≠ brkP m := by unfold dataP brkP; simp
/-- t_law_350: got, or it stays in the air -/
theorem law_350 {A : Ad} {w : WD} {D : DEnds} {c : LC} {M : DM} {o : Out} {i : Inc} {rd : Dt} {n : Int} {fin : Bool} {bk : Option Int} {ac : Bool} {kind : Int} {d : Dt} {r : Addr} {rs : List Dt} {s9 s13 s17 s18 s19 s20 : Option Dt}
    (st : ST A c.p c.a c.b M o i) (wi : WI c.text fin c.room o i n bk) (hv : VP c.text fin o.sent bk d) (hw : ∀ m, d = brkP m → wholeB i = true) (hr : M r = some (.lst rs)) (r1 : r ≠ c.p) (r2 : r ≠ c.a) (r3 : r ≠ c.b) (hrl : rs.length ≤ 1000)
    (h1 : kind < 2 → ∀ M' o', ST A c.p c.a c.b M' o' i → M' r = some (.lst rs) → WI c.text fin c.room o' i n bk → o'.sent = o.sent → (o'.brk = .flying → o.brk = .flying ∧ d ≠ brkP o.sent) → (o.brk ≠ .due → o'.brk ≠ .due) → D.nx (lsl c rd s9 o.sent bk ac s13 (some d) (some (.ref r)) (some (.int kind)) s17 s18 s19 s20) M')
    (h2 : ¬ kind < 2 → ∀ M', ST A c.p c.a c.b M' o i → M' r = some (.lst (rs ++ [d])) → D.nx (lsl c rd s9 o.sent bk ac s13 (some d) (some (.ref r)) (some (.int kind)) s17 s18 s19 s20) M') :
    t_law_350 A w D (lsl c rd s9 o.sent bk ac s13 (some d) (some (.ref r)) (some (.int kind)) s17 s18 s19 s20) M := by
  obtain ⟨dx, ha⟩ := st.ou
  unfold t_law_350
  simp (implicitDefEqProofs := false)
  split
  · rename_i hk
    have h1' := h1 hk
    rw [mo ha rfl]
    simp (implicitDefEqProofs := false)
    refine ⟨c.a, dx, o, d, rfl, ha, ?_⟩
    have hr' : ∀ o', updM M c.a (outM A dx o') r = some (.lst rs) := fun o' => by rw [updM_ne r2]; exact hr
    rcases hv with ⟨lo, os, fl, rfl, dp⟩ | ⟨rfl, hb⟩
    · cases bk with
      | none =>
        refine .inr (.inr ⟨c.text, lo, os, fl, rfl, wi.so, by rw [wi.fin]; exact dp, fun o' oi' hf hs => ?_⟩)
        refine h1' _ o' st.out (hr' o') (wi_out wi oi' hf hs fun z => by rw [oi'.brk] at z; cases z) hs (fun z => by rw [oi'.brk] at z; cases z) (fun _ z => by rw [oi'.brk] at z; cases z)
      | some b0 =>
        exact .inr (.inl ⟨lo, os, fl, rfl, wi.so.1, h1' M o st hr wi rfl (fun z => ⟨z, data_ne_brk⟩) (fun z => z)⟩)
    · cases bk with
      | none => cases hb
      | some b0 =>
        exact .inl ⟨o.sent, rfl, h1' _ _ st.out (hr' _) (wi_out wi ⟨fun z => Br.noConfusion z, wi.so.2.1, wi.so.2.2.1, wi.so.2.2.2⟩ rfl rfl fun _ => hw _ rfl) rfl (fun z => Br.noConfusion z) (fun _ z => Br.noConfusion z)⟩
  · rename_i hk
    have hl : rs.length < sizeLine := by have := sizeLine_big; omega
    simp (implicitDefEqProofs := false) [hr, hl]
    refine h2 hk _ (st.off r1 r2 r3) updM_same
def isB (d : Dt) : Prop := ∃ m, d = brkP m
theorem law_348 {A : Ad} {w : WD} {D : DEnds} {c : LC} {M : DM} {o : Out} {i : Inc} {rd : Dt} {far : Int} {bk : Option Int} {ac ww : Bool} {d : Dt} {s9 s13 s15 s16 s18 s19 s20 : Option Dt} (st : ST A c.p c.a c.b M o i)
    (hd : (∃ lo os fl, d = dataP lo os fl) ∨ ∃ m, d = brkP m) (hn : isB d → ww = true → i.brkn = true → ac = true → False)
    (h : t_law_350 A w D (lsl c rd s9 far bk ac s13 (some d) s15 s16 (some (.bl ww)) s18 s19 s20) M) : t_law_348 A w D (lsl c rd s9 far bk ac s13 (some d) s15 s16 (some (.bl ww)) s18 s19 s20) M := by
  obtain ⟨dy, hb⟩ := st.ic
  unfold t_law_348
  rcases hd with ⟨lo, os, fl, rfl⟩ | ⟨m, rfl⟩
  · simp (implicitDefEqProofs := false) [dataP]
    simpa [dataP] using h
  · simp (implicitDefEqProofs := false) [brkP]
    split
    · rename_i hw
      rw [fi_brkn hb]
      simp (implicitDefEqProofs := false)
      split
      · rename_i hk
        split
        · rename_i ha
          exact (hn ⟨m, rfl⟩ hw hk ha).elim
        · simpa [brkP] using h
      · simpa [brkP] using h
    · simpa [brkP] using h
theorem law_346 {A : Ad} {w : WD} {D : DEnds} {c : LC} {M : DM} {o : Out} {i : Inc} {rd : Dt} {far : Int} {bk : Option Int} {ac ww : Bool} {d : Dt} {xs : List Int} {s9 s13 s15 s16 s19 s20 : Option Dt} (st : ST A c.p c.a c.b M o i)
    (hd : (∃ lo os fl, d = dataP lo os fl) ∨ ∃ m, d = brkP m) (hn : isB d → ww = false → i.brkn = true ∧ i.come = [] ∧ i.skipped + xs.length = far)
    (h : t_law_348 A w D (lsl c rd s9 far bk ac s13 (some d) s15 s16 (some (.bl ww)) (some (.lst (nums xs))) s19 s20) M) : t_law_346 A w D (lsl c rd s9 far bk ac s13 (some d) s15 s16 (some (.bl ww)) (some (.lst (nums xs))) s19 s20) M := by
  obtain ⟨dy, hb⟩ := st.ic
  unfold t_law_346
  rcases hd with ⟨lo, os, fl, rfl⟩ | ⟨m, rfl⟩
  · simp (implicitDefEqProofs := false) [dataP]
    simpa [dataP] using h
  · simp (implicitDefEqProofs := false) [brkP]
    cases ww
    · obtain ⟨h1, h2, h3⟩ := hn ⟨m, rfl⟩ rfl
      simp (implicitDefEqProofs := false)
      rw [fi_brkn hb]
      simp (implicitDefEqProofs := false) [h1]
      rw [mi hb rfl]
      simp (implicitDefEqProofs := false)
      refine ⟨c.b, dy, i, rfl, hb, by rw [h2]; decide, ?_⟩
      simp (implicitDefEqProofs := false) [h2]
      rw [fi_skip hb]
      simp (implicitDefEqProofs := false) [h3]
      simpa [brkP] using h
    · simpa [brkP] using h
/-- the break or octets come in -/
theorem law_344 {A : Ad} {w : WD} {D : DEnds} {c : LC} {M : DM} {o : Out} {i : Inc} {rd : Dt} {n : Int} {fin : Bool} {bk : Option Int} {ac : Bool} {d : Dt} {xs : List Int} {s9 s13 s15 s16 s19 s20 : Option Dt}
    (st : ST A c.p c.a c.b M o i) (wi : WI c.text fin c.room o i n bk) (hv : VP c.text fin o.sent bk d) (hxs : (xs.length : Int) = n) (hac : ac = true → wholeB i = true ∧ i.brkn = false)
    (h : ∀ M' i', ST A c.p c.a c.b M' o i' → (∀ q, q ≠ c.b → M' q = M q) → WI c.text fin c.room o i' n bk → (∀ m, d = brkP m → wholeB i' = true) → (ac = true → wholeB i' = true ∧ i'.brkn = false) → t_law_350 A w D (lsl c rd s9 o.sent bk ac s13 (some d) s15 s16 (some (.bl (wholeB i))) (some (.lst (nums xs))) s19 s20) M') :
    t_law_344 A w D (lsl c rd s9 o.sent bk ac s13 (some d) s15 s16 (some (.bl (wholeB i))) (some (.lst (nums xs))) s19 s20) M := by
  obtain ⟨dy, hb⟩ := st.ic
  have hd : (∃ lo os fl, d = dataP lo os fl) ∨ ∃ m, d = brkP m := by
    rcases hv with ⟨lo, os, fl, e, _⟩ | ⟨e, _⟩
    · exact .inl ⟨lo, os, fl, e⟩
    · exact .inr ⟨_, e⟩
  have go : ∀ M' i', ST A c.p c.a c.b M' o i' → (∀ q, q ≠ c.b → M' q = M q) → WI c.text fin c.room o i' n bk → (isB d → wholeB i' = true) → (ac = true → wholeB i' = true ∧ i'.brkn = false) → (isB d → wholeB i = false → i'.brkn = true ∧ i'.come = [] ∧ i'.skipped + xs.length = o.sent) →
      t_law_346 A w D (lsl c rd s9 o.sent bk ac s13 (some d) s15 s16 (some (.bl (wholeB i))) (some (.lst (nums xs))) s19 s20) M' := fun M' i' st' hM wi' hwh hac' hnew =>
    law_346 st' hd hnew (law_348 st' hd (fun _ _ hk ha => by rw [(hac' ha).2] at hk; cases hk) (h M' i' st' hM wi' (fun m e => hwh ⟨m, e⟩) hac'))
  unfold t_law_344
  simp (implicitDefEqProofs := false)
  rw [mi hb rfl]
  simp (implicitDefEqProofs := false)
  refine ⟨d, rfl, vp_plain wi.tl wi.sl hv, ?_⟩
  simp (implicitDefEqProofs := false)
  have hsame : ∀ i', ∀ q, q ≠ c.b → updM M c.b (incM A dy i') q = M q := fun i' q hq => updM_ne hq
  refine ⟨c.b, dy, i, d, rfl, hb, ?_⟩
  rcases hv with ⟨lo, os, fl, rfl, dp⟩ | ⟨rfl, hbk⟩
  · have nb : ¬ isB (dataP lo os fl) := fun ⟨m, e⟩ => data_ne_brk e
    cases hbr : i.brkn
    · obtain ⟨ii, h1, h2, h3⟩ := wi_not wi hbr
      have hh := dp.hi
      have sl := wi.sl
      refine .inr (.inr ⟨c.text, lo, os, fl, rfl, wi_fitsD wi dp, ii, dp.lo0, by omega, dp.eo, fun hf => (dp.fl hf).2, fun i' ii' _ e2 e3 e4 _ e6 e7 e8 => ?_⟩)
      obtain ⟨wi', hw⟩ := wi_took wi hbr dp ii' e2 e3 e4 e6 e7 e8
      simp (implicitDefEqProofs := false)
      exact go _ i' st.inc (hsame i') wi' (fun z => (nb z).elim) (fun z => ⟨hw (hac z).1, ii'.nb⟩) (fun z => (nb z).elim)
    · refine .inr (.inl ⟨lo, os, fl, rfl, wi_fitsD wi dp, rfl, ?_⟩)
      simp (implicitDefEqProofs := false)
      exact go M i st (fun _ _ => rfl) wi (fun z => (nb z).elim) hac (fun z => (nb z).elim)
  · refine .inl ⟨o.sent, rfl, wi_fitsB wi, fun hw => ?_, fun hw => ?_⟩
    · simp (implicitDefEqProofs := false)
      exact go M i st (fun _ _ => rfl) wi (fun _ => hw) hac (fun _ z => by rw [hw] at z; cases z)
    · have hbr : i.brkn = false := by
        cases z : i.brkn
        · rfl
        · unfold wholeB at hw; rw [z] at hw; cases hw
      obtain ⟨wi', e⟩ := wi_brokeI wi hbr hbk
      simp (implicitDefEqProofs := false)
      refine go _ _ st.inc (hsame _) wi' (fun _ => rfl) (fun z => ?_) (fun _ _ => ⟨rfl, rfl, by rw [hxs]; exact e⟩)
      rw [(hac z).1] at hw
      cases hw
end K23

namespace K23
open PySem L2 DL RG
/-- one piece of the air: what the round makes of it -/
theorem law_341 {A : Ad} {w : WD} {D : DEnds} {c : LC} {M : DM} {o : Out} {i : Inc} {n : Int} {fin : Bool} {bk : Option Int} {ac : Bool} {kind : Int} {d : Dt} {r : Addr} {rs : List Dt} {xs : List Int} {s9 s13 s17 s18 s19 s20 : Option Dt}
    (st : ST A c.p c.a c.b M o i) (wi : WI c.text fin c.room o i n bk) (hv : VP c.text fin o.sent bk d) (hxs : (xs.length : Int) = n) (hac : ac = true → wholeB i = true ∧ i.brkn = false) (hr : M r = some (.lst rs)) (r1 : r ≠ c.p) (r2 : r ≠ c.a) (r3 : r ≠ c.b) (hrl : rs.length ≤ 1000)
    (h : ∀ M' o' i' rs' s17 s18, ST A c.p c.a c.b M' o' i' → M' r = some (.lst rs') → WI c.text fin c.room o' i' n bk → o'.sent = o.sent → (ac = true → wholeB i' = true ∧ i'.brkn = false) → (rs' = rs ∨ rs' = rs ++ [d]) → (o'.brk = .flying → o.brk = .flying ∧ (rs' = rs ++ [d] ∨ d ≠ brkP o.sent)) → (kind = 0 → rs' = rs ∧ (o.brk ≠ .due → o'.brk ≠ .due)) →
      D.nx (lsl c (.lst (nums xs)) s9 o.sent bk ac s13 (some d) (some (.ref r)) (some (.int kind)) s17 s18 s19 s20) M') :
    t_law_341 A w D (lsl c (.lst (nums xs)) s9 o.sent bk ac s13 (some d) (some (.ref r)) (some (.int kind)) s17 s18 s19 s20) M := by
  obtain ⟨dx, ha⟩ := st.ou
  obtain ⟨dy, hb⟩ := st.ic
  have hl : rs.length < sizeLine := by have := sizeLine_big; omega
  have keep : ∀ s17 s18, (o.brk = .flying → (rs ++ [d] = rs ++ [d] ∨ d ≠ brkP o.sent)) → kind ≠ 0 → D.nx (lsl c (.lst (nums xs)) s9 o.sent bk ac s13 (some d) (some (.ref r)) (some (.int kind)) s17 s18 s19 s20) (updM M r (.lst (rs ++ [d]))) := fun s17 s18 _ hk =>
    h _ o i (rs ++ [d]) s17 s18 (st.off r1 r2 r3) updM_same wi rfl hac (.inr rfl) (fun z => ⟨z, .inl rfl⟩) (fun z => absurd z hk)
  unfold t_law_341
  simp (implicitDefEqProofs := false)
  split
  · rw [mi hb rfl]
    simp (implicitDefEqProofs := false)
    refine ⟨c.b, dy, i, rfl, hb, ?_⟩
    simp (implicitDefEqProofs := false)
    rw [mi hb rfl]
    simp (implicitDefEqProofs := false)
    have next : ∀ M', ST A c.p c.a c.b M' o i → (∀ q, q ≠ c.b → M' q = M q) → t_law_344 A w D (lsl c (.lst (nums xs)) s9 o.sent bk ac s13 (some d) (some (.ref r)) (some (.int kind)) (some (.bl (wholeB i))) (some (.lst (nums xs))) s19 s20) M' := by
      intro M' st' hM'
      refine law_344 st' wi hv hxs hac fun M2 i' st2 hM2 wi' hwh hac' => ?_
      have hr2 : M2 r = some (.lst rs) := by rw [hM2 r r3, hM' r r3]; exact hr
      refine law_350 st2 wi' hv hwh hr2 r1 r2 r3 hrl (fun hk M3 o' st3 hr3 wi3 hs hf hdu => ?_) (fun hk M3 st3 hr3 => ?_)
      · exact h M3 o' i' rs _ _ st3 hr3 wi3 hs hac' (.inl rfl) (fun z => ⟨(hf z).1, .inr (hf z).2⟩) (fun _ => ⟨rfl, hdu⟩)
      · exact h M3 o i' (rs ++ [d]) _ _ st3 hr3 wi' rfl hac' (.inr rfl) (fun z => ⟨z, .inl rfl⟩) (fun z => by omega)
    refine ⟨c.b, dy, i, 0, rfl, hb, by omega, ?_⟩
    have hsz : (nums xs).length + 0 ≤ sizeLine := by
      have e : (nums xs).length = xs.length := List.length_map ..
      have := wi.n1
      have := wi.tl
      exact sz _ (by omega)
    have hsz2 : xs.length ≤ sizeLine := by
      have := wi.n1
      have := wi.tl
      exact sz _ (by omega)
    cases hbr : i.brkn
    · obtain ⟨ii, e1, e2, e3⟩ := wi_not wi hbr
      refine .inr ⟨c.text, ii, fun i' _ _ _ _ _ _ _ _ _ _ _ hi' => ?_⟩
      have e := hi' rfl
      subst e
      rw [slc_nil]
      simp (implicitDefEqProofs := false) [hsz2]
      have hz := next _ (st.inc (i' := i') (dx := dy)) (fun q hq => updM_ne hq)
      simpa using hz
    · obtain ⟨e1, _⟩ := wi_broken wi hbr
      refine .inl ⟨e1, ?_⟩
      simp (implicitDefEqProofs := false) [hsz2]
      simpa using next M st (fun _ _ => rfl)
  · rename_i hk
    split
    · rename_i hk3
      rw [mo ha rfl]
      simp (implicitDefEqProofs := false)
      refine ⟨c.a, dx, o, d, rfl, ha, ?_⟩
      have hr' : ∀ o', updM M c.a (outM A dx o') r = some (.lst rs) := fun o' => by rw [updM_ne r2]; exact hr
      rcases hv with ⟨lo, os, fl, rfl, dp⟩ | ⟨rfl, hbk⟩
      · cases bk with
        | none =>
          refine .inr (.inr ⟨c.text, lo, os, fl, rfl, wi.so, by rw [wi.fin]; exact dp, fun v o' oi' hf hs => ?_⟩)
          exact h _ o' i rs _ _ st.out (hr' o') (wi_out wi oi' hf hs fun z => by rw [oi'.brk] at z; cases z) hs hac (.inl rfl) (fun z => by rw [oi'.brk] at z; cases z) (fun z => by omega)
        | some b0 =>
          exact .inr (.inl ⟨lo, os, fl, rfl, wi.so.1, fun v => h M o i rs _ _ st hr wi rfl hac (.inl rfl) (fun z => ⟨z, .inr data_ne_brk⟩) (fun z => by omega)⟩)
      · cases bk with
        | none => cases hbk
        | some b0 =>
          refine .inl ⟨o.sent, rfl, wi.so.1, fun hf v => ?_, fun hf v => ?_⟩
          · exact h _ _ i rs _ _ st.out (hr' _) (wi_out wi ⟨fun z => Br.noConfusion z, wi.so.2.1, wi.so.2.2.1, wi.so.2.2.2⟩ rfl rfl fun z => Br.noConfusion z) rfl hac (.inl rfl) (fun z => Br.noConfusion z) (fun z => by omega)
          · exact h M o i rs _ _ st hr wi rfl hac (.inl rfl) (fun z => absurd z hf) (fun z => by omega)
    · rename_i hk3
      simp (implicitDefEqProofs := false) [hr, hl]
      exact keep _ _ (fun _ => .inl rfl) (by omega)
theorem b_law1 {A : Ad} {w : WD} {D : DEnds} {c : LC} {M : DM} {o : Out} {i : Inc} {rd : Dt} {far : Int} {bk : Option Int} {ac : Bool} {nw : Int} {s9 s14 s15 s16 s17 s18 s19 s20 : Option Dt} (st : ST A c.p c.a c.b M o i)
    (h1 : nw < c.breaking + 40 → ∀ k M', 0 ≤ k → ST A c.p c.a c.b M' o i → (∀ q, q ≠ c.p → M' q = M q) → t_law_341 A w D (lsl c rd s9 far bk ac (some (.int nw)) s14 s15 (some (.int k)) s17 s18 s19 s20) M')
    (h2 : ¬ nw < c.breaking + 40 → t_law_341 A w D (lsl c rd s9 far bk ac (some (.int nw)) s14 s15 (some (.int 0)) s17 s18 s19 s20) M) :
    b_law_1 A w D (lsl c rd s9 far bk ac (some (.int nw)) s14 s15 s16 s17 s18 s19 s20) M := by
  obtain ⟨od, hp, hd⟩ := st.dr
  unfold b_law_1
  simp (implicitDefEqProofs := false)
  split
  · rename_i hk
    refine ⟨c.p, od, 6, rfl, hp, hd, by omega, by omega, fun d o' q1 q2 q3 => ?_⟩
    simp (implicitDefEqProofs := false)
    exact h1 hk d _ q1 (st.drw q3) (fun q hq => updM_ne hq)
  · rename_i hk
    exact h2 hk
theorem inner_loop {L : Nat} (hL : L ≤ 1000) {A : Ad} {w : WD} {D : DEnds} {c : LC} {n : Int} {fin : Bool} {bk : Option Int} {ac : Bool} {nw sent : Int} {r : Addr} {xs : List Int} {s9 s19 s20 : Option Dt} (r1 : r ≠ c.p) (r2 : r ≠ c.a) (r3 : r ≠ c.b) (hxs : (xs.length : Int) = n)
    (hN : ∀ M o i rs s14 s16 s17 s18, ST A c.p c.a c.b M o i → M r = some (.lst rs) → WI c.text fin c.room o i n bk → o.sent = sent → (ac = true → wholeB i = true ∧ i.brkn = false) → (∀ d ∈ rs, VP c.text fin sent bk d) → (o.brk = .flying → brkP sent ∈ rs) → (c.breaking + 40 ≤ nw → rs = [] ∧ o.brk ≠ .due) → rs.length ≤ L →
      D.nx (lsl c (.lst (nums xs)) s9 sent bk ac (some (.int nw)) s14 (some (.ref r)) s16 s17 s18 s19 s20) M) :
    ∀ (ps : List Dt) (M : DM) (o : Out) (i : Inc) (rs : List Dt) (s14 s16 s17 s18 : Option Dt), ST A c.p c.a c.b M o i → M r = some (.lst rs) → WI c.text fin c.room o i n bk → o.sent = sent → (ac = true → wholeB i = true ∧ i.brkn = false) → (∀ d ∈ rs ++ ps, VP c.text fin sent bk d) → (o.brk = .flying → brkP sent ∈ rs ++ ps) → (c.breaking + 40 ≤ nw → rs = [] ∧ o.brk ≠ .due) → rs.length + ps.length ≤ L →
      walkD (dgName 14) (b_law_1 A w) D ps (lsl c (.lst (nums xs)) s9 sent bk ac (some (.int nw)) s14 (some (.ref r)) s16 s17 s18 s19 s20) M
  | [], M, o, i, rs, s14, s16, s17, s18, st, hr, wi, hs, hac, hv, hf, hph, hl => by
    rw [walkD_nil]
    exact hN M o i rs _ _ _ _ st hr wi hs hac (by simpa using hv) (by simpa using hf) hph (by simpa using hl)
  | d :: ps, M, o, i, rs, s14, s16, s17, s18, st, hr, wi, hs, hac, hv, hf, hph, hl => by
    have ih := inner_loop hL (A := A) (w := w) (D := D) (c := c) (n := n) (fin := fin) (bk := bk) (ac := ac) (nw := nw) (sent := sent) (r := r) (xs := xs) (s9 := s9) (s19 := s19) (s20 := s20) r1 r2 r3 hxs hN ps
    rw [walkD_cons]
    generalize walkD (dgName 14) (b_law_1 A w) D ps = Wk at ih ⊢
    show b_law_1 A w { nx := Wk, rt := D.rt, bk := D.nx, ct := Wk } (lsl c (.lst (nums xs)) s9 sent bk ac (some (.int nw)) (some d) (some (.ref r)) s16 s17 s18 s19 s20) M
    have hvd : VP c.text fin o.sent bk d := by rw [hs]; exact hv d (by simp)
    have hrl : rs.length ≤ 1000 := by omega
    have body : ∀ k M', (k = 0 ∨ nw < c.breaking + 40) → ST A c.p c.a c.b M' o i → M' r = some (.lst rs) → t_law_341 A w { nx := Wk, rt := D.rt, bk := D.nx, ct := Wk } (lsl c (.lst (nums xs)) s9 sent bk ac (some (.int nw)) (some d) (some (.ref r)) (some (.int k)) s17 s18 s19 s20) M' := by
      intro k M' hk st' hr'
      rw [← hs]
      refine law_341 st' wi hvd hxs hac hr' r1 r2 r3 hrl fun M2 o' i' rs' s17 s18 st2 hr2 wi2 hs2 hac2 hrs hfl h0 => ?_
      show Wk _ M2
      rw [hs]
      refine ih M2 o' i' rs' _ _ _ _ st2 hr2 wi2 (hs2.trans hs) hac2 ?_ ?_ ?_ ?_
      · intro e he
        rcases List.mem_append.mp he with z | z
        · rcases hrs with y | y
          · rw [y] at z; exact hv e (List.mem_append_left _ z)
          · rw [y] at z
            rcases List.mem_append.mp z with x | x
            · exact hv e (List.mem_append_left _ x)
            · simp at x; rw [x]; exact hv d (by simp)
        · exact hv e (by simp [z])
      · intro hfy
        obtain ⟨q1, q2⟩ := hfl hfy
        have hm := hf q1
        rcases List.mem_append.mp hm with z | z
        · refine List.mem_append_left _ ?_
          rcases hrs with y | y <;> rw [y]
          · exact z
          · exact List.mem_append_left _ z
        · rcases List.mem_cons.mp z with x | x
          · rcases q2 with y | y
            · rw [y, x]; simp
            · rw [hs] at y; exact absurd x.symm y
          · exact List.mem_append_right _ x
      · intro hph2
        rcases hk with hk | hk
        · obtain ⟨z1, z2⟩ := h0 hk
          obtain ⟨p1, p2⟩ := hph hph2
          exact ⟨by rw [z1]; exact p1, z2 p2⟩
        · omega
      · rw [List.length_cons] at hl
        rcases hrs with y | y <;> rw [y]
        · omega
        · rw [List.length_append, List.length_cons, List.length_nil]; omega
    refine b_law1 st (fun hlt k M' _ st' hM' => body k M' (.inr hlt) st' ?_) (fun _ => body 0 M (.inl rfl) st hr)
    rw [hM' r r1]
    exact hr
end K23

namespace K23
open PySem L2 DL RG
theorem take_slc {text : List Int} {m n : Int} (h0 : 0 ≤ m) (h : m ≤ n) (hn : n ≤ text.length) : text.take m.toNat ++ slc text m n = text.take n.toNat := by
  have e : ∀ k : Int, 0 ≤ k → text.take k.toNat = slc text 0 k := fun k hk => by unfold slc; simp
  rw [e m h0, e n (by omega), slc_app (by omega) h0 h hn]
theorem law_364 {A : Ad} {w : WD} {D : DEnds} {c : LC} {M : DM} {o : Out} {i : Inc} {n far : Int} {fin : Bool} {bk : Option Int} {ac : Bool} {s9 s13 s14 s15 s16 s17 s18 s19 s20 : Option Dt}
    {xs : List Int} (hx : xs = c.text.take n.toNat) (st : ST A c.p c.a c.b M o i) (wi : WI c.text fin c.room o i n bk)
    (h : D.nx (lsl c (.lst (nums xs)) s9 far bk ac s13 s14 s15 s16 s17 s18 s19 s20) M) :
    t_law_364 A w D (lsl c (.lst (nums xs)) s9 far bk ac s13 s14 s15 s16 s17 s18 s19 s20) M := by
  obtain ⟨dx, ha⟩ := st.ou
  obtain ⟨dy, hb⟩ := st.ic
  have n0 := wi.n0
  have n1 := wi.n1
  have tl := wi.tl
  have hlen : (xs.length : Int) = n := by rw [hx, List.length_take]; omega
  have hcut : cutD (nums c.text) none (some (xs.length : Int)) = nums xs := by
    rw [nums_cut_to (by omega), hlen, hx]
  unfold t_law_364
  simp (implicitDefEqProofs := false) [hcut]
  refine ⟨.lst (nums xs), rfl, ?_, ?_⟩
  · have : xs.length ≤ 1000 := by omega
    rw [plainD]
    exact ⟨plain_ints 2 _, by rw [List.length_map]; exact this⟩
  · simp (implicitDefEqProofs := false)
    rw [mi hb rfl]
    simp (implicitDefEqProofs := false)
    have mem : i.come.length ≤ 1000000 ∧ (i.come.map fun r => r.2 - r.1 + 1).sum ≤ c.room := by
      cases hbr : i.brkn
      · obtain ⟨ii, e1, e2, e3⟩ := wi_not wi hbr
        have r0 := ii.r0
        have up := wi.up
        have ur := wi.ur hbr
        have rm := wi.rm
        have rg := ii.rg
        have gt := ii.gt
        have l := ii.rgC.len (lo := i.readU) (hi := i.greatest) ii.cC rg
        have s := ii.rgC.sum (lo := i.readU) (hi := i.greatest) ii.cC rg
        exact ⟨by omega, by omega⟩
      · obtain ⟨e1, _⟩ := wi_broken wi hbr
        have := wi.r0
        rw [e1]
        simp
        omega
    refine ⟨c.b, dy, i, rfl, hb, mem.1, ?_⟩
    simp (implicitDefEqProofs := false)
    rw [if_neg (by have := mem.2; omega)]
    cases bk with
    | none =>
      simp (implicitDefEqProofs := false) [bkD]
      simpa [bkD] using h
    | some b0 =>
      obtain ⟨g1, g2, g3, g4⟩ := wi.so
      simp (implicitDefEqProofs := false) [bkD]
      rw [fo_base ha]
      simp (implicitDefEqProofs := false) [g3, bkD]
      rw [mo ha rfl]
      simp (implicitDefEqProofs := false) [bkD]
      refine ⟨c.a, dx, o, rfl, ha, ?_⟩
      simp (implicitDefEqProofs := false) [g2, bkD]
      simpa [bkD] using h
theorem law_361 {A : Ad} {w : WD} {D : DEnds} {c : LC} {M : DM} {o : Out} {i : Inc} {n far : Int} {fin : Bool} {bk : Option Int} {ac : Bool} {s9 s13 s14 s15 s16 s17 s18 s19 s20 : Option Dt}
    {xs : List Int} (hx : xs = c.text.take n.toNat) (st : ST A c.p c.a c.b M o i) (wi : WI c.text fin c.room o i n bk)
    (h : ∀ M' i' s19, ST A c.p c.a c.b M' o i' → (∀ q, q ≠ c.b → M' q = M q) → WI c.text fin c.room o i' n bk → wholeB i' = wholeB i → i'.brkn = i.brkn → D.nx (lsl c (.lst (nums xs)) s9 far bk ac s13 s14 s15 s16 s17 s18 s19 s20) M') :
    t_law_361 A w D (lsl c (.lst (nums xs)) s9 far bk ac s13 s14 s15 s16 s17 s18 s19 s20) M := by
  obtain ⟨dy, hb⟩ := st.ic
  unfold t_law_361
  simp (implicitDefEqProofs := false)
  rw [mi hb rfl]
  simp (implicitDefEqProofs := false)
  have s0 := wi.s0
  have sl := wi.sl
  have tl := wi.tl
  have up := wi.up
  have ub := wi.ub
  have rm := wi.rm
  have r0 := wi.r0
  have r1 := wi.r1
  have rd : 0 ≤ i.readU ∧ i.readU ≤ 90 := by
    cases hbr : i.brkn
    · obtain ⟨ii, e1, e2, e3⟩ := wi_not wi hbr
      have := ii.r0
      have := ii.rg
      have := ii.gt
      omega
    · obtain ⟨e1, e2, e3, e4, _⟩ := wi_broken wi hbr
      omega
  refine ⟨c.b, dy, i, rfl, hb, by omega, by omega, by omega, by omega, by omega, by omega, ?_, fun m h1 h2 => ?_⟩
  · simp (implicitDefEqProofs := false)
    have z := h M i (some .non) st (fun _ _ => rfl) wi rfl rfl
    exact law_364 hx st wi z
  · simp (implicitDefEqProofs := false)
    rw [mi hb rfl]
    simp (implicitDefEqProofs := false)
    refine ⟨c.b, dy, i, m, rfl, hb, by omega, ?_⟩
    simp (implicitDefEqProofs := false)
    have wi' : WI c.text fin c.room o { i with upto := m } n bk := by
      refine ⟨wi.so, wi.fin, wi.tl, wi.s0, wi.sl, by show o.sent ≤ m; omega, fun hbr => h2, by show m ≤ 10000; omega, wi.rm, wi.r0, wi.r1, ?_, wi.n0, wi.n1, wi.gw⟩
      rcases wi.si with ⟨q1, q2, q3⟩ | q
      · exact .inl ⟨q1, ⟨q2.nb, q2.r0, q2.rg, q2.gt, q2.en, q2.rgC, q2.cC, q2.pw, q2.pn, q2.pc, q2.small⟩, q3⟩
      · exact .inr q
    have st' : ST A c.p c.a c.b (updM M c.b (incM A dy { i with upto := m })) o { i with upto := m } := st.inc
    have z := h _ _ (some (.int m)) st' (fun q hq => updM_ne hq) wi' rfl rfl
    exact law_364 hx st' wi' z
theorem law_358 {A : Ad} {w : WD} {D : DEnds} {c : LC} {M : DM} {o : Out} {i : Inc} {n far : Int} {fin : Bool} {bk : Option Int} {ac : Bool} {r : Addr} {rs : List Dt} {s9 s13 s14 s16 s17 s18 s19 s20 : Option Dt}
    {xs : List Int} (hx : xs = c.text.take n.toNat) (st : ST A c.p c.a c.b M o i) (wi : WI c.text fin c.room o i n bk) (hr : M r = some (.lst rs))
    (h : ∀ M' f i' n' xs' ac' s19, xs' = c.text.take n'.toNat → ST A c.p c.a c.b M' o i' → M' f = some (.lst rs.reverse) → f ≠ c.p → f ≠ c.a → f ≠ c.b → WI c.text fin c.room o i' n' bk → (ac' = true → wholeB i' = true ∧ i'.brkn = false) → D.nx (lsl c (.lst (nums xs')) (some (.ref f)) far bk ac' s13 s14 (some (.ref r)) s16 s17 s18 s19 s20) M') :
    t_law_358 A w D (lsl c (.lst (nums xs)) s9 far bk ac s13 s14 (some (.ref r)) s16 s17 s18 s19 s20) M := by
  unfold t_law_358
  simp (implicitDefEqProofs := false) [hr]
  intro f hf
  obtain ⟨f1, f2, f3⟩ := st.new hf
  have st1 : ST A c.p c.a c.b (updM M f (.lst rs.reverse)) o i := st.off f1 f2 f3
  have hf1 : updM M f (.lst rs.reverse) f = some (.lst rs.reverse) := updM_same
  generalize updM M f (.lst rs.reverse) = M1 at st1 hf1 ⊢
  obtain ⟨dy, hb⟩ := st1.ic
  obtain ⟨od, hp, hd⟩ := st1.dr
  unfold t_law_359
  simp (implicitDefEqProofs := false)
  rw [mi hb rfl]
  simp (implicitDefEqProofs := false)
  refine ⟨c.b, dy, i, rfl, hb, ?_⟩
  simp (implicitDefEqProofs := false)
  have main : ∀ ac' : Bool, (ac' = true → wholeB i = true ∧ i.brkn = false) → t_law_360 A w D (lsl c (.lst (nums xs)) (some (.ref f)) far bk ac' s13 s14 (some (.ref r)) s16 s17 s18 s19 s20) M1 := by
    intro ac' hac'
    unfold t_law_360
    simp (implicitDefEqProofs := false)
    rw [mi hb rfl]
    simp (implicitDefEqProofs := false)
    refine ⟨c.p, od, 30, rfl, hp, hd, by omega, by omega, fun d o2 q1 q2 q3 => ?_⟩
    simp (implicitDefEqProofs := false)
    have st2 := st1.drw q3
    have hf2 : updM M1 c.p o2 f = some (.lst rs.reverse) := by rw [updM_ne f1]; exact hf1
    generalize updM M1 c.p o2 = M2 at st2 hf2 ⊢
    obtain ⟨dy2, hb2⟩ := st2.ic
    refine ⟨c.b, dy2, i, d, rfl, hb2, q1, ?_⟩
    have n0 := wi.n0
    have n1 := wi.n1
    have tl := wi.tl
    cases hbr : i.brkn
    · obtain ⟨ii, e1, e2, e3⟩ := wi_not wi hbr
      refine .inr ⟨c.text, ii, fun i' ii' _ g2 g3 _ g6 g7 g4 _ _ g8 _ => ?_⟩
      obtain ⟨wi', hw⟩ := wi_read wi hbr ii' g2 g3 g6 g7 g4 g8
      have rg' := ii'.rg
      have gt' := ii'.gt
      have hsz' : xs.length + (slc c.text i.readU i'.readU).length ≤ sizeLine := by
        have e : ((slc c.text i.readU i'.readU).length : Int) = i'.readU - i.readU := slc_len ii.r0 g4 (by omega)
        exact sz _ (by rw [hx, List.length_take]; omega)
      have hcat : xs ++ slc c.text i.readU i'.readU = c.text.take i'.readU.toNat := by
        rw [hx, ← e1, take_slc ii.r0 g4 (by omega)]
      have hcat2 : nums xs ++ nums (slc c.text i.readU i'.readU) = nums (xs ++ slc c.text i.readU i'.readU) := (List.map_append ..).symm
      simp (implicitDefEqProofs := false) [hsz']
      have z := law_361 (w := w) (D := D) (c := c) (far := far) (ac := ac') (s9 := some (.ref f)) (s13 := s13) (s14 := s14) (s15 := some (.ref r)) (s16 := s16) (s17 := s17) (s18 := s18) (s19 := s19) (s20 := s20) hcat (st2.inc (i' := i') (dx := dy2)) wi' (fun M3 i3 s19 st3 hM3 wi3 hw3 hb3 => h M3 f i3 i'.readU _ ac' s19 hcat st3 (by rw [hM3 f f3, updM_ne f3]; exact hf2) f1 f2 f3 wi3 (fun z => ⟨by rw [hw3]; exact hw (hac' z).1, by rw [hb3]; exact ii'.nb⟩))
      rw [hcat2]
      exact z
    · obtain ⟨e1, _⟩ := wi_broken wi hbr
      refine .inl ⟨e1, ?_⟩
      have hsz' : xs.length ≤ sizeLine := sz _ (by rw [hx, List.length_take]; omega)
      simp (implicitDefEqProofs := false) [hsz']
      have z := law_361 (w := w) (D := D) (c := c) (far := far) (ac := ac') (s9 := some (.ref f)) (s13 := s13) (s14 := s14) (s15 := some (.ref r)) (s16 := s16) (s17 := s17) (s18 := s18) (s19 := s19) (s20 := s20) hx st2 wi (fun M3 i3 s19 st3 hM3 wi3 hw3 hb3 => h M3 f i3 n _ ac' s19 hx st3 (by rw [hM3 f f3]; exact hf2) f1 f2 f3 wi3 (fun z => by rw [(hac' z).2] at hbr; cases hbr))
      simpa using z
  split
  · rename_i hw
    rw [fi_brkn hb]
    simp (implicitDefEqProofs := false)
    exact main (!i.brkn) (fun z => ⟨hw, by simpa using z⟩)
  · exact main false (fun z => Bool.noConfusion z)
end K23

namespace K23
open PySem L2 DL RG
theorem law_338 {A : Ad} {w : WD} {D : DEnds} {c : LC} {M : DM} {o : Out} {i : Inc} {n nw : Int} {fin : Bool} {bk : Option Int} {ac : Bool} {f : Addr} {air : List Dt} {xs : List Int} {s14 s15 s16 s17 s18 s19 s20 : Option Dt}
    (hx : xs = c.text.take n.toNat) (st : ST A c.p c.a c.b M o i) (wi : WI c.text fin c.room o i n bk) (hac : ac = true → wholeB i = true ∧ i.brkn = false) (hf : M f = some (.lst air)) (f1 : f ≠ c.p) (f2 : f ≠ c.a) (f3 : f ≠ c.b) (hv : ∀ d ∈ air, VP c.text fin o.sent bk d) (hfl : o.brk = .flying → brkP o.sent ∈ air) (hph : c.breaking + 40 ≤ nw → o.brk ≠ .due) (hl : air.length ≤ 1000)
    (h : ∀ M' o' i' n' xs' f' ac' air' s14 s15 s16 s17 s18 s19, xs' = c.text.take n'.toNat → ST A c.p c.a c.b M' o' i' → WI c.text fin c.room o' i' n' bk → (ac' = true → wholeB i' = true ∧ i'.brkn = false) → M' f' = some (.lst air') → f' ≠ c.p → f' ≠ c.a → f' ≠ c.b → o'.sent = o.sent → (∀ d ∈ air', VP c.text fin o'.sent bk d) → (o'.brk = .flying → brkP o'.sent ∈ air') → (c.breaking + 40 ≤ nw → o'.brk ≠ .due ∧ o'.brk ≠ .flying) → air'.length ≤ air.length →
      D.nx (lsl c (.lst (nums xs')) (some (.ref f')) o'.sent bk ac' (some (.int nw)) s14 s15 s16 s17 s18 s19 s20) M') :
    t_law_338 A w D (lsl c (.lst (nums xs)) (some (.ref f)) o.sent bk ac (some (.int nw)) s14 s15 s16 s17 s18 s19 s20) M := by
  have n0 := wi.n0
  have n1 := wi.n1
  have hxs : (xs.length : Int) = n := by rw [hx, List.length_take]; omega
  have e0 := sz 0 (by omega)
  unfold t_law_338
  simp (implicitDefEqProofs := false) [e0]
  intro r hr
  obtain ⟨r1, r2, r3⟩ := st.new hr
  have hfr : f ≠ r := fun e => by rw [e, hr] at hf; cases hf
  have st1 : ST A c.p c.a c.b (updM M r (.lst [])) o i := st.off r1 r2 r3
  have hf1 : updM M r (.lst []) f = some (.lst air) := by rw [updM_ne hfr]; exact hf
  have hr1 : updM M r (.lst []) r = some (.lst []) := updM_same
  generalize updM M r (.lst []) = M1 at st1 hf1 hr1 ⊢
  unfold t_law_339
  simp (implicitDefEqProofs := false) [hf1]
  have st2 : ST A c.p c.a c.b (delM M1 f) o i := st1.del f1 f2 f3
  have hr2 : delM M1 f r = some (.lst []) := by unfold delM; rw [if_neg (Ne.symm hfr)]; exact hr1
  refine inner_loop (L := air.length) hl (c := c) (n := n) (fin := fin) (bk := bk) (ac := ac) (nw := nw) (sent := o.sent) (r := r) (xs := xs) r1 r2 r3 hxs ?_ air (delM M1 f) o i [] s14 s16 s17 s18 st2 hr2 wi rfl hac (by simpa using hv) (by simpa using hfl) (fun z => ⟨rfl, hph z⟩) (by simp)
  intro M2 o2 i2 rs s14' s16' s17' s18' st3 hr3 wi3 hs3 hac3 hv3 hf3 hp3 hl3
  refine law_358 hx st3 wi3 hr3 fun M4 f' i4 n' xs' ac' s19' hx' st4 hf4 g1 g2 g3 wi4 hac4 => ?_
  have hlen : rs.reverse.length ≤ air.length := by rw [List.length_reverse]; exact hl3
  have z := h M4 o2 i4 n' xs' f' ac' rs.reverse s14' (some (.ref r)) s16' s17' s18' s19' hx' st4 wi4 hac4 hf4 g1 g2 g3 hs3 (fun d hd => by rw [hs3]; exact hv3 d (by simpa using hd)) (fun q => by rw [hs3]; simpa using hf3 q) (fun q => by
    obtain ⟨q1, q2⟩ := hp3 q
    exact ⟨q2, fun y => by have := hf3 y; rw [q1] at this; cases this⟩) hlen
  rw [hs3] at z
  exact z
theorem wi_next {text : List Int} {fin : Bool} {room : Int} {o o' : Out} {i : Inc} {n : Int} (h : WI text fin room o i n none) (oi : OI text o') (hf : o'.fin = o.fin) (hs : o.sent ≤ o'.sent) (hu : o'.sent = o.sent ∨ o'.sent ≤ i.upto) : WI text fin room o' i n none := by
  have st := oi.st
  have tk := oi.tk
  have up := h.up
  refine ⟨oi, hf.trans h.fin, h.tl, by have := h.s0; omega, by omega, by omega, h.ur, h.ub, h.rm, h.r0, h.r1, ?_, h.n0, h.n1, fun z => by rw [oi.brk] at z; cases z⟩
  rcases h.si with ⟨q1, q2, q3, q4, q5⟩ | q
  · exact .inl ⟨q1, q2, q3, by omega, fun z => by have := q5 z; omega⟩
  · cases q.2.2.2.2.2.2.2
theorem brk_lay (s : Int) : (PyData.tuple [PyData.str (Str.ofString "break"), PyData.int 4, PyData.int s]).canLay0 = true := by
  simp [PyData.canLay0, PyData.canLayAll0]
  decide +kernel
theorem brk_dep (s : Int) : (PyData.tuple [PyData.str (Str.ofString "break"), PyData.int 4, PyData.int s]).depth ≤ 64 := by
  simp [PyData.depth, PyData.depthAll]
theorem law_331 {A : Ad} {w : WD} {D : DEnds} {c : LC} {M : DM} {o : Out} {i : Inc} {n : Int} {fin : Bool} {bk : Option Int} {ac : Bool} {f : Addr} {air : List Dt} {rd : Dt} {s13 s14 s15 s16 s17 s18 s19 s20 : Option Dt}
    (hsz : 1 ≤ c.size) (st : ST A c.p c.a c.b M o i) (wi : WI c.text fin c.room o i n bk) (hf : M f = some (.lst air)) (f1 : f ≠ c.p) (f2 : f ≠ c.a) (f3 : f ≠ c.b) (hv : ∀ d ∈ air, VP c.text fin o.sent bk d) (hfl : o.brk = .flying → brkP o.sent ∈ air) (hl : air.length ≤ 900)
    (h : ∀ M' o' air' s14, ST A c.p c.a c.b M' o' i → WI c.text fin c.room o' i n bk → M' f = some (.lst air') → (∀ d ∈ air', VP c.text fin o'.sent bk d) → (o'.brk = .flying → brkP o'.sent ∈ air') → (bk.isSome = true → o'.brk ≠ .due) → air'.length ≤ air.length + 1 →
      t_law_338 A w D (lsl c rd (some (.ref f)) o'.sent bk ac s13 s14 s15 s16 s17 s18 s19 s20) M') :
    t_law_331 A w D (lsl c rd (some (.ref f)) o.sent bk ac s13 s14 s15 s16 s17 s18 s19 s20) M := by
  obtain ⟨dx, ha⟩ := st.ou
  obtain ⟨dy, hb⟩ := st.ic
  have e3 := sz 3 (by omega)
  have hal : air.length < sizeLine := by have := sizeLine_big; omega
  unfold t_law_331
  simp (implicitDefEqProofs := false)
  rw [mo ha rfl]
  simp (implicitDefEqProofs := false)
  rw [fi_upto hb]
  simp (implicitDefEqProofs := false)
  refine ⟨c.a, dx, o, c.text, c.size, i.upto, rfl, ha, ?_⟩
  cases bk with
  | none =>
    refine .inr (.inr ⟨hsz, wi.so, ?_, fun o' lo os fl oi' hf' hb' hs hu dp => ?_⟩)
    · simp (implicitDefEqProofs := false)
      unfold t_law_332
      simp (implicitDefEqProofs := false)
      exact h M o air _ st wi hf hv hfl (fun z => by cases z) (by omega)
    · simp (implicitDefEqProofs := false)
      unfold t_law_332
      simp (implicitDefEqProofs := false) [dataP, bkD]
      have hM' : updM M c.a (outM A dx o') f = some (.lst air) := by rw [updM_ne f2]; exact hf
      have hst : ST A c.p c.a c.b (updM M c.a (outM A dx o')) o' i := st.out
      have hwi := wi_next wi oi' hf' (by omega) hu
      generalize updM M c.a (outM A dx o') = M1 at hM' hst ⊢
      simp (implicitDefEqProofs := false) [hM', hal]
      have e : max o.sent (lo + (os.length : Int)) = o'.sent := hs.symm
      rw [e]
      have z := h (updM M1 f (.lst (air ++ [dataP lo os fl]))) o' (air ++ [dataP lo os fl]) (some (dataP lo os fl)) (hst.off f1 f2 f3) hwi updM_same (fun d hd => by
        rcases List.mem_append.mp hd with y | y
        · exact (hv d y).up (by omega) none
        · simp at y
          rw [y, ← wi.fin]
          exact .inl ⟨lo, os, fl, rfl, dp⟩) (fun y => by rw [oi'.brk] at y; cases y) (fun y => by cases y) (by simp)
      exact z
  | some b0 =>
    obtain ⟨g1, g2, g3, g4⟩ := wi.so
    refine .inr (.inl ⟨by omega, g1, fun hd => ?_, fun hd => ?_⟩)
    · rw [show (Dt.tup [Dt.str "break", Dt.int o.stream, Dt.int o.sent]) = Dt.tup [.str "break", .int 4, .int o.sent] by rw [g4]]
      simp (implicitDefEqProofs := false)
      unfold t_law_332
      have hM' : updM M c.a (outM A dx { o with brk := .flying }) f = some (.lst air) := by rw [updM_ne f2]; exact hf
      have hst : ST A c.p c.a c.b (updM M c.a (outM A dx { o with brk := .flying })) { o with brk := .flying } i := st.out
      have hwi : WI c.text fin c.room { o with brk := .flying } i n (some b0) := wi_out wi ⟨fun z => Br.noConfusion z, g2, g3, g4⟩ rfl rfl fun z => Br.noConfusion z
      simp (implicitDefEqProofs := false) [bkD, e3]
      have shp : SeqAt.shaped (PyData.tuple [PyData.str (Str.ofString "break"), PyData.int 4, PyData.int o.sent]) = true := by
        simp [SeqAt.shaped, brk_lay, brk_dep]
      refine ⟨_, _, rfl, rfl, shp, shp, ?_⟩
      have eqv := SeqAt.eqv_refl _ (brk_lay o.sent)
      generalize updM M c.a (outM A dx { o with brk := .flying }) = M1 at hM' hst ⊢
      show kBl _ (.bl (true != (PyData.tuple [PyData.str (Str.ofString "break"), PyData.int 4, PyData.int o.sent]).eqv (PyData.tuple [PyData.str (Str.ofString "break"), PyData.int 4, PyData.int o.sent]))) _
      rw [eqv]
      simp (implicitDefEqProofs := false) [hM', hal]
      have z := h (updM M1 f (.lst (air ++ [brkP o.sent]))) { o with brk := .flying } (air ++ [brkP o.sent]) (some (brkP o.sent)) (hst.off f1 f2 f3) hwi updM_same (fun d hd => by
        rcases List.mem_append.mp hd with y | y
        · exact hv d y
        · simp at y
          rw [y]
          exact .inr ⟨rfl, rfl⟩) (fun _ => by simp) (fun _ y => Br.noConfusion y) (by simp)
      exact z
    · simp (implicitDefEqProofs := false)
      unfold t_law_332
      simp (implicitDefEqProofs := false)
      exact h M o air _ st wi hf hv hfl (fun z => hd) (by omega)
end K23

namespace K23
open PySem L2 DL RG
/-- behind k rounds -/
structure RV (A : Ad) (c : LC) (fin : Bool) (k : Int) (M : DM) (o : Out) (i : Inc) (n : Int) (xs : List Int) (bk : Option Int) (ac : Bool) (f : Addr) (air : List Dt) : Prop where
  hx : xs = c.text.take n.toNat
  st : ST A c.p c.a c.b M o i
  wi : WI c.text fin c.room o i n bk
  hac : ac = true → wholeB i = true ∧ i.brkn = false
  hf : M f = some (.lst air)
  f1 : f ≠ c.p
  f2 : f ≠ c.a
  f3 : f ≠ c.b
  hv : ∀ d ∈ air, VP c.text fin o.sent bk d
  hfl : o.brk = .flying → brkP o.sent ∈ air
  hb : bk.isSome = decide (c.breaking < k)
  hg : c.breaking + 40 < k → o.brk = .got
  hl : (air.length : Int) ≤ k
theorem told_eqv : (PyData.tuple [PyData.str (Str.ofString "told"), PyData.none]).eqv (PyData.tuple [PyData.str (Str.ofString "told"), PyData.none]) = true := SeqAt.eqv_refl _ (by decide +kernel)
theorem told_shp : SeqAt.shaped (PyData.tuple [PyData.str (Str.ofString "told"), PyData.none]) = true := by decide +kernel
theorem b_law2 {A : Ad} {w : WD} {D : DEnds} {c : LC} {fin : Bool} {k : Int} {M : DM} {o : Out} {i : Inc} {n : Int} {xs : List Int} {bk : Option Int} {ac : Bool} {f : Addr} {air : List Dt} {s14 s15 s16 s17 s18 s19 s20 : Option Dt}
    (hk0 : 0 ≤ k) (hk1 : k ≤ 200) (hsz : 1 ≤ c.size) (rv : RV A c fin k M o i n xs bk ac f air) (hret : ∀ M, D.rt (.bl true) M)
    (h : ∀ M' o' i' n' xs' bk' ac' f' air' s14 s15 s16 s17 s18 s19, RV A c fin (k + 1) M' o' i' n' xs' bk' ac' f' air' → D.nx (lsl c (.lst (nums xs')) (some (.ref f')) o'.sent bk' ac' (some (.int k)) s14 s15 s16 s17 s18 s19 s20) M') :
    b_law_2 A w D (lsl c (.lst (nums xs)) (some (.ref f)) o.sent bk ac (some (.int k)) s14 s15 s16 s17 s18 s19 s20) M := by
  have e2 := sz 2 (by omega)
  -- the rest of the round, the break said
  have rest : ∀ (M : DM) (o : Out) (bk : Option Int), ST A c.p c.a c.b M o i → WI c.text fin c.room o i n bk → M f = some (.lst air) → (∀ d ∈ air, VP c.text fin o.sent bk d) → (o.brk = .flying → brkP o.sent ∈ air) → bk.isSome = decide (c.breaking < k + 1) →
      t_law_331 A w D (lsl c (.lst (nums xs)) (some (.ref f)) o.sent bk ac (some (.int k)) s14 s15 s16 s17 s18 s19 s20) M := by
    intro M o bk st wi hf hv hfl hb
    have hl := rv.hl
    refine law_331 hsz st wi hf rv.f1 rv.f2 rv.f3 hv hfl (by omega) fun M1 o1 air1 s14 st1 wi1 hf1 hv1 hfl1 hdu1 hl1 => ?_
    refine law_338 rv.hx st1 wi1 rv.hac hf1 rv.f1 rv.f2 rv.f3 hv1 hfl1 (fun z => hdu1 (by rw [hb]; exact decide_eq_true (by omega))) (by omega) fun M2 o2 i2 n2 xs2 f2 ac2 air2 s14 s15 s16 s17 s18 s19 hx2 st2 wi2 hac2 hf2 g1 g2 g3 hs2 hv2 hfl2 hph2 hl2 => ?_
    refine h M2 o2 i2 n2 xs2 bk ac2 f2 air2 s14 s15 s16 s17 s18 s19 ⟨hx2, st2, wi2, hac2, hf2, g1, g2, g3, hv2, hfl2, hb, fun z => ?_, by omega⟩
    obtain ⟨q1, q2⟩ := hph2 (by omega)
    have hs : bk.isSome = true := by rw [hb]; exact decide_eq_true (by omega)
    cases bk with
    | none => cases hs
    | some b0 =>
      have := wi2.so.1
      cases e : o2.brk
      · exact absurd e this
      · exact absurd e q1
      · exact absurd e q2
      · rfl
  obtain ⟨dx, ha⟩ := rv.st.ou
  unfold b_law_2
  simp (implicitDefEqProofs := false)
  split
  · rename_i hkb
    have hbk : bk = none := by
      have := rv.hb
      rw [decide_eq_false (by omega)] at this
      cases bk with
      | none => rfl
      | some b0 => cases this
    subst hbk
    have oi : OI c.text o := rv.wi.so
    rw [mo ha rfl]
    simp (implicitDefEqProofs := false)
    refine ⟨c.a, dx, o, rfl, ha, ?_⟩
    simp (implicitDefEqProofs := false)
    cases hd : doneB o
    · simp (implicitDefEqProofs := false)
      refine ⟨c.a, dx, o, "breaks", rfl, ha, .inr ⟨oi.brk, rfl, (fun z => by rw [hd] at z; cases z), fun _ => ?_⟩⟩
      simp (implicitDefEqProofs := false) [e2]
      refine ⟨_, _, rfl, rfl, told_shp, told_shp, ?_⟩
      show kBl _ (.bl (true != (PyData.tuple [PyData.str (Str.ofString "told"), PyData.none]).eqv (PyData.tuple [PyData.str (Str.ofString "told"), PyData.none]))) _
      rw [told_eqv]
      simp (implicitDefEqProofs := false)
      have st1 : ST A c.p c.a c.b (updM M c.a (outM A dx { o with brk := .due, kept := [], lost := [], got := [] })) { o with brk := .due, kept := [], lost := [], got := [] } i := rv.st.out
      have hf1 : updM M c.a (outM A dx { o with brk := .due, kept := [], lost := [], got := [] }) f = some (.lst air) := by rw [updM_ne rv.f2]; exact rv.hf
      have ha1 : updM M c.a (outM A dx { o with brk := .due, kept := [], lost := [], got := [] }) c.a = some (outM A dx { o with brk := .due, kept := [], lost := [], got := [] }) := updM_same
      have wi1 : WI c.text fin c.room { o with brk := .due, kept := [], lost := [], got := [] } i n (some o.base) := by
        have w0 := rv.wi
        refine ⟨⟨fun z => Br.noConfusion z, rfl, rfl, oi.str⟩, w0.fin, w0.tl, w0.s0, w0.sl, w0.up, w0.ur, w0.ub, w0.rm, w0.r0, w0.r1, ?_, w0.n0, w0.n1, fun z => Br.noConfusion z⟩
        rcases w0.si with q | q
        · exact .inl q
        · cases q.2.2.2.2.2.2.2
      generalize updM M c.a (outM A dx { o with brk := .due, kept := [], lost := [], got := [] }) = M1 at st1 hf1 ha1 ⊢
      refine ⟨.ref c.p, c.a, dx, { o with brk := .due, kept := [], lost := [], got := [] }, rfl, ha1, rfl, rfl, ?_⟩
      simp (implicitDefEqProofs := false)
      rw [fo_base ha1]
      simp (implicitDefEqProofs := false)
      have z := rest M1 { o with brk := .due, kept := [], lost := [], got := [] } (some o.base) st1 wi1 hf1 (fun d hd => by
        rcases rv.hv d hd with q | ⟨_, q⟩
        · exact .inl q
        · cases q) (fun z => Br.noConfusion z) (by rw [decide_eq_true (by omega)]; rfl)
      exact z
    · simp (implicitDefEqProofs := false)
      refine ⟨c.a, dx, o, "breaks", rfl, ha, .inr ⟨oi.brk, rfl, (fun _ => ?_), fun z => by rw [hd] at z; cases z⟩⟩
      simp (implicitDefEqProofs := false) [e2]
      exact ⟨_, rfl, by simp [plainD, plainDs], hret M⟩
  · rename_i hkb
    exact rest M o bk rv.st rv.wi rv.hf rv.hv rv.hfl (by rw [rv.hb]; exact decide_eq_decide.mpr (by omega))
theorem law_366 {A : Ad} {w : WD} {D : DEnds} {c : LC} {fin : Bool} {k : Int} {M : DM} {o : Out} {i : Inc} {n : Int} {xs : List Int} {bk : Option Int} {ac : Bool} {f : Addr} {air : List Dt} {s13 s14 s15 s16 s17 s18 s19 s20 : Option Dt}
    (rv : RV A c fin k M o i n xs bk ac f air) (hk : c.breaking + 40 < k) (hret : ∀ M, D.rt (.bl true) M) :
    t_law_366 A w D (lsl c (.lst (nums xs)) (some (.ref f)) o.sent bk ac s13 s14 s15 s16 s17 s18 s19 s20) M := by
  obtain ⟨dx, ha⟩ := rv.st.ou
  obtain ⟨dy, hb⟩ := rv.st.ic
  have hg := rv.hg hk
  have hw := rv.wi.gw hg
  have hd : doneB o = true := by unfold doneB; rw [hg]; rfl
  have hp10 : CPow 10 6 := by unfold CPow; decide
  unfold t_law_366
  simp (implicitDefEqProofs := false)
  rw [mo ha rfl]
  simp (implicitDefEqProofs := false)
  refine ⟨c.a, dx, o, rfl, ha, ?_⟩
  simp (implicitDefEqProofs := false) [hd]
  rw [mi hb rfl]
  simp (implicitDefEqProofs := false)
  refine ⟨c.b, dy, i, rfl, hb, ?_⟩
  simp (implicitDefEqProofs := false) [hw]
  rw [mo ha rfl]
  simp (implicitDefEqProofs := false) [hp10]
  refine ⟨c.a, dx, o, [], 5, 1000000, rfl, ha, .inr (.inl ⟨by omega, (by rw [hg]; decide), (fun z => by rw [hg] at z; cases z), fun _ => ?_⟩)⟩
  simp (implicitDefEqProofs := false)
  rw [fi_brkn hb]
  simp (implicitDefEqProofs := false)
  split
  · exact hret M
  · rename_i hbr
    have hbr' : i.brkn = false := by simpa using hbr
    rw [mi hb rfl]
    simp (implicitDefEqProofs := false)
    refine ⟨c.b, dy, i, rfl, hb, ?_⟩
    simp (implicitDefEqProofs := false)
    obtain ⟨ii, e1, e2, e3⟩ := wi_not rv.wi hbr'
    have hx := rv.hx
    have n0 := rv.wi.n0
    have n1 := rv.wi.n1
    have hlen : (xs.length : Int) = n := by rw [hx, List.length_take]; omega
    unfold wholeB at hw
    rw [hbr', Bool.false_or, decide_eq_true_eq] at hw
    have e : (xs.length : Int) + readyI i = c.text.length := by
      rcases ii.en with z | z
      · rw [hw] at z; cases z
      · rw [hw] at z
        have z : i.readU + readyI i = c.text.length := by simpa using z
        omega
    simp (implicitDefEqProofs := false) [e]
    exact hret M
theorem outer_loop {A : Ad} {w : WD} {D : DEnds} {c : LC} {fin : Bool} {N : Nat} (hN : (N : Int) = c.breaking + 60) (hbr : c.breaking < 50) (hb0 : 0 ≤ c.breaking) (hsz : 1 ≤ c.size) (hret : ∀ M, D.rt (.bl true) M) :
    ∀ (m k : Nat) (M : DM) (o : Out) (i : Inc) (n : Int) (xs : List Int) (bk : Option Int) (ac : Bool) (f : Addr) (air : List Dt) (s13 s14 s15 s16 s17 s18 s19 s20 : Option Dt), k + m = N → RV A c fin k M o i n xs bk ac f air →
      walkD (dgName 13) (b_law_2 A w) { nx := t_law_366 A w D, rt := D.rt, bk := D.bk, ct := D.ct } ((List.range' k m).map fun j : Nat => Dt.int (0 + (j : Int))) (lsl c (.lst (nums xs)) (some (.ref f)) o.sent bk ac s13 s14 s15 s16 s17 s18 s19 s20) M
  | 0, k, M, o, i, n, xs, bk, ac, f, air, s13, s14, s15, s16, s17, s18, s19, s20, hk, rv => by
    have e : (List.range' k 0).map (fun j : Nat => Dt.int (0 + (j : Int))) = [] := by simp
    rw [e, walkD_nil]
    exact law_366 rv (by omega) hret
  | m + 1, k, M, o, i, n, xs, bk, ac, f, air, s13, s14, s15, s16, s17, s18, s19, s20, hk, rv => by
    have ih := outer_loop (A := A) (w := w) (D := D) (c := c) (fin := fin) hN hbr hb0 hsz hret m (k + 1)
    rw [List.range'_succ, List.map_cons, walkD_cons]
    generalize walkD (dgName 13) (b_law_2 A w) { nx := t_law_366 A w D, rt := D.rt, bk := D.bk, ct := D.ct } ((List.range' (k + 1) m).map fun j : Nat => Dt.int (0 + (j : Int))) = Wk at ih ⊢
    show b_law_2 A w _ (lsl c (.lst (nums xs)) (some (.ref f)) o.sent bk ac (some (.int (0 + (k : Int)))) s14 s15 s16 s17 s18 s19 s20) M
    rw [Int.zero_add]
    refine b_law2 (by omega) (by omega) hsz rv hret fun M' o' i' n' xs' bk' ac' f' air' s14 s15 s16 s17 s18 s19 rv' => ?_
    exact ih M' o' i' n' xs' bk' ac' f' air' _ _ _ _ _ _ _ _ (by omega) (by push_cast; exact rv')
end K23

namespace K23
open PySem L2 DL RG
theorem walkC_cons (dg : DG) (dt : DT) (de : DE) (δ : DS) (p : Addr) (Q : DK) (d : Dt) (ds : List Dt) (M : DM) : walkC dg dt de δ p Q (d :: ds) M = dg d δ M (kC1 dt de p (walkC dg dt de δ p Q ds)) := rfl
theorem draw_walk {A : Ad} {p q : Addr} {Q : DK} {s0 : Option Dt} {rest : DS} (hpq : p ≠ q) : ∀ (L : List Dt) (ns : List Int) (M : DM), M q = some (.lst (nums ns)) → (∃ o, M p = some o ∧ DrV o) → ns.length + L.length ≤ 100 →
    (∀ ns' M', ns'.length = ns.length + L.length → (∃ o, M' p = some o ∧ DrV o) → Q (.lst (nums ns')) M') →
    walkC (dgName 20) dYes (dCall w0 (sd__law_draw A) (dCons (dVar 1) (dCons (dC (.int 256)) dNil))) (s0 :: some (.ref p) :: rest) q Q L M
  | [], ns, M, hq, hp, hl, h => by
    show endC q Q M (M q)
    rw [hq]
    show Q (.lst (nums ns)) (delM M q)
    refine h ns _ (by simp) ?_
    obtain ⟨o, h1, h2⟩ := hp
    exact ⟨o, by unfold delM; rw [if_neg hpq]; exact h1, h2⟩
  | d :: L, ns, M, hq, ⟨o, h1, h2⟩, hl, h => by
    have ih := draw_walk (A := A) (p := p) (q := q) (Q := Q) (s0 := s0) (rest := rest) hpq L
    rw [walkC_cons]
    generalize walkC (dgName 20) dYes (dCall w0 (sd__law_draw A) (dCons (dVar 1) (dCons (dC (.int 256)) dNil))) (s0 :: some (.ref p) :: rest) q Q L = Wk at ih ⊢
    simp (implicitDefEqProofs := false)
    refine ⟨p, o, 256, rfl, h1, h2, by omega, by omega, fun k o' _ _ hd => ?_⟩
    show addC q (.int k) Wk (updM M p o') (updM M p o' q)
    rw [updM_ne (Ne.symm hpq), hq]
    rw [List.length_cons] at hl h
    have hz : (nums ns).length < sizeLine := by
      have e : (nums ns).length = ns.length := List.length_map ..
      have := sizeLine_big
      omega
    refine ⟨hz, ?_⟩
    have e : nums ns ++ [.int k] = nums (ns ++ [k]) := by simp
    rw [e]
    refine ih (ns ++ [k]) _ updM_same ⟨o', by rw [updM_ne hpq, updM_same], hd⟩ (by rw [List.length_append, List.length_cons, List.length_nil]; omega) fun ns' M' hl' hp' => ?_
    exact h ns' M' (by rw [hl', List.length_append, List.length_cons, List.length_nil]; omega) hp'
theorem three {x y z : Int} {d : Int} (h0 : 0 ≤ d) (h1 : d < 3) : ∃ v, atI [Dt.int x, Dt.int y, Dt.int z] d = some (.int v) ∧ (v = x ∨ v = y ∨ v = z) := by
  have : d = 0 ∨ d = 1 ∨ d = 2 := by omega
  rcases this with rfl | rfl | rfl
  · exact ⟨x, atI_0 .., .inl rfl⟩
  · exact ⟨y, atI_1 .., .inr (.inl rfl)⟩
  · exact ⟨z, atI_2 .., .inr (.inr rfl)⟩
theorem law_324 {A : Ad} {w : WD} {Q : DK} {c : LC} {fin : Bool} {M : DM} {o : Out} {i : Inc} {f : Addr} {s13 s14 s15 s16 s17 s18 s19 s20 : Option Dt} (hbr : c.breaking < 50) (hb0 : 0 ≤ c.breaking) (hsz : 1 ≤ c.size) (hs : o.sent = 0) (rv : RV A c fin 0 M o i 0 [] none false f []) (hret : ∀ M, Q (.bl true) M) :
    t_law_324 A w { nx := fun _ M => Q .non M, rt := Q } (lsl c (.lst []) (some (.ref f)) 0 none false s13 s14 s15 s16 s17 s18 s19 s20) M := by
  unfold t_law_324
  simp (implicitDefEqProofs := false)
  refine ⟨by omega, by omega, ?_⟩
  have z := outer_loop (A := A) (w := w) (D := { nx := fun _ M => Q .non M, rt := Q }) (N := (c.breaking + 60).toNat) (by omega) hbr hb0 hsz hret (c.breaking + 60).toNat 0 M o i 0 [] none false f [] s13 s14 s15 s16 s17 s18 s19 s20 (by omega) rv
  rw [hs] at z
  rw [← List.range_eq_range'] at z
  exact z
theorem law_321 {A : Ad} {w : WD} {Q : DK} {c : LC} {M : DM} {o : Out} {i : Inc} {s8 s9 s10 s11 s12 s13 s14 s15 s16 s17 s18 s19 s20 : Option Dt} (hbr : c.breaking < 50) (hb0 : 0 ≤ c.breaking) (hsz : 1 ≤ c.size) (hr0 : 1 ≤ c.room) (hr1 : c.room ≤ 5000) (htl : c.text.length ≤ 90)
    (st : ST A c.p c.a c.b M o i) (ho : o = ⟨4, 5000, 0, c.text, c.text.length, 0, [], [], false, .unsent, .no⟩) (hi : i = ⟨4, c.room, c.room, 0, 0, none, [], [], false, 0⟩) (hret : ∀ M, Q (.bl true) M) :
    t_law_321 A w { nx := fun _ M => Q .non M, rt := Q } [some (.src c.src), some (.ref c.p), some (.lst (nums c.text)), some (.int c.room), some (.int c.size), some (.int c.breaking), some (.ref c.a), some (.ref c.b), s8, s9, s10, s11, s12, s13, s14, s15, s16, s17, s18, s19, s20] M := by
  obtain ⟨od, hp, hd⟩ := st.dr
  have e0 := sz 0 (by omega)
  have e5 := sz 5 (by omega)
  have go : ∀ (M : DM) (o : Out) (fin : Bool), ST A c.p c.a c.b M o i → o = ⟨4, 5000, 0, c.text, c.text.length, 0, [], [], fin, .unsent, .no⟩ → t_law_323 A w { nx := fun _ M => Q .non M, rt := Q } [some (.src c.src), some (.ref c.p), some (.lst (nums c.text)), some (.int c.room), some (.int c.size), some (.int c.breaking), some (.ref c.a), some (.ref c.b), s8, s9, s10, s11, s12, s13, s14, s15, s16, s17, s18, s19, s20] M := by
    intro M o fin st ho
    unfold t_law_323
    simp (implicitDefEqProofs := false) [e0, e5]
    intro f hf
    obtain ⟨f1, f2, f3⟩ := st.new hf
    have st1 : ST A c.p c.a c.b (updM M f (.lst [])) o i := st.off f1 f2 f3
    have oi : OI c.text o := by
      subst ho
      refine ⟨rfl, rfl, Int.le_refl _, Int.le_refl _, ?_, rfl, ?_, Rg.nil, Rg.nil, fun x h => (cov_nil x h).elim, fun x h => (cov_nil x h).elim, by omega⟩
      · show (0 : Int) ≤ c.text.length; omega
      · show c.text = c.text.drop (0 : Int).toNat; simp
    have ii : II c.text i := by
      subst hi
      refine ⟨rfl, Int.le_refl _, Int.le_refl _, ?_, .inl rfl, Rg.nil, fun x h => (cov_nil x h).elim, List.Pairwise.nil, (fun p h => by cases h), fun x => ⟨fun ⟨p, h, _⟩ => (by cases h), fun h => (cov_nil x h).elim⟩, by omega⟩
      show (0 : Int) ≤ c.text.length; omega
    have wi : WI c.text fin c.room o i 0 none := by
      have h1 : o.sent = 0 := by rw [ho]
      have h2 : o.fin = fin := by rw [ho]
      have h3 : i.upto = c.room := by rw [hi]
      have h4 : i.room = c.room := by rw [hi]
      have h5 : i.readU = 0 := by rw [hi]
      have h6 : i.greatest = 0 := by rw [hi]
      have h7 : i.en = none := by rw [hi]
      refine ⟨oi, h2, htl, by omega, by omega, by omega, fun _ => by omega, by omega, h4, hr0, hr1, .inl ⟨ii.nb, ii, h5, by omega, fun z => absurd h7 z⟩, Int.le_refl _, by omega, fun z => by rw [oi.brk] at z; cases z⟩
    exact law_324 (fin := fin) (o := o) (i := i) hbr hb0 hsz (by rw [ho]) ⟨by simp, st1, wi, fun z => Bool.noConfusion z, updM_same, f1, f2, f3, (fun d h => by cases h), (fun z => by rw [oi.brk] at z; cases z), by rw [decide_eq_false (by omega)]; rfl, fun z => by omega, Int.le_refl _⟩ hret
  unfold t_law_321
  simp (implicitDefEqProofs := false)
  refine ⟨c.p, od, 2, rfl, hp, hd, by omega, by omega, fun d o' q1 q2 q3 => ?_⟩
  simp (implicitDefEqProofs := false)
  have st1 : ST A c.p c.a c.b (updM M c.p o') o i := st.drw q3
  generalize updM M c.p o' = M1 at st1 ⊢
  split
  · obtain ⟨dx, ha⟩ := st1.ou
    rw [mo ha rfl]
    simp (implicitDefEqProofs := false)
    refine ⟨c.a, dx, o, rfl, ha, (fun z => absurd (by rw [ho]) z), fun _ => ⟨by rw [ho], ?_⟩⟩
    simp (implicitDefEqProofs := false)
    exact go _ _ true st1.out (by rw [ho])
  · exact go M1 o false st1 ho
theorem law_319 {A : Ad} {w : WD} {Q : DK} {src : List Int} {p : Addr} {text : List Int} {room size breaking : Int} {M : DM} {s6 s7 s8 s9 s10 s11 s12 s13 s14 s15 s16 s17 s18 s19 s20 : Option Dt} (hbr : breaking < 50) (hb0 : 0 ≤ breaking) (hsz : 1 ≤ size) (hr0 : 1 ≤ room) (hr1 : room ≤ 5000) (htl : text.length ≤ 90) (hp : ∃ o, M p = some o ∧ DrV o) (hret : ∀ M, Q (.bl true) M) :
    t_law_319 A w { nx := fun _ M => Q .non M, rt := Q } [some (.src src), some (.ref p), some (.lst (nums text)), some (.int room), some (.int size), some (.int breaking), s6, s7, s8, s9, s10, s11, s12, s13, s14, s15, s16, s17, s18, s19, s20] M := by
  obtain ⟨o3, h3, d3⟩ := hp
  unfold t_law_319
  simp (implicitDefEqProofs := false)
  intro a dx ha
  have hpa : p ≠ a := fun e => by rw [e, ha] at h3; cases h3
  refine ⟨a, dx, 4, 5000, rfl, by omega, updM_same, ?_⟩
  simp (implicitDefEqProofs := false)
  have hp1 : updM M a (outM A dx ⟨4, 5000, 0, [], 0, 0, [], [], false, .unsent, .no⟩) p = some o3 := by rw [updM_ne hpa]; exact h3
  have ha1 : updM M a (outM A dx ⟨4, 5000, 0, [], 0, 0, [], [], false, .unsent, .no⟩) a = some (outM A dx ⟨4, 5000, 0, [], 0, 0, [], [], false, .unsent, .no⟩) := updM_same
  generalize updM M a (outM A dx ⟨4, 5000, 0, [], 0, 0, [], [], false, .unsent, .no⟩) = M1 at hp1 ha1 ⊢
  intro b dy hb
  have hpb : p ≠ b := fun e => by rw [e, hb] at hp1; cases hp1
  have hab : a ≠ b := fun e => by rw [e, hb] at ha1; cases ha1
  refine ⟨b, dy, 4, room, rfl, hr0, updM_same, ?_⟩
  simp (implicitDefEqProofs := false)
  have st : ST A p a b (updM M1 b (incM A dy ⟨4, room, room, 0, 0, none, [], [], false, 0⟩)) ⟨4, 5000, 0, [], 0, 0, [], [], false, .unsent, .no⟩ ⟨4, room, room, 0, 0, none, [], [], false, 0⟩ :=
    ⟨hpa, hpb, hab, ⟨o3, by rw [updM_ne hpb]; exact hp1, d3⟩, ⟨dx, by rw [updM_ne hab]; exact ha1⟩, ⟨dy, updM_same⟩⟩
  generalize updM M1 b (incM A dy ⟨4, room, room, 0, 0, none, [], [], false, 0⟩) = M2 at st ⊢
  obtain ⟨dx2, ha2⟩ := st.ou
  unfold t_law_320
  simp (implicitDefEqProofs := false)
  rw [mo ha2 rfl]
  simp (implicitDefEqProofs := false)
  refine ⟨a, dx2, _, text, rfl, ha2, by decide, (fun z => absurd rfl z), fun _ => ⟨rfl, by simp only; omega, by simp only; omega, by omega, ?_⟩⟩
  simp (implicitDefEqProofs := false)
  have st2 := st.out (o' := ⟨4, 5000, 0, text, text.length, 0, [], [], false, .unsent, .no⟩) (dx := dx2)
  exact law_321 (c := ⟨src, p, a, b, text, room, size, breaking⟩) hbr hb0 hsz hr0 hr1 htl st2 rfl rfl hret
theorem sat_law (A : Ad) (ds : List Dt) (M : DM) (Q : DK) (E : Addr → Dt → DM → Prop) (h : sd_law A ds M Q E) : d_law A (WT E) (RT Q) (startD 21 ds) M := by
  obtain ⟨ns, rfl, q⟩ := h
  have hM : ∀ M', Qg Q (.bl true) M' := fun M' => qg (q M')
  have e3 := sz 3 (by omega)
  unfold d_law
  simp (implicitDefEqProofs := false)
  refine ⟨ns, rfl, fun p o hp hd => ?_⟩
  simp (implicitDefEqProofs := false) [dLc, e3]
  have h1 : updM M p o p = some o := updM_same
  generalize updM M p o = M1 at h1 ⊢
  refine ⟨p, o, 3, rfl, h1, hd, by omega, by omega, fun d o' q1 q2 q3 => ?_⟩
  obtain ⟨v, hv, hvv⟩ := three (x := 1) (y := 20) (z := 90) q1 q2
  have h2 : updM M1 p o' p = some o' := updM_same
  generalize updM M1 p o' = M2 at h2 ⊢
  simp (implicitDefEqProofs := false) [hv]
  refine ⟨by omega, by omega, fun qq hq => ?_⟩
  have hpq : p ≠ qq := fun e => by rw [e, hq] at h2; cases h2
  refine draw_walk hpq _ [] _ updM_same ⟨o', by rw [updM_ne hpq]; exact h2, q3⟩ (by rw [rngD_len]; simp; omega) fun text M3 htl ⟨o3, h3, d3⟩ => ?_
  rw [rngD_len] at htl
  simp at htl
  simp (implicitDefEqProofs := false) [e3]
  refine ⟨p, o3, 3, rfl, h3, d3, by omega, by omega, fun d1 o4 r1 r2 r3 => ?_⟩
  obtain ⟨v1, hv1, hvv1⟩ := three (x := 3) (y := 20) (z := 5000) r1 r2
  have h4 : updM M3 p o4 p = some o4 := updM_same
  generalize updM M3 p o4 = M4 at h4 ⊢
  simp (implicitDefEqProofs := false) [hv1]
  refine ⟨p, o4, 12, rfl, h4, r3, by omega, by omega, fun d2 o5 r4 r5 r6 => ?_⟩
  have h5 : updM M4 p o5 p = some o5 := updM_same
  generalize updM M4 p o5 = M5 at h5 ⊢
  simp (implicitDefEqProofs := false)
  refine ⟨p, o5, 50, rfl, h5, r6, by omega, by omega, fun d3' o6 r7 r8 r9 => ?_⟩
  have h6 : updM M5 p o6 p = some o6 := updM_same
  generalize updM M5 p o6 = M6 at h6 ⊢
  simp (implicitDefEqProofs := false)
  exact law_319 r8 r7 (by omega) (by omega) (by omega) (by omega) ⟨o6, h6, r9⟩ hM
end K23

namespace K23
open PySem L2 DL RG
theorem fn_mono {P : Program} {wd : World} {K : PySem.W.Frag} {mg : Str → Option Value} {base : Heap} {CX : CXT} {j k : Nat} {f : Addr} {fd : FuncData} {ps : List Str} {sp : Sp} (F : FnOk P wd K mg base CX j f fd ps sp) (h : j ≤ k) : FnOk P wd K mg base CX k f fd ps sp :=
  ⟨F.len, fun A outer s H args us vs Q E hr => F.run A outer s H args us vs Q E (hr.mono h)⟩
theorem ok_put_range {P : Program} {wd : World} {K : PySem.W.Frag} {mg : Str → Option Value} {base : Heap} {A : Ad} (T : Facts P K mg A) : FnOk P wd K mg base (L2.CX P wd) 4 A.f_put_range A.fd_put_range P_put_range (liftS K (sd_put_range A)) :=
  fn_okD (k := 3) (dt := d_put_range A) T.F_put_range sc_put_range (fun ds M Q E h => by obtain ⟨_, _, _, rfl, _⟩ := h; rfl) (fun cdv AA outer s H E w hr tk => der_put_range T  cdv AA outer s H E w hr tk) (fun ds M Q E h => sat_put_range A ds M Q E h)
theorem ok_drop_range {P : Program} {wd : World} {K : PySem.W.Frag} {mg : Str → Option Value} {base : Heap} {A : Ad} (T : Facts P K mg A) : FnOk P wd K mg base (L2.CX P wd) 4 A.f_drop_range A.fd_drop_range P_drop_range (liftS K (sd_drop_range A)) :=
  fn_okD (k := 3) (dt := d_drop_range A) T.F_drop_range sc_drop_range (fun ds M Q E h => by obtain ⟨_, _, _, rfl, _⟩ := h; rfl) (fun cdv AA outer s H E w hr tk => der_drop_range T  cdv AA outer s H E w hr tk) (fun ds M Q E h => sat_drop_range A ds M Q E h)
theorem ok_drop_all {P : Program} {wd : World} {K : PySem.W.Frag} {mg : Str → Option Value} {base : Heap} {A : Ad} (T : Facts P K mg A) : FnOk P wd K mg base (L2.CX P wd) 5 A.f_drop_all A.fd_drop_all P_drop_all (liftS K (sd_drop_all A)) :=
  fn_okD (k := 4) (dt := d_drop_all A) T.F_drop_all sc_drop_all (fun ds M Q E h => by obtain ⟨_, _, rfl, _⟩ := h; rfl) (fun cdv AA outer s H E w hr tk => der_drop_all T (ok_drop_range T) cdv AA outer s H E w hr tk) (fun ds M Q E h => sat_drop_all A ds M Q E h)
theorem ok_gaps {P : Program} {wd : World} {K : PySem.W.Frag} {mg : Str → Option Value} {base : Heap} {A : Ad} (T : Facts P K mg A) : FnOk P wd K mg base (L2.CX P wd) 6 A.f_gaps A.fd_gaps P_gaps (liftS K (sd_gaps A)) :=
  fn_okD (k := 5) (dt := d_gaps A) T.F_gaps sc_gaps (fun ds M Q E h => by obtain ⟨_, _, _, rfl, _⟩ := h; rfl) (fun cdv AA outer s H E w hr tk => der_gaps T (ok_drop_all T) cdv AA outer s H E w hr tk) (fun ds M Q E h => sat_gaps A ds M Q E h)
theorem ok_count {P : Program} {wd : World} {K : PySem.W.Frag} {mg : Str → Option Value} {base : Heap} {A : Ad} (T : Facts P K mg A) : FnOk P wd K mg base (L2.CX P wd) 4 A.f_count A.fd_count P_count (liftS K (sd_count A)) :=
  fn_okD (k := 3) (dt := d_count A) T.F_count sc_count (fun ds M Q E h => by obtain ⟨_, rfl, _⟩ := h; rfl) (fun cdv AA outer s H E w hr tk => der_count T  cdv AA outer s H E w hr tk) (fun ds M Q E h => sat_count A ds M Q E h)
theorem ok_Outgoing___init__ {P : Program} {wd : World} {K : PySem.W.Frag} {mg : Str → Option Value} {base : Heap} {A : Ad} (T : Facts P K mg A) : FnOk P wd K mg base (L2.CX P wd) 4 A.f_Outgoing___init__ A.fd_Outgoing___init__ P_Outgoing___init__ (liftS K (sd_Outgoing___init__ A)) :=
  fn_okD (k := 3) (dt := d_Outgoing___init__ A) T.F_Outgoing___init__ sc_Outgoing___init__ (fun ds M Q E h => by obtain ⟨_, _, _, _, rfl, _⟩ := h; rfl) (fun cdv AA outer s H E w hr tk => der_Outgoing___init__ T  cdv AA outer s H E w hr tk) (fun ds M Q E h => sat_out_init A ds M Q E h)
theorem ok_Outgoing_must_stand {P : Program} {wd : World} {K : PySem.W.Frag} {mg : Str → Option Value} {base : Heap} {A : Ad} (T : Facts P K mg A) : FnOk P wd K mg base (L2.CX P wd) 4 A.f_Outgoing_must_stand A.fd_Outgoing_must_stand P_Outgoing_must_stand (liftS K (sd_Outgoing_must_stand A)) :=
  fn_okD (k := 3) (dt := d_Outgoing_must_stand A) T.F_Outgoing_must_stand sc_Outgoing_must_stand (fun ds M Q E h => by obtain ⟨_, _, _, rfl, _⟩ := h; rfl) (fun cdv AA outer s H E w hr tk => der_Outgoing_must_stand T  cdv AA outer s H E w hr tk) (fun ds M Q E h => sat_must A ds M Q E h)
theorem ok_Outgoing_is_done {P : Program} {wd : World} {K : PySem.W.Frag} {mg : Str → Option Value} {base : Heap} {A : Ad} (T : Facts P K mg A) : FnOk P wd K mg base (L2.CX P wd) 4 A.f_Outgoing_is_done A.fd_Outgoing_is_done P_Outgoing_is_done (liftS K (sd_Outgoing_is_done A)) :=
  fn_okD (k := 3) (dt := d_Outgoing_is_done A) T.F_Outgoing_is_done sc_Outgoing_is_done (fun ds M Q E h => by obtain ⟨_, _, _, rfl, _⟩ := h; rfl) (fun cdv AA outer s H E w hr tk => der_Outgoing_is_done T  cdv AA outer s H E w hr tk) (fun ds M Q E h => sat_done A ds M Q E h)
theorem ok_Outgoing_write {P : Program} {wd : World} {K : PySem.W.Frag} {mg : Str → Option Value} {base : Heap} {A : Ad} (T : Facts P K mg A) : FnOk P wd K mg base (L2.CX P wd) 5 A.f_Outgoing_write A.fd_Outgoing_write P_Outgoing_write (liftS K (sd_Outgoing_write A)) :=
  fn_okD (k := 4) (dt := d_Outgoing_write A) T.F_Outgoing_write sc_Outgoing_write (fun ds M Q E h => by obtain ⟨_, _, _, _, rfl, _⟩ := h; rfl) (fun cdv AA outer s H E w hr tk => der_Outgoing_write T (ok_Outgoing_must_stand T) cdv AA outer s H E w hr tk) (fun ds M Q E h => sat_write A ds M Q E h)
theorem ok_Outgoing_breaks {P : Program} {wd : World} {K : PySem.W.Frag} {mg : Str → Option Value} {base : Heap} {A : Ad} (T : Facts P K mg A) : FnOk P wd K mg base (L2.CX P wd) 5 A.f_Outgoing_breaks A.fd_Outgoing_breaks P_Outgoing_breaks (liftS K (sd_Outgoing_breaks A)) :=
  fn_okD (k := 4) (dt := d_Outgoing_breaks A) T.F_Outgoing_breaks sc_Outgoing_breaks (fun ds M Q E h => by obtain ⟨_, _, _, rfl, _⟩ := h; rfl) (fun cdv AA outer s H E w hr tk => der_Outgoing_breaks T (ok_Outgoing_must_stand T) (ok_Outgoing_is_done T) cdv AA outer s H E w hr tk) (fun ds M Q E h => sat_breaks A ds M Q E h)
theorem ok_Outgoing_finish {P : Program} {wd : World} {K : PySem.W.Frag} {mg : Str → Option Value} {base : Heap} {A : Ad} (T : Facts P K mg A) : FnOk P wd K mg base (L2.CX P wd) 5 A.f_Outgoing_finish A.fd_Outgoing_finish P_Outgoing_finish (liftS K (sd_Outgoing_finish A)) :=
  fn_okD (k := 4) (dt := d_Outgoing_finish A) T.F_Outgoing_finish sc_Outgoing_finish (fun ds M Q E h => by obtain ⟨_, _, _, rfl, _⟩ := h; rfl) (fun cdv AA outer s H E w hr tk => der_Outgoing_finish T (ok_Outgoing_must_stand T) cdv AA outer s H E w hr tk) (fun ds M Q E h => sat_finish A ds M Q E h)
theorem ok_Outgoing_next_break {P : Program} {wd : World} {K : PySem.W.Frag} {mg : Str → Option Value} {base : Heap} {A : Ad} (T : Facts P K mg A) : FnOk P wd K mg base (L2.CX P wd) 4 A.f_Outgoing_next_break A.fd_Outgoing_next_break P_Outgoing_next_break (liftS K (sd_Outgoing_next_break A)) :=
  fn_okD (k := 3) (dt := d_Outgoing_next_break A) T.F_Outgoing_next_break sc_Outgoing_next_break (fun ds M Q E h => by obtain ⟨_, _, _, rfl, _⟩ := h; rfl) (fun cdv AA outer s H E w hr tk => der_Outgoing_next_break T  cdv AA outer s H E w hr tk) (fun ds M Q E h => sat_next_break A ds M Q E h)
theorem ok_Outgoing_piece {P : Program} {wd : World} {K : PySem.W.Frag} {mg : Str → Option Value} {base : Heap} {A : Ad} (T : Facts P K mg A) : FnOk P wd K mg base (L2.CX P wd) 5 A.f_Outgoing_piece A.fd_Outgoing_piece P_Outgoing_piece (liftS K (sd_Outgoing_piece A)) :=
  fn_okD (k := 4) (dt := d_Outgoing_piece A) T.F_Outgoing_piece sc_Outgoing_piece (fun ds M Q E h => by obtain ⟨_, _, _, _, _, _, rfl, _⟩ := h; rfl) (fun cdv AA outer s H E w hr tk => der_Outgoing_piece T (ok_drop_range T) cdv AA outer s H E w hr tk) (fun ds M Q E h => sat_piece A ds M Q E h)
theorem ok_Outgoing_next {P : Program} {wd : World} {K : PySem.W.Frag} {mg : Str → Option Value} {base : Heap} {A : Ad} (T : Facts P K mg A) : FnOk P wd K mg base (L2.CX P wd) 6 A.f_Outgoing_next A.fd_Outgoing_next P_Outgoing_next (liftS K (sd_Outgoing_next A)) :=
  fn_okD (k := 5) (dt := d_Outgoing_next A) T.F_Outgoing_next sc_Outgoing_next (fun ds M Q E h => by obtain ⟨_, _, _, _, _, _, rfl, _⟩ := h; rfl) (fun cdv AA outer s H E w hr tk => der_Outgoing_next T (ok_Outgoing_next_break T) (ok_Outgoing_piece T) cdv AA outer s H E w hr tk) (fun ds M Q E h => sat_next A ds M Q E h)
theorem ok_Outgoing_got {P : Program} {wd : World} {K : PySem.W.Frag} {mg : Str → Option Value} {base : Heap} {A : Ad} (T : Facts P K mg A) : FnOk P wd K mg base (L2.CX P wd) 5 A.f_Outgoing_got A.fd_Outgoing_got P_Outgoing_got (liftS K (sd_Outgoing_got A)) :=
  fn_okD (k := 4) (dt := d_Outgoing_got A) T.F_Outgoing_got sc_Outgoing_got (fun ds M Q E h => by obtain ⟨_, _, _, _, rfl, _⟩ := h; rfl) (fun cdv AA outer s H E w hr tk => der_Outgoing_got T (ok_drop_range T) (ok_put_range T) cdv AA outer s H E w hr tk) (fun ds M Q E h => sat_got A ds M Q E h)
theorem ok_Outgoing_lost {P : Program} {wd : World} {K : PySem.W.Frag} {mg : Str → Option Value} {base : Heap} {A : Ad} (T : Facts P K mg A) : FnOk P wd K mg base (L2.CX P wd) 6 A.f_Outgoing_lost A.fd_Outgoing_lost P_Outgoing_lost (liftS K (sd_Outgoing_lost A)) :=
  fn_okD (k := 5) (dt := d_Outgoing_lost A) T.F_Outgoing_lost sc_Outgoing_lost (fun ds M Q E h => by obtain ⟨_, _, _, _, rfl, _⟩ := h; rfl) (fun cdv AA outer s H E w hr tk => der_Outgoing_lost T (ok_drop_all T) (ok_put_range T) cdv AA outer s H E w hr tk) (fun ds M Q E h => sat_lost A ds M Q E h)
theorem ok_Outgoing_is_due {P : Program} {wd : World} {K : PySem.W.Frag} {mg : Str → Option Value} {base : Heap} {A : Ad} (T : Facts P K mg A) : FnOk P wd K mg base (L2.CX P wd) 4 A.f_Outgoing_is_due A.fd_Outgoing_is_due P_Outgoing_is_due (liftS K (sd_Outgoing_is_due A)) :=
  fn_okD (k := 3) (dt := d_Outgoing_is_due A) T.F_Outgoing_is_due sc_Outgoing_is_due (fun ds M Q E h => by obtain ⟨_, _, _, _, rfl, _⟩ := h; rfl) (fun cdv AA outer s H E w hr tk => der_Outgoing_is_due T  cdv AA outer s H E w hr tk) (fun ds M Q E h => sat_is_due A ds M Q E h)
theorem ok_Outgoing_memory {P : Program} {wd : World} {K : PySem.W.Frag} {mg : Str → Option Value} {base : Heap} {A : Ad} (T : Facts P K mg A) : FnOk P wd K mg base (L2.CX P wd) 4 A.f_Outgoing_memory A.fd_Outgoing_memory P_Outgoing_memory (liftS K (sd_Outgoing_memory A)) :=
  fn_okD (k := 3) (dt := d_Outgoing_memory A) T.F_Outgoing_memory sc_Outgoing_memory (fun ds M Q E h => by obtain ⟨_, _, _, rfl, _⟩ := h; rfl) (fun cdv AA outer s H E w hr tk => der_Outgoing_memory T  cdv AA outer s H E w hr tk) (fun ds M Q E h => sat_memory A ds M Q E h)
theorem ok_Incoming___init__ {P : Program} {wd : World} {K : PySem.W.Frag} {mg : Str → Option Value} {base : Heap} {A : Ad} (T : Facts P K mg A) : FnOk P wd K mg base (L2.CX P wd) 4 A.f_Incoming___init__ A.fd_Incoming___init__ P_Incoming___init__ (liftS K (sd_Incoming___init__ A)) :=
  fn_okD (k := 3) (dt := d_Incoming___init__ A) T.F_Incoming___init__ sc_Incoming___init__ (fun ds M Q E h => by obtain ⟨_, _, _, _, rfl, _⟩ := h; rfl) (fun cdv AA outer s H E w hr tk => der_Incoming___init__ T  cdv AA outer s H E w hr tk) (fun ds M Q E h => sat_inc_init A ds M Q E h)
theorem ok_Incoming_wrong {P : Program} {wd : World} {K : PySem.W.Frag} {mg : Str → Option Value} {base : Heap} {A : Ad} (T : Facts P K mg A) : FnOk P wd K mg base (L2.CX P wd) 4 A.f_Incoming_wrong A.fd_Incoming_wrong P_Incoming_wrong (liftS K (sd_Incoming_wrong A)) :=
  fn_okD (k := 3) (dt := d_Incoming_wrong A) T.F_Incoming_wrong sc_Incoming_wrong (fun ds M Q E h => by obtain ⟨_, _, _, _, rfl, _⟩ := h; rfl) (fun cdv AA outer s H E w hr tk => der_Incoming_wrong T  cdv AA outer s H E w hr tk) (fun ds M Q E h => sat_wrong A ds M Q E h)
theorem ok_Incoming_ready {P : Program} {wd : World} {K : PySem.W.Frag} {mg : Str → Option Value} {base : Heap} {A : Ad} (T : Facts P K mg A) : FnOk P wd K mg base (L2.CX P wd) 4 A.f_Incoming_ready A.fd_Incoming_ready P_Incoming_ready (liftS K (sd_Incoming_ready A)) :=
  fn_okD (k := 3) (dt := d_Incoming_ready A) T.F_Incoming_ready sc_Incoming_ready (fun ds M Q E h => by obtain ⟨_, _, _, rfl, _⟩ := h; rfl) (fun cdv AA outer s H E w hr tk => der_Incoming_ready T  cdv AA outer s H E w hr tk) (fun ds M Q E h => sat_ready A ds M Q E h)
theorem ok_Incoming_is_whole {P : Program} {wd : World} {K : PySem.W.Frag} {mg : Str → Option Value} {base : Heap} {A : Ad} (T : Facts P K mg A) : FnOk P wd K mg base (L2.CX P wd) 5 A.f_Incoming_is_whole A.fd_Incoming_is_whole P_Incoming_is_whole (liftS K (sd_Incoming_is_whole A)) :=
  fn_okD (k := 4) (dt := d_Incoming_is_whole A) T.F_Incoming_is_whole sc_Incoming_is_whole (fun ds M Q E h => by obtain ⟨_, _, _, rfl, _⟩ := h; rfl) (fun cdv AA outer s H E w hr tk => der_Incoming_is_whole T (ok_Incoming_ready T) cdv AA outer s H E w hr tk) (fun ds M Q E h => sat_is_whole A ds M Q E h)
theorem ok_Incoming_take_break {P : Program} {wd : World} {K : PySem.W.Frag} {mg : Str → Option Value} {base : Heap} {A : Ad} (T : Facts P K mg A) : FnOk P wd K mg base (L2.CX P wd) 6 A.f_Incoming_take_break A.fd_Incoming_take_break P_Incoming_take_break (liftS K (sd_Incoming_take_break A)) :=
  fn_okD (k := 5) (dt := d_Incoming_take_break A) T.F_Incoming_take_break sc_Incoming_take_break (fun ds M Q E h => by obtain ⟨_, _, _, _, rfl, _⟩ := h; rfl) (fun cdv AA outer s H E w hr tk => der_Incoming_take_break T (ok_Incoming_is_whole T) cdv AA outer s H E w hr tk) (fun ds M Q E h => sat_take_break A ds M Q E h)
theorem ok_Incoming_take {P : Program} {wd : World} {K : PySem.W.Frag} {mg : Str → Option Value} {base : Heap} {A : Ad} (T : Facts P K mg A) : FnOk P wd K mg base (L2.CX P wd) 7 A.f_Incoming_take A.fd_Incoming_take P_Incoming_take (liftS K (sd_Incoming_take A)) :=
  fn_okD (k := 6) (dt := d_Incoming_take A) T.F_Incoming_take sc_Incoming_take (fun ds M Q E h => by obtain ⟨_, _, _, _, rfl, _⟩ := h; rfl) (fun cdv AA outer s H E w hr tk => der_Incoming_take T (ok_Incoming_wrong T) (ok_Incoming_take_break T) (ok_gaps T) (ok_put_range T) cdv AA outer s H E w hr tk) (fun ds M Q E h => sat_take A ds M Q E h)
theorem ok_Incoming_read {P : Program} {wd : World} {K : PySem.W.Frag} {mg : Str → Option Value} {base : Heap} {A : Ad} (T : Facts P K mg A) : FnOk P wd K mg base (L2.CX P wd) 5 A.f_Incoming_read A.fd_Incoming_read P_Incoming_read (liftS K (sd_Incoming_read A)) :=
  fn_okD (k := 4) (dt := d_Incoming_read A) T.F_Incoming_read sc_Incoming_read (fun ds M Q E h => by obtain ⟨_, _, _, _, rfl, _⟩ := h; rfl) (fun cdv AA outer s H E w hr tk => der_Incoming_read T (ok_Incoming_ready T) cdv AA outer s H E w hr tk) (fun ds M Q E h => sat_read A ds M Q E h)
theorem ok_Incoming_grown {P : Program} {wd : World} {K : PySem.W.Frag} {mg : Str → Option Value} {base : Heap} {A : Ad} (T : Facts P K mg A) : FnOk P wd K mg base (L2.CX P wd) 4 A.f_Incoming_grown A.fd_Incoming_grown P_Incoming_grown (liftS K (sd_Incoming_grown A)) :=
  fn_okD (k := 3) (dt := d_Incoming_grown A) T.F_Incoming_grown sc_Incoming_grown (fun ds M Q E h => by obtain ⟨_, _, _, rfl, _⟩ := h; rfl) (fun cdv AA outer s H E w hr tk => der_Incoming_grown T  cdv AA outer s H E w hr tk) (fun ds M Q E h => sat_grown A ds M Q E h)
theorem ok_Incoming_let {P : Program} {wd : World} {K : PySem.W.Frag} {mg : Str → Option Value} {base : Heap} {A : Ad} (T : Facts P K mg A) : FnOk P wd K mg base (L2.CX P wd) 4 A.f_Incoming_let A.fd_Incoming_let P_Incoming_let (liftS K (sd_Incoming_let A)) :=
  fn_okD (k := 3) (dt := d_Incoming_let A) T.F_Incoming_let sc_Incoming_let (fun ds M Q E h => by obtain ⟨_, _, _, _, rfl, _⟩ := h; rfl) (fun cdv AA outer s H E w hr tk => der_Incoming_let T  cdv AA outer s H E w hr tk) (fun ds M Q E h => sat_let A ds M Q E h)
theorem ok_Incoming_memory {P : Program} {wd : World} {K : PySem.W.Frag} {mg : Str → Option Value} {base : Heap} {A : Ad} (T : Facts P K mg A) : FnOk P wd K mg base (L2.CX P wd) 5 A.f_Incoming_memory A.fd_Incoming_memory P_Incoming_memory (liftS K (sd_Incoming_memory A)) :=
  fn_okD (k := 4) (dt := d_Incoming_memory A) T.F_Incoming_memory sc_Incoming_memory (fun ds M Q E h => by obtain ⟨_, _, _, rfl, _⟩ := h; rfl) (fun cdv AA outer s H E w hr tk => der_Incoming_memory T (ok_count T) cdv AA outer s H E w hr tk) (fun ds M Q E h => sat_imemory A ds M Q E h)
theorem ok__law_draws {P : Program} {wd : World} {K : PySem.W.Frag} {mg : Str → Option Value} {base : Heap} {A : Ad} (T : Facts P K mg A) : FnOk P wd K mg base (L2.CX P wd) 4 A.f__law_draws A.fd__law_draws P__law_draws (liftS K (sd__law_draws A)) :=
  fn_okD (k := 3) (dt := d__law_draws A) T.F__law_draws sc__law_draws (fun ds M Q E h => by obtain ⟨_, rfl, _⟩ := h; rfl) (fun cdv AA outer s H E w hr tk => der__law_draws T  cdv AA outer s H E w hr tk) (fun ds M Q E h => sat_draws A ds M Q E h)
theorem ok__law_draw {P : Program} {wd : World} {K : PySem.W.Frag} {mg : Str → Option Value} {base : Heap} {A : Ad} (T : Facts P K mg A) : FnOk P wd K mg base (L2.CX P wd) 4 A.f__law_draw A.fd__law_draw P__law_draw (liftS K (sd__law_draw A)) :=
  fn_okD (k := 3) (dt := d__law_draw A) T.F__law_draw sc__law_draw (fun ds M Q E h => by obtain ⟨_, _, _, rfl, _⟩ := h; rfl) (fun cdv AA outer s H E w hr tk => der__law_draw T  cdv AA outer s H E w hr tk) (fun ds M Q E h => sat_draw A ds M Q E h)
theorem okN__law_same {P : Program} {wd : World} {K : PySem.W.Frag} {mg : Str → Option Value} {base : Heap} {A : Ad} (T : Facts P K mg A) : ∀ n : Nat, FnOk P wd K mg base (L2.CX P wd) (n + 4) A.f__law_same A.fd__law_same P__law_same (liftS K (sdN__law_same n))
  | 0 => fn_okD (k := 3) (dt := d__law_same A (prevS (0))) T.F__law_same sc__law_same (fun ds M Q E h => by obtain ⟨_, rfl, _⟩ := h; rfl) (fun cdv AA outer s H E w hr tk => der__law_same (k := 3) (sr := prevS (0)) T (fn_never (k := 3)) cdv AA outer s H E w hr tk) (fun ds M Q E h => sat_same A (0) ds M Q E h)
  | n + 1 => fn_okD (k := n + 4) (dt := d__law_same A (prevS (n + 1))) T.F__law_same sc__law_same (fun ds M Q E h => by obtain ⟨_, rfl, _⟩ := h; rfl) (fun cdv AA outer s H E w hr tk => der__law_same (k := n + 4) (sr := prevS (n + 1)) T (okN__law_same T n) cdv AA outer s H E w hr tk) (fun ds M Q E h => sat_same A (n + 1) ds M Q E h)
theorem ok__law_same {P : Program} {wd : World} {K : PySem.W.Frag} {mg : Str → Option Value} {base : Heap} {A : Ad} (T : Facts P K mg A) : FnOk P wd K mg base (L2.CX P wd) 8 A.f__law_same A.fd__law_same P__law_same (liftS K (sd__law_same A)) := fn_mono (okN__law_same T 3) (by decide)
theorem okN__law_copy {P : Program} {wd : World} {K : PySem.W.Frag} {mg : Str → Option Value} {base : Heap} {A : Ad} (T : Facts P K mg A) : ∀ n : Nat, FnOk P wd K mg base (L2.CX P wd) (n + 4) A.f__law_copy A.fd__law_copy P__law_copy (liftS K (sdN__law_copy n))
  | 0 => fn_okD (k := 3) (dt := d__law_copy A (prevC (0))) T.F__law_copy sc__law_copy (fun ds M Q E h => by obtain ⟨_, rfl, _⟩ := h; rfl) (fun cdv AA outer s H E w hr tk => der__law_copy (k := 3) (sr := prevC (0)) T (fn_never (k := 3)) cdv AA outer s H E w hr tk) (fun ds M Q E h => sat_copy A (0) ds M Q E h)
  | n + 1 => fn_okD (k := n + 4) (dt := d__law_copy A (prevC (n + 1))) T.F__law_copy sc__law_copy (fun ds M Q E h => by obtain ⟨_, rfl, _⟩ := h; rfl) (fun cdv AA outer s H E w hr tk => der__law_copy (k := n + 4) (sr := prevC (n + 1)) T (okN__law_copy T n) cdv AA outer s H E w hr tk) (fun ds M Q E h => sat_copy A (n + 1) ds M Q E h)
theorem ok__law_copy {P : Program} {wd : World} {K : PySem.W.Frag} {mg : Str → Option Value} {base : Heap} {A : Ad} (T : Facts P K mg A) : FnOk P wd K mg base (L2.CX P wd) 9 A.f__law_copy A.fd__law_copy P__law_copy (liftS K (sd__law_copy A)) := fn_mono (okN__law_copy T 4) (by decide)
theorem ok__law_refused {P : Program} {wd : World} {K : PySem.W.Frag} {mg : Str → Option Value} {base : Heap} {A : Ad} (T : Facts P K mg A) : FnOk P wd K mg base (L2.CX P wd) 6 A.f__law_refused A.fd__law_refused P__law_refused (liftS K (sd__law_refused A)) :=
  fn_okD (k := 5) (dt := d__law_refused A) T.F__law_refused sc__law_refused (fun ds M Q E h => by obtain ⟨_, _, _, _, rfl, _⟩ := h; rfl) (fun cdv AA outer s H E w hr tk => der__law_refused T (ok_Outgoing_write T) (ok_Outgoing_finish T) (ok_Outgoing_breaks T) cdv AA outer s H E w hr tk) (fun ds M Q E h => sat_refused A ds M Q E h)
theorem ok__law_broken {P : Program} {wd : World} {K : PySem.W.Frag} {mg : Str → Option Value} {base : Heap} {A : Ad} (T : Facts P K mg A) : FnOk P wd K mg base (L2.CX P wd) 7 A.f__law_broken A.fd__law_broken P__law_broken (liftS K (sd__law_broken A)) :=
  fn_okD (k := 6) (dt := d__law_broken A) T.F__law_broken sc__law_broken (fun ds M Q E h => by obtain ⟨_, _, _, _, rfl, _⟩ := h; rfl) (fun cdv AA outer s H E w hr tk => der__law_broken T (ok__law_refused T) (ok_Outgoing_memory T) (ok_Outgoing_is_done T) (ok_Outgoing_is_due T) (ok_Outgoing_next T) cdv AA outer s H E w hr tk) (fun ds M Q E h => sat_broken A ds M Q E h)
theorem ok_law {P : Program} {wd : World} {K : PySem.W.Frag} {mg : Str → Option Value} {base : Heap} {A : Ad} (T : Facts P K mg A) : FnOk P wd K mg base (L2.CX P wd) 10 A.f_law A.fd_law P_law (liftS K (sd_law A)) :=
  fn_okD (k := 9) (dt := d_law A) T.F_law sc_law (fun ds M Q E h => by obtain ⟨_, rfl, _⟩ := h; rfl) (fun cdv AA outer s H E w hr tk => der_law T (ok__law_draws T) (ok__law_draw T) (ok_Outgoing___init__ T) (ok_Incoming___init__ T) (ok_Outgoing_write T) (ok_Outgoing_finish T) (ok_Outgoing_is_done T) (ok__law_same T) (ok__law_refused T) (ok__law_broken T) (ok_Outgoing_next T) (ok_Incoming_is_whole T) (ok_Incoming_read T) (ok_Incoming_take T) (ok__law_copy T) (ok_Incoming_memory T) (ok_Outgoing_got T) (ok_Outgoing_lost T) (ok_Incoming_grown T) (ok_Incoming_let T) (ok_Outgoing_memory T) (ok_Incoming_ready T) cdv AA outer s H E w hr tk) (fun ds M Q E h => sat_law A ds M Q E h)
def sdL : DSp := fun ds M Q _ => ∃ ns : List Int, ds = [.src ns] ∧ ∀ M', Q (.bl true) M'
/-- an error of the class at S is what «except S» names -/
theorem exm_self {K : PySem.W.Frag} {S : Addr} (h1 : PySem.W.subIn K (.ref S) (.type "BaseException") = some true) (h2 : PySem.W.isClsIn K S = true) (h3 : PySem.W.typeIn K (.ref S) = some (.type "type")) (h4 : PySem.W.subIn K (.ref S) (.ref S) = some true) :
    PySem.W.exmOne K (.ref S) (.ref S) = some true := by
  have e1 : (PySem.W.subIn K (.ref S) (.type "BaseException") == some true) = true := by rw [h1] <;> rfl
  have e2 : ((PySem.W.clsIn K S).isSome && PySem.W.typeIn K (.ref S) == some (.type "type")) = true := by
    have h2' : (PySem.W.clsIn K S).isSome = true := h2
    rw [h2', h3] <;> rfl
  show (if (PySem.W.subIn K (.ref S) (.type "BaseException") == some true) = true then (if ((PySem.W.clsIn K S).isSome && PySem.W.typeIn K (.ref S) == some (.type "type")) = true then PySem.W.subIn K (.ref S) (.ref S) else none) else none) = some true
  rw [if_pos e1, if_pos e2]
  exact h4
theorem all_mk {P : Program} {wd : World} {K : PySem.W.Frag} {h : Heap} {mg : Str → Option Value} {fa c_Outgoing c_Incoming c_Wrong c_DeedWrong f0 f1 f2 f3 f4 f5 f6 f7 f8 f9 f10 f11 f12 f13 f14 f15 f16 f17 f18 f19 f20 f21 f22 f23 f24 f25 f26 f27 f28 f29 f30 f31 f32 f33 f34 fE : Addr} (X : K.In h) (G : h.Ns mainGlobals mg) (hfa : mg "law" = some (.ref fa))
    {od0 an0 od1 an1 od2 an2 od3 an3 od4 an4 od5 an5 od6 an6 od7 an7 od8 an8 od9 an9 od10 an10 od11 an11 od12 an12 od13 an13 od14 an14 od15 an15 od16 an16 od17 an17 od18 an18 od19 an19 od20 an20 od21 an21 od22 an22 od23 an23 od24 an24 od25 an25 od26 an26 od27 an27 od28 an28 od29 an29 od30 an30 od31 an31 od32 an32 od33 an33 od34 an34 : Option Addr} {sl0 sl1 sl2 sl3 sl4 sl5 sl6 sl7 sl8 sl9 sl10 sl11 sl12 sl13 sl14 sl15 sl16 sl17 sl18 sl19 sl20 sl21 sl22 sl23 sl24 sl25 sl26 sl27 sl28 sl29 sl30 sl31 sl32 sl33 sl34 : Array (Option Value)} {oc0 kV0 dc0 pm0 cd0 ct0 oc1 kV1 dc1 pm1 cd1 ct1 oc2 kV2 dc2 pm2 cd2 ct2 oc3 kV3 dc3 pm3 cd3 ct3 oc4 kV4 dc4 pm4 cd4 ct4 oc5 kV5 dc5 pm5 cd5 ct5 oc6 kV6 dc6 pm6 cd6 ct6 oc7 kV7 dc7 pm7 cd7 ct7 oc8 kV8 dc8 pm8 cd8 ct8 oc9 kV9 dc9 pm9 cd9 ct9 oc10 kV10 dc10 pm10 cd10 ct10 oc11 kV11 dc11 pm11 cd11 ct11 oc12 kV12 dc12 pm12 cd12 ct12 oc13 kV13 dc13 pm13 cd13 ct13 oc14 kV14 dc14 pm14 cd14 ct14 oc15 kV15 dc15 pm15 cd15 ct15 oc16 kV16 dc16 pm16 cd16 ct16 oc17 kV17 dc17 pm17 cd17 ct17 oc18 kV18 dc18 pm18 cd18 ct18 oc19 kV19 dc19 pm19 cd19 ct19 oc20 kV20 dc20 pm20 cd20 ct20 oc21 kV21 dc21 pm21 cd21 ct21 oc22 kV22 dc22 pm22 cd22 ct22 oc23 kV23 dc23 pm23 cd23 ct23 oc24 kV24 dc24 pm24 cd24 ct24 oc25 kV25 dc25 pm25 cd25 ct25 oc26 kV26 dc26 pm26 cd26 ct26 oc27 kV27 dc27 pm27 cd27 ct27 oc28 kV28 dc28 pm28 cd28 ct28 oc29 kV29 dc29 pm29 cd29 ct29 oc30 kV30 dc30 pm30 cd30 ct30 oc31 kV31 dc31 pm31 cd31 ct31 oc32 kV32 dc32 pm32 cd32 ct32 oc33 kV33 dc33 pm33 cd33 ct33 oc34 kV34 dc34 pm34 cd34 ct34 : Value}
    {nm_Wrong q_Wrong : Str} {N_Wrong : Addr} {bs_Wrong bm_Wrong : List Value} {sn_Wrong : List Str} {sub_Wrong : List Value} {ab_Wrong : Bool} {col_Wrong : Option Bool} {dd_Wrong : Option Addr} {k0_Wrong k1_Wrong k2_Wrong k3_Wrong k5_Wrong : Option Value}
    {nm_DeedWrong q_DeedWrong : Str} {N_DeedWrong : Addr} {bs_DeedWrong bm_DeedWrong : List Value} {sn_DeedWrong : List Str} {sub_DeedWrong : List Value} {ab_DeedWrong : Bool} {col_DeedWrong : Option Bool} {dd_DeedWrong : Option Addr} {k0_DeedWrong k1_DeedWrong k2_DeedWrong k3_DeedWrong k5_DeedWrong : Option Value}
    {ocE : Value} {odE : Option Addr} {dcE pmE : Value} {anE : Option Addr} {ctE : Value} {slE : Array (Option Value)} {cda ccE dE : Addr} {cclE clE : Value} {cddE cldE : Option Addr} {vsE : Array Value} {ccsE cslE : Array (Option Value)} {fileE : Str} {tfE : Tok} {cdD : ClassData}
    {tk_FURTHEST_incoming : Nat} (hg_FURTHEST_incoming : mg "FURTHEST_incoming" = some (.int 16777215 tk_FURTHEST_incoming))
    {tk_FURTHEST_outgoing : Nat} (hg_FURTHEST_outgoing : mg "FURTHEST_outgoing" = some (.int 16777215 tk_FURTHEST_outgoing))
    (aC_Outgoing : PySem.W.nsIn K mainGlobals "Outgoing" = some (some (.ref c_Outgoing)))
    (aC_Incoming : PySem.W.nsIn K mainGlobals "Incoming" = some (some (.ref c_Incoming)))
    (aC_Wrong : PySem.W.nsIn K mainGlobals "Wrong" = some (some (.ref c_Wrong)))
    (aC_DeedWrong : PySem.W.nsIn K mainGlobals "DeedWrong" = some (some (.ref c_DeedWrong)))
    (a0 : PySem.W.nsIn K mainGlobals "put_range" = some (some (.ref f0)))
    (l0 : K.lookup f0 = some ⟨oc0, od0, .func (PySem.W.fnOf "put_range" "put_range" (defArgs s_put_range) (defBody s_put_range) (defScope s_put_range) .none kV0 dc0 pm0 an0 cd0 ct0), sl0⟩)
    (c0 : PySem.W.codeIn K cd0 "put_range" = true)
    (k0 : PySem.W.keepIn K (.ref f0) = true)
    (a1 : PySem.W.nsIn K mainGlobals "drop_range" = some (some (.ref f1)))
    (l1 : K.lookup f1 = some ⟨oc1, od1, .func (PySem.W.fnOf "drop_range" "drop_range" (defArgs s_drop_range) (defBody s_drop_range) (defScope s_drop_range) .none kV1 dc1 pm1 an1 cd1 ct1), sl1⟩)
    (c1 : PySem.W.codeIn K cd1 "drop_range" = true)
    (k1 : PySem.W.keepIn K (.ref f1) = true)
    (a2 : PySem.W.nsIn K mainGlobals "drop_all" = some (some (.ref f2)))
    (l2 : K.lookup f2 = some ⟨oc2, od2, .func (PySem.W.fnOf "drop_all" "drop_all" (defArgs s_drop_all) (defBody s_drop_all) (defScope s_drop_all) .none kV2 dc2 pm2 an2 cd2 ct2), sl2⟩)
    (c2 : PySem.W.codeIn K cd2 "drop_all" = true)
    (k2 : PySem.W.keepIn K (.ref f2) = true)
    (a3 : PySem.W.nsIn K mainGlobals "gaps" = some (some (.ref f3)))
    (l3 : K.lookup f3 = some ⟨oc3, od3, .func (PySem.W.fnOf "gaps" "gaps" (defArgs s_gaps) (defBody s_gaps) (defScope s_gaps) .none kV3 dc3 pm3 an3 cd3 ct3), sl3⟩)
    (c3 : PySem.W.codeIn K cd3 "gaps" = true)
    (k3 : PySem.W.keepIn K (.ref f3) = true)
    (a4 : PySem.W.nsIn K mainGlobals "count" = some (some (.ref f4)))
    (l4 : K.lookup f4 = some ⟨oc4, od4, .func (PySem.W.fnOf "count" "count" (defArgs s_count) (defBody s_count) (defScope s_count) .none kV4 dc4 pm4 an4 cd4 ct4), sl4⟩)
    (c4 : PySem.W.codeIn K cd4 "count" = true)
    (k4 : PySem.W.keepIn K (.ref f4) = true)
    (a5 : PySem.W.findIn K (.ref c_Outgoing) "__init__" = some (some (.ref f5)))
    (i5 : PySem.W.isFn K (.ref f5) = true)
    (l5 : K.lookup f5 = some ⟨oc5, od5, .func (PySem.W.fnOf "__init__" "Outgoing.__init__" (defArgs s_Outgoing___init__) (defBody s_Outgoing___init__) (defScope s_Outgoing___init__) .none kV5 dc5 pm5 an5 cd5 ct5), sl5⟩)
    (c5 : PySem.W.codeIn K cd5 "Outgoing.__init__" = true)
    (k5 : PySem.W.keepIn K (.ref f5) = true)
    (a6 : PySem.W.findIn K (.ref c_Outgoing) "must_stand" = some (some (.ref f6)))
    (i6 : PySem.W.isFn K (.ref f6) = true)
    (l6 : K.lookup f6 = some ⟨oc6, od6, .func (PySem.W.fnOf "must_stand" "Outgoing.must_stand" (defArgs s_Outgoing_must_stand) (defBody s_Outgoing_must_stand) (defScope s_Outgoing_must_stand) .none kV6 dc6 pm6 an6 cd6 ct6), sl6⟩)
    (c6 : PySem.W.codeIn K cd6 "Outgoing.must_stand" = true)
    (k6 : PySem.W.keepIn K (.ref f6) = true)
    (a7 : PySem.W.findIn K (.ref c_Outgoing) "is_done" = some (some (.ref f7)))
    (i7 : PySem.W.isFn K (.ref f7) = true)
    (l7 : K.lookup f7 = some ⟨oc7, od7, .func (PySem.W.fnOf "is_done" "Outgoing.is_done" (defArgs s_Outgoing_is_done) (defBody s_Outgoing_is_done) (defScope s_Outgoing_is_done) .none kV7 dc7 pm7 an7 cd7 ct7), sl7⟩)
    (c7 : PySem.W.codeIn K cd7 "Outgoing.is_done" = true)
    (k7 : PySem.W.keepIn K (.ref f7) = true)
    (a8 : PySem.W.findIn K (.ref c_Outgoing) "write" = some (some (.ref f8)))
    (i8 : PySem.W.isFn K (.ref f8) = true)
    (l8 : K.lookup f8 = some ⟨oc8, od8, .func (PySem.W.fnOf "write" "Outgoing.write" (defArgs s_Outgoing_write) (defBody s_Outgoing_write) (defScope s_Outgoing_write) .none kV8 dc8 pm8 an8 cd8 ct8), sl8⟩)
    (c8 : PySem.W.codeIn K cd8 "Outgoing.write" = true)
    (k8 : PySem.W.keepIn K (.ref f8) = true)
    (a9 : PySem.W.findIn K (.ref c_Outgoing) "breaks" = some (some (.ref f9)))
    (i9 : PySem.W.isFn K (.ref f9) = true)
    (l9 : K.lookup f9 = some ⟨oc9, od9, .func (PySem.W.fnOf "breaks" "Outgoing.breaks" (defArgs s_Outgoing_breaks) (defBody s_Outgoing_breaks) (defScope s_Outgoing_breaks) .none kV9 dc9 pm9 an9 cd9 ct9), sl9⟩)
    (c9 : PySem.W.codeIn K cd9 "Outgoing.breaks" = true)
    (k9 : PySem.W.keepIn K (.ref f9) = true)
    (a10 : PySem.W.findIn K (.ref c_Outgoing) "finish" = some (some (.ref f10)))
    (i10 : PySem.W.isFn K (.ref f10) = true)
    (l10 : K.lookup f10 = some ⟨oc10, od10, .func (PySem.W.fnOf "finish" "Outgoing.finish" (defArgs s_Outgoing_finish) (defBody s_Outgoing_finish) (defScope s_Outgoing_finish) .none kV10 dc10 pm10 an10 cd10 ct10), sl10⟩)
    (c10 : PySem.W.codeIn K cd10 "Outgoing.finish" = true)
    (k10 : PySem.W.keepIn K (.ref f10) = true)
    (a11 : PySem.W.findIn K (.ref c_Outgoing) "next_break" = some (some (.ref f11)))
    (i11 : PySem.W.isFn K (.ref f11) = true)
    (l11 : K.lookup f11 = some ⟨oc11, od11, .func (PySem.W.fnOf "next_break" "Outgoing.next_break" (defArgs s_Outgoing_next_break) (defBody s_Outgoing_next_break) (defScope s_Outgoing_next_break) .none kV11 dc11 pm11 an11 cd11 ct11), sl11⟩)
    (c11 : PySem.W.codeIn K cd11 "Outgoing.next_break" = true)
    (k11 : PySem.W.keepIn K (.ref f11) = true)
    (a12 : PySem.W.findIn K (.ref c_Outgoing) "piece" = some (some (.ref f12)))
    (i12 : PySem.W.isFn K (.ref f12) = true)
    (l12 : K.lookup f12 = some ⟨oc12, od12, .func (PySem.W.fnOf "piece" "Outgoing.piece" (defArgs s_Outgoing_piece) (defBody s_Outgoing_piece) (defScope s_Outgoing_piece) .none kV12 dc12 pm12 an12 cd12 ct12), sl12⟩)
    (c12 : PySem.W.codeIn K cd12 "Outgoing.piece" = true)
    (k12 : PySem.W.keepIn K (.ref f12) = true)
    (a13 : PySem.W.findIn K (.ref c_Outgoing) "next" = some (some (.ref f13)))
    (i13 : PySem.W.isFn K (.ref f13) = true)
    (l13 : K.lookup f13 = some ⟨oc13, od13, .func (PySem.W.fnOf "next" "Outgoing.next" (defArgs s_Outgoing_next) (defBody s_Outgoing_next) (defScope s_Outgoing_next) .none kV13 dc13 pm13 an13 cd13 ct13), sl13⟩)
    (c13 : PySem.W.codeIn K cd13 "Outgoing.next" = true)
    (k13 : PySem.W.keepIn K (.ref f13) = true)
    (a14 : PySem.W.findIn K (.ref c_Outgoing) "got" = some (some (.ref f14)))
    (i14 : PySem.W.isFn K (.ref f14) = true)
    (l14 : K.lookup f14 = some ⟨oc14, od14, .func (PySem.W.fnOf "got" "Outgoing.got" (defArgs s_Outgoing_got) (defBody s_Outgoing_got) (defScope s_Outgoing_got) .none kV14 dc14 pm14 an14 cd14 ct14), sl14⟩)
    (c14 : PySem.W.codeIn K cd14 "Outgoing.got" = true)
    (k14 : PySem.W.keepIn K (.ref f14) = true)
    (a15 : PySem.W.findIn K (.ref c_Outgoing) "lost" = some (some (.ref f15)))
    (i15 : PySem.W.isFn K (.ref f15) = true)
    (l15 : K.lookup f15 = some ⟨oc15, od15, .func (PySem.W.fnOf "lost" "Outgoing.lost" (defArgs s_Outgoing_lost) (defBody s_Outgoing_lost) (defScope s_Outgoing_lost) .none kV15 dc15 pm15 an15 cd15 ct15), sl15⟩)
    (c15 : PySem.W.codeIn K cd15 "Outgoing.lost" = true)
    (k15 : PySem.W.keepIn K (.ref f15) = true)
    (a16 : PySem.W.findIn K (.ref c_Outgoing) "is_due" = some (some (.ref f16)))
    (i16 : PySem.W.isFn K (.ref f16) = true)
    (l16 : K.lookup f16 = some ⟨oc16, od16, .func (PySem.W.fnOf "is_due" "Outgoing.is_due" (defArgs s_Outgoing_is_due) (defBody s_Outgoing_is_due) (defScope s_Outgoing_is_due) .none kV16 dc16 pm16 an16 cd16 ct16), sl16⟩)
    (c16 : PySem.W.codeIn K cd16 "Outgoing.is_due" = true)
    (k16 : PySem.W.keepIn K (.ref f16) = true)
    (a17 : PySem.W.findIn K (.ref c_Outgoing) "memory" = some (some (.ref f17)))
    (i17 : PySem.W.isFn K (.ref f17) = true)
    (l17 : K.lookup f17 = some ⟨oc17, od17, .func (PySem.W.fnOf "memory" "Outgoing.memory" (defArgs s_Outgoing_memory) (defBody s_Outgoing_memory) (defScope s_Outgoing_memory) .none kV17 dc17 pm17 an17 cd17 ct17), sl17⟩)
    (c17 : PySem.W.codeIn K cd17 "Outgoing.memory" = true)
    (k17 : PySem.W.keepIn K (.ref f17) = true)
    (a18 : PySem.W.findIn K (.ref c_Incoming) "__init__" = some (some (.ref f18)))
    (i18 : PySem.W.isFn K (.ref f18) = true)
    (l18 : K.lookup f18 = some ⟨oc18, od18, .func (PySem.W.fnOf "__init__" "Incoming.__init__" (defArgs s_Incoming___init__) (defBody s_Incoming___init__) (defScope s_Incoming___init__) .none kV18 dc18 pm18 an18 cd18 ct18), sl18⟩)
    (c18 : PySem.W.codeIn K cd18 "Incoming.__init__" = true)
    (k18 : PySem.W.keepIn K (.ref f18) = true)
    (a19 : PySem.W.findIn K (.ref c_Incoming) "wrong" = some (some (.ref f19)))
    (i19 : PySem.W.isFn K (.ref f19) = true)
    (l19 : K.lookup f19 = some ⟨oc19, od19, .func (PySem.W.fnOf "wrong" "Incoming.wrong" (defArgs s_Incoming_wrong) (defBody s_Incoming_wrong) (defScope s_Incoming_wrong) .none kV19 dc19 pm19 an19 cd19 ct19), sl19⟩)
    (c19 : PySem.W.codeIn K cd19 "Incoming.wrong" = true)
    (k19 : PySem.W.keepIn K (.ref f19) = true)
    (a20 : PySem.W.findIn K (.ref c_Incoming) "ready" = some (some (.ref f20)))
    (i20 : PySem.W.isFn K (.ref f20) = true)
    (l20 : K.lookup f20 = some ⟨oc20, od20, .func (PySem.W.fnOf "ready" "Incoming.ready" (defArgs s_Incoming_ready) (defBody s_Incoming_ready) (defScope s_Incoming_ready) .none kV20 dc20 pm20 an20 cd20 ct20), sl20⟩)
    (c20 : PySem.W.codeIn K cd20 "Incoming.ready" = true)
    (k20 : PySem.W.keepIn K (.ref f20) = true)
    (a21 : PySem.W.findIn K (.ref c_Incoming) "is_whole" = some (some (.ref f21)))
    (i21 : PySem.W.isFn K (.ref f21) = true)
    (l21 : K.lookup f21 = some ⟨oc21, od21, .func (PySem.W.fnOf "is_whole" "Incoming.is_whole" (defArgs s_Incoming_is_whole) (defBody s_Incoming_is_whole) (defScope s_Incoming_is_whole) .none kV21 dc21 pm21 an21 cd21 ct21), sl21⟩)
    (c21 : PySem.W.codeIn K cd21 "Incoming.is_whole" = true)
    (k21 : PySem.W.keepIn K (.ref f21) = true)
    (a22 : PySem.W.findIn K (.ref c_Incoming) "take_break" = some (some (.ref f22)))
    (i22 : PySem.W.isFn K (.ref f22) = true)
    (l22 : K.lookup f22 = some ⟨oc22, od22, .func (PySem.W.fnOf "take_break" "Incoming.take_break" (defArgs s_Incoming_take_break) (defBody s_Incoming_take_break) (defScope s_Incoming_take_break) .none kV22 dc22 pm22 an22 cd22 ct22), sl22⟩)
    (c22 : PySem.W.codeIn K cd22 "Incoming.take_break" = true)
    (k22 : PySem.W.keepIn K (.ref f22) = true)
    (a23 : PySem.W.findIn K (.ref c_Incoming) "take" = some (some (.ref f23)))
    (i23 : PySem.W.isFn K (.ref f23) = true)
    (l23 : K.lookup f23 = some ⟨oc23, od23, .func (PySem.W.fnOf "take" "Incoming.take" (defArgs s_Incoming_take) (defBody s_Incoming_take) (defScope s_Incoming_take) .none kV23 dc23 pm23 an23 cd23 ct23), sl23⟩)
    (c23 : PySem.W.codeIn K cd23 "Incoming.take" = true)
    (k23 : PySem.W.keepIn K (.ref f23) = true)
    (a24 : PySem.W.findIn K (.ref c_Incoming) "read" = some (some (.ref f24)))
    (i24 : PySem.W.isFn K (.ref f24) = true)
    (l24 : K.lookup f24 = some ⟨oc24, od24, .func (PySem.W.fnOf "read" "Incoming.read" (defArgs s_Incoming_read) (defBody s_Incoming_read) (defScope s_Incoming_read) .none kV24 dc24 pm24 an24 cd24 ct24), sl24⟩)
    (c24 : PySem.W.codeIn K cd24 "Incoming.read" = true)
    (k24 : PySem.W.keepIn K (.ref f24) = true)
    (a25 : PySem.W.findIn K (.ref c_Incoming) "grown" = some (some (.ref f25)))
    (i25 : PySem.W.isFn K (.ref f25) = true)
    (l25 : K.lookup f25 = some ⟨oc25, od25, .func (PySem.W.fnOf "grown" "Incoming.grown" (defArgs s_Incoming_grown) (defBody s_Incoming_grown) (defScope s_Incoming_grown) .none kV25 dc25 pm25 an25 cd25 ct25), sl25⟩)
    (c25 : PySem.W.codeIn K cd25 "Incoming.grown" = true)
    (k25 : PySem.W.keepIn K (.ref f25) = true)
    (a26 : PySem.W.findIn K (.ref c_Incoming) "let" = some (some (.ref f26)))
    (i26 : PySem.W.isFn K (.ref f26) = true)
    (l26 : K.lookup f26 = some ⟨oc26, od26, .func (PySem.W.fnOf "let" "Incoming.let" (defArgs s_Incoming_let) (defBody s_Incoming_let) (defScope s_Incoming_let) .none kV26 dc26 pm26 an26 cd26 ct26), sl26⟩)
    (c26 : PySem.W.codeIn K cd26 "Incoming.let" = true)
    (k26 : PySem.W.keepIn K (.ref f26) = true)
    (a27 : PySem.W.findIn K (.ref c_Incoming) "memory" = some (some (.ref f27)))
    (i27 : PySem.W.isFn K (.ref f27) = true)
    (l27 : K.lookup f27 = some ⟨oc27, od27, .func (PySem.W.fnOf "memory" "Incoming.memory" (defArgs s_Incoming_memory) (defBody s_Incoming_memory) (defScope s_Incoming_memory) .none kV27 dc27 pm27 an27 cd27 ct27), sl27⟩)
    (c27 : PySem.W.codeIn K cd27 "Incoming.memory" = true)
    (k27 : PySem.W.keepIn K (.ref f27) = true)
    (a28 : PySem.W.nsIn K mainGlobals "_law_draws" = some (some (.ref f28)))
    (l28 : K.lookup f28 = some ⟨oc28, od28, .func (PySem.W.fnOf "_law_draws" "_law_draws" (defArgs s__law_draws) (defBody s__law_draws) (defScope s__law_draws) .none kV28 dc28 pm28 an28 cd28 ct28), sl28⟩)
    (c28 : PySem.W.codeIn K cd28 "_law_draws" = true)
    (k28 : PySem.W.keepIn K (.ref f28) = true)
    (a29 : PySem.W.nsIn K mainGlobals "_law_draw" = some (some (.ref f29)))
    (l29 : K.lookup f29 = some ⟨oc29, od29, .func (PySem.W.fnOf "_law_draw" "_law_draw" (defArgs s__law_draw) (defBody s__law_draw) (defScope s__law_draw) .none kV29 dc29 pm29 an29 cd29 ct29), sl29⟩)
    (c29 : PySem.W.codeIn K cd29 "_law_draw" = true)
    (k29 : PySem.W.keepIn K (.ref f29) = true)
    (a30 : PySem.W.nsIn K mainGlobals "_law_same" = some (some (.ref f30)))
    (l30 : K.lookup f30 = some ⟨oc30, od30, .func (PySem.W.fnOf "_law_same" "_law_same" (defArgs s__law_same) (defBody s__law_same) (defScope s__law_same) .none kV30 dc30 pm30 an30 cd30 ct30), sl30⟩)
    (c30 : PySem.W.codeIn K cd30 "_law_same" = true)
    (k30 : PySem.W.keepIn K (.ref f30) = true)
    (a31 : PySem.W.nsIn K mainGlobals "_law_copy" = some (some (.ref f31)))
    (l31 : K.lookup f31 = some ⟨oc31, od31, .func (PySem.W.fnOf "_law_copy" "_law_copy" (defArgs s__law_copy) (defBody s__law_copy) (defScope s__law_copy) .none kV31 dc31 pm31 an31 cd31 ct31), sl31⟩)
    (c31 : PySem.W.codeIn K cd31 "_law_copy" = true)
    (k31 : PySem.W.keepIn K (.ref f31) = true)
    (a32 : PySem.W.nsIn K mainGlobals "_law_refused" = some (some (.ref f32)))
    (l32 : K.lookup f32 = some ⟨oc32, od32, .func (PySem.W.fnOf "_law_refused" "_law_refused" (defArgs s__law_refused) (defBody s__law_refused) (defScope s__law_refused) .none kV32 dc32 pm32 an32 cd32 ct32), sl32⟩)
    (c32 : PySem.W.codeIn K cd32 "_law_refused" = true)
    (k32 : PySem.W.keepIn K (.ref f32) = true)
    (a33 : PySem.W.nsIn K mainGlobals "_law_broken" = some (some (.ref f33)))
    (l33 : K.lookup f33 = some ⟨oc33, od33, .func (PySem.W.fnOf "_law_broken" "_law_broken" (defArgs s__law_broken) (defBody s__law_broken) (defScope s__law_broken) .none kV33 dc33 pm33 an33 cd33 ct33), sl33⟩)
    (c33 : PySem.W.codeIn K cd33 "_law_broken" = true)
    (k33 : PySem.W.keepIn K (.ref f33) = true)
    (a34 : PySem.W.nsIn K mainGlobals "law" = some (some (.ref f34)))
    (l34 : K.lookup f34 = some ⟨oc34, od34, .func (PySem.W.fnOf "law" "law" (defArgs s_law) (defBody s_law) (defScope s_law) .none kV34 dc34 pm34 an34 cd34 ct34), sl34⟩)
    (c34 : PySem.W.codeIn K cd34 "law" = true)
    (k34 : PySem.W.keepIn K (.ref f34) = true)
    (pg_Outgoing : PySem.W.plainGet K c_Outgoing Str.empty = true)
    (hd_Outgoing : PySem.W.hasDictIn K c_Outgoing = true)
    (po_Outgoing : PySem.W.plainOver K c_Outgoing = true)
    (sa_Outgoing : PySem.W.findIn K (.ref c_Outgoing) "__setattr__" = some (some (.builtin "object.__setattr__")))
    (mk_Outgoing : PySem.W.makesIn K c_Outgoing = true)
    (kc_Outgoing : PySem.W.keepIn K (.ref c_Outgoing) = true)
    (nf_Outgoing_stream : PySem.W.findIn K (.ref c_Outgoing) "stream" = some none)
    (nf_Outgoing_keep : PySem.W.findIn K (.ref c_Outgoing) "keep" = some none)
    (nf_Outgoing_base : PySem.W.findIn K (.ref c_Outgoing) "base" = some none)
    (nf_Outgoing_kept : PySem.W.findIn K (.ref c_Outgoing) "kept" = some none)
    (nf_Outgoing_taken : PySem.W.findIn K (.ref c_Outgoing) "taken" = some none)
    (nf_Outgoing_sent : PySem.W.findIn K (.ref c_Outgoing) "sent" = some none)
    (nf_Outgoing_got_ranges : PySem.W.findIn K (.ref c_Outgoing) "got_ranges" = some none)
    (nf_Outgoing_lost_ranges : PySem.W.findIn K (.ref c_Outgoing) "lost_ranges" = some none)
    (nf_Outgoing_finished : PySem.W.findIn K (.ref c_Outgoing) "finished" = some none)
    (nf_Outgoing_last : PySem.W.findIn K (.ref c_Outgoing) "last" = some none)
    (nf_Outgoing_broken : PySem.W.findIn K (.ref c_Outgoing) "broken" = some none)
    (pg_Incoming : PySem.W.plainGet K c_Incoming Str.empty = true)
    (hd_Incoming : PySem.W.hasDictIn K c_Incoming = true)
    (po_Incoming : PySem.W.plainOver K c_Incoming = true)
    (sa_Incoming : PySem.W.findIn K (.ref c_Incoming) "__setattr__" = some (some (.builtin "object.__setattr__")))
    (mk_Incoming : PySem.W.makesIn K c_Incoming = true)
    (kc_Incoming : PySem.W.keepIn K (.ref c_Incoming) = true)
    (nf_Incoming_stream : PySem.W.findIn K (.ref c_Incoming) "stream" = some none)
    (nf_Incoming_room : PySem.W.findIn K (.ref c_Incoming) "room" = some none)
    (nf_Incoming_upto : PySem.W.findIn K (.ref c_Incoming) "upto" = some none)
    (nf_Incoming_read_upto : PySem.W.findIn K (.ref c_Incoming) "read_upto" = some none)
    (nf_Incoming_greatest : PySem.W.findIn K (.ref c_Incoming) "greatest" = some none)
    (nf_Incoming_end : PySem.W.findIn K (.ref c_Incoming) "end" = some none)
    (nf_Incoming_come : PySem.W.findIn K (.ref c_Incoming) "come" = some none)
    (nf_Incoming_parts : PySem.W.findIn K (.ref c_Incoming) "parts" = some none)
    (nf_Incoming_is_broken : PySem.W.findIn K (.ref c_Incoming) "is_broken" = some none)
    (nf_Incoming_skipped : PySem.W.findIn K (.ref c_Incoming) "skipped" = some none)
    (z_all : PySem.W.nsIn K mainGlobals "all" = some none)
    (z_bool : PySem.W.nsIn K mainGlobals "bool" = some none)
    (z_dict : PySem.W.nsIn K mainGlobals "dict" = some none)
    (z_int : PySem.W.nsIn K mainGlobals "int" = some none)
    (z_isinstance : PySem.W.nsIn K mainGlobals "isinstance" = some none)
    (z_len : PySem.W.nsIn K mainGlobals "len" = some none)
    (z_list : PySem.W.nsIn K mainGlobals "list" = some none)
    (z_max : PySem.W.nsIn K mainGlobals "max" = some none)
    (z_min : PySem.W.nsIn K mainGlobals "min" = some none)
    (z_range : PySem.W.nsIn K mainGlobals "range" = some none)
    (z_sorted : PySem.W.nsIn K mainGlobals "sorted" = some none)
    (z_str : PySem.W.nsIn K mainGlobals "str" = some none)
    (z_sum : PySem.W.nsIn K mainGlobals "sum" = some none)
    (z_tuple : PySem.W.nsIn K mainGlobals "tuple" = some none)
    (x_Wrong : K.lookup c_Wrong = some (excClassObj nm_Wrong q_Wrong c_Wrong N_Wrong bs_Wrong bm_Wrong true sn_Wrong sub_Wrong ab_Wrong col_Wrong dd_Wrong k0_Wrong k1_Wrong k2_Wrong k3_Wrong k5_Wrong "ValueError.__new__"))
    (r_Wrong : PySem.HandSPX.refsVE bm_Wrong = true)
    (sa_Wrong : PySem.W.findIn K (.ref c_Wrong) "__setattr__" = some (some (.builtin "object.__setattr__")))
    (ga_Wrong : PySem.W.findIn K (.ref c_Wrong) "__getattribute__" = some (some (.builtin "BaseException.__getattribute__")))
    (gg_Wrong : PySem.W.findIn K (.ref c_Wrong) "__getattr__" = some none)
    (nN_Wrong : PySem.W.findIn K (.ref c_Wrong) "at" = some none)
    (iC_Wrong : PySem.W.findIn K (.ref c_Wrong) "__init__" = some (some (.ref fE)))
    (kC_Wrong : PySem.W.keepIn K (.ref c_Wrong) = true)
    (eC_Wrong : PySem.W.subIn K (.ref c_Wrong) (.type "BaseException") = some true)
    (tC_Wrong : PySem.W.typeIn K (.ref c_Wrong) = some (.type "type"))
    (hC_Wrong : PySem.W.hasDictIn K c_Wrong = true)
    (isC_Wrong : PySem.W.isClsIn K c_Wrong = true)
    (sC_Wrong : PySem.W.subIn K (.ref c_Wrong) (.ref c_Wrong) = some true)
    (vC_Wrong : PySem.W.subIn K (.ref c_Wrong) (.type "ValueError") = some true)
    (tE : PySem.W.typeIn K (.ref fE) = some (.type "function"))
    (lE : K.lookup fE = some ⟨ocE, odE, .func (PySem.W.ksFn "__init__" "WireError.__init__" (PySem.WireX.iA ⟨7, 17, 7, 21⟩ ⟨7, 23, 7, 25⟩) (PySem.WireX.iB ⟨8, 8, 8, 13⟩ ⟨8, 8, 8, 15⟩ ⟨8, 8, 8, 24⟩ ⟨8, 25, 8, 27⟩ ⟨8, 8, 8, 28⟩ ⟨8, 8, 8, 28⟩ ⟨9, 8, 9, 12⟩ ⟨9, 8, 9, 15⟩ ⟨9, 18, 9, 20⟩ ⟨9, 8, 9, 20⟩) PySem.WireX.iS .none .none dcE pmE anE (.ref cda) ctE ccE), slE⟩)
    (cE : PySem.W.codeIn K (.ref cda) "WireError.__init__" = true)
    (lD : K.lookup cda = some ⟨cclE, cddE, .fields vsE, ccsE⟩)
    (vE : vsE[2]? = some (.str fileE tfE))
    (pf : ((P.main.file : Str) == fileE) = true)
    (lC : K.lookup ccE = some ⟨clE, cldE, .cell (some (.ref dE)), cslE⟩)
    (kD : PySem.W.clsIn K dE = some cdD)
    (tp : (P.main.scope.names.lookup ("super" : Str)).isSome = false)
    (nA : PySem.W.nsIn K cStatics "thirdparty.any" = some none)
    (nS : PySem.W.nsIn K mainGlobals "super" = some none)
    (mr_Wrong : PySem.W.mroIn K c_Wrong (.ref dE) = some true)
    (su_Wrong : PySem.W.ks_superIn K c_Wrong dE "__init__" = some (some (.builtin "ValueError.__init__")))
    (x_DeedWrong : K.lookup c_DeedWrong = some (excClassObj nm_DeedWrong q_DeedWrong c_DeedWrong N_DeedWrong bs_DeedWrong bm_DeedWrong true sn_DeedWrong sub_DeedWrong ab_DeedWrong col_DeedWrong dd_DeedWrong k0_DeedWrong k1_DeedWrong k2_DeedWrong k3_DeedWrong k5_DeedWrong "ValueError.__new__"))
    (r_DeedWrong : PySem.HandSPX.refsVE bm_DeedWrong = true)
    (sa_DeedWrong : PySem.W.findIn K (.ref c_DeedWrong) "__setattr__" = some (some (.builtin "object.__setattr__")))
    (ga_DeedWrong : PySem.W.findIn K (.ref c_DeedWrong) "__getattribute__" = some (some (.builtin "BaseException.__getattribute__")))
    (gg_DeedWrong : PySem.W.findIn K (.ref c_DeedWrong) "__getattr__" = some none)
    (nN_DeedWrong : PySem.W.findIn K (.ref c_DeedWrong) "at" = some none)
    (iC_DeedWrong : PySem.W.findIn K (.ref c_DeedWrong) "__init__" = some (some (.ref fE)))
    (kC_DeedWrong : PySem.W.keepIn K (.ref c_DeedWrong) = true)
    (eC_DeedWrong : PySem.W.subIn K (.ref c_DeedWrong) (.type "BaseException") = some true)
    (tC_DeedWrong : PySem.W.typeIn K (.ref c_DeedWrong) = some (.type "type"))
    (hC_DeedWrong : PySem.W.hasDictIn K c_DeedWrong = true)
    (isC_DeedWrong : PySem.W.isClsIn K c_DeedWrong = true)
    (sC_DeedWrong : PySem.W.subIn K (.ref c_DeedWrong) (.ref c_DeedWrong) = some true)
    (vC_DeedWrong : PySem.W.subIn K (.ref c_DeedWrong) (.type "ValueError") = some true)
    (mr_DeedWrong : PySem.W.mroIn K c_DeedWrong (.ref dE) = some true)
    (su_DeedWrong : PySem.W.ks_superIn K c_DeedWrong dE "__init__" = some (some (.builtin "ValueError.__init__"))) :
    ∃ fd : FuncData, (∀ (s : Shared) (v : Value), BindsTo s fd ⟨[v], []⟩ [("script", v)]) ∧ ∀ base : Heap, K.In base → base.Ns mainGlobals mg → FnOk P wd K mg base (L2.CX P wd) 10 fa fd ["script"] (liftS K sdL) := by
  have e := hfa.symm.trans (PySem.W.mg_of X G a34)
  cases e
  let A : Ad := { f_put_range := f0, fd_put_range := (PySem.W.fnOf "put_range" "put_range" (defArgs s_put_range) (defBody s_put_range) (defScope s_put_range) .none kV0 dc0 pm0 an0 cd0 ct0), f_drop_range := f1, fd_drop_range := (PySem.W.fnOf "drop_range" "drop_range" (defArgs s_drop_range) (defBody s_drop_range) (defScope s_drop_range) .none kV1 dc1 pm1 an1 cd1 ct1), f_drop_all := f2, fd_drop_all := (PySem.W.fnOf "drop_all" "drop_all" (defArgs s_drop_all) (defBody s_drop_all) (defScope s_drop_all) .none kV2 dc2 pm2 an2 cd2 ct2), f_gaps := f3, fd_gaps := (PySem.W.fnOf "gaps" "gaps" (defArgs s_gaps) (defBody s_gaps) (defScope s_gaps) .none kV3 dc3 pm3 an3 cd3 ct3), f_count := f4, fd_count := (PySem.W.fnOf "count" "count" (defArgs s_count) (defBody s_count) (defScope s_count) .none kV4 dc4 pm4 an4 cd4 ct4), f_Outgoing___init__ := f5, fd_Outgoing___init__ := (PySem.W.fnOf "__init__" "Outgoing.__init__" (defArgs s_Outgoing___init__) (defBody s_Outgoing___init__) (defScope s_Outgoing___init__) .none kV5 dc5 pm5 an5 cd5 ct5), f_Outgoing_must_stand := f6, fd_Outgoing_must_stand := (PySem.W.fnOf "must_stand" "Outgoing.must_stand" (defArgs s_Outgoing_must_stand) (defBody s_Outgoing_must_stand) (defScope s_Outgoing_must_stand) .none kV6 dc6 pm6 an6 cd6 ct6), f_Outgoing_is_done := f7, fd_Outgoing_is_done := (PySem.W.fnOf "is_done" "Outgoing.is_done" (defArgs s_Outgoing_is_done) (defBody s_Outgoing_is_done) (defScope s_Outgoing_is_done) .none kV7 dc7 pm7 an7 cd7 ct7), f_Outgoing_write := f8, fd_Outgoing_write := (PySem.W.fnOf "write" "Outgoing.write" (defArgs s_Outgoing_write) (defBody s_Outgoing_write) (defScope s_Outgoing_write) .none kV8 dc8 pm8 an8 cd8 ct8), f_Outgoing_breaks := f9, fd_Outgoing_breaks := (PySem.W.fnOf "breaks" "Outgoing.breaks" (defArgs s_Outgoing_breaks) (defBody s_Outgoing_breaks) (defScope s_Outgoing_breaks) .none kV9 dc9 pm9 an9 cd9 ct9), f_Outgoing_finish := f10, fd_Outgoing_finish := (PySem.W.fnOf "finish" "Outgoing.finish" (defArgs s_Outgoing_finish) (defBody s_Outgoing_finish) (defScope s_Outgoing_finish) .none kV10 dc10 pm10 an10 cd10 ct10), f_Outgoing_next_break := f11, fd_Outgoing_next_break := (PySem.W.fnOf "next_break" "Outgoing.next_break" (defArgs s_Outgoing_next_break) (defBody s_Outgoing_next_break) (defScope s_Outgoing_next_break) .none kV11 dc11 pm11 an11 cd11 ct11), f_Outgoing_piece := f12, fd_Outgoing_piece := (PySem.W.fnOf "piece" "Outgoing.piece" (defArgs s_Outgoing_piece) (defBody s_Outgoing_piece) (defScope s_Outgoing_piece) .none kV12 dc12 pm12 an12 cd12 ct12), f_Outgoing_next := f13, fd_Outgoing_next := (PySem.W.fnOf "next" "Outgoing.next" (defArgs s_Outgoing_next) (defBody s_Outgoing_next) (defScope s_Outgoing_next) .none kV13 dc13 pm13 an13 cd13 ct13), f_Outgoing_got := f14, fd_Outgoing_got := (PySem.W.fnOf "got" "Outgoing.got" (defArgs s_Outgoing_got) (defBody s_Outgoing_got) (defScope s_Outgoing_got) .none kV14 dc14 pm14 an14 cd14 ct14), f_Outgoing_lost := f15, fd_Outgoing_lost := (PySem.W.fnOf "lost" "Outgoing.lost" (defArgs s_Outgoing_lost) (defBody s_Outgoing_lost) (defScope s_Outgoing_lost) .none kV15 dc15 pm15 an15 cd15 ct15), f_Outgoing_is_due := f16, fd_Outgoing_is_due := (PySem.W.fnOf "is_due" "Outgoing.is_due" (defArgs s_Outgoing_is_due) (defBody s_Outgoing_is_due) (defScope s_Outgoing_is_due) .none kV16 dc16 pm16 an16 cd16 ct16), f_Outgoing_memory := f17, fd_Outgoing_memory := (PySem.W.fnOf "memory" "Outgoing.memory" (defArgs s_Outgoing_memory) (defBody s_Outgoing_memory) (defScope s_Outgoing_memory) .none kV17 dc17 pm17 an17 cd17 ct17), f_Incoming___init__ := f18, fd_Incoming___init__ := (PySem.W.fnOf "__init__" "Incoming.__init__" (defArgs s_Incoming___init__) (defBody s_Incoming___init__) (defScope s_Incoming___init__) .none kV18 dc18 pm18 an18 cd18 ct18), f_Incoming_wrong := f19, fd_Incoming_wrong := (PySem.W.fnOf "wrong" "Incoming.wrong" (defArgs s_Incoming_wrong) (defBody s_Incoming_wrong) (defScope s_Incoming_wrong) .none kV19 dc19 pm19 an19 cd19 ct19), f_Incoming_ready := f20, fd_Incoming_ready := (PySem.W.fnOf "ready" "Incoming.ready" (defArgs s_Incoming_ready) (defBody s_Incoming_ready) (defScope s_Incoming_ready) .none kV20 dc20 pm20 an20 cd20 ct20), f_Incoming_is_whole := f21, fd_Incoming_is_whole := (PySem.W.fnOf "is_whole" "Incoming.is_whole" (defArgs s_Incoming_is_whole) (defBody s_Incoming_is_whole) (defScope s_Incoming_is_whole) .none kV21 dc21 pm21 an21 cd21 ct21), f_Incoming_take_break := f22, fd_Incoming_take_break := (PySem.W.fnOf "take_break" "Incoming.take_break" (defArgs s_Incoming_take_break) (defBody s_Incoming_take_break) (defScope s_Incoming_take_break) .none kV22 dc22 pm22 an22 cd22 ct22), f_Incoming_take := f23, fd_Incoming_take := (PySem.W.fnOf "take" "Incoming.take" (defArgs s_Incoming_take) (defBody s_Incoming_take) (defScope s_Incoming_take) .none kV23 dc23 pm23 an23 cd23 ct23), f_Incoming_read := f24, fd_Incoming_read := (PySem.W.fnOf "read" "Incoming.read" (defArgs s_Incoming_read) (defBody s_Incoming_read) (defScope s_Incoming_read) .none kV24 dc24 pm24 an24 cd24 ct24), f_Incoming_grown := f25, fd_Incoming_grown := (PySem.W.fnOf "grown" "Incoming.grown" (defArgs s_Incoming_grown) (defBody s_Incoming_grown) (defScope s_Incoming_grown) .none kV25 dc25 pm25 an25 cd25 ct25), f_Incoming_let := f26, fd_Incoming_let := (PySem.W.fnOf "let" "Incoming.let" (defArgs s_Incoming_let) (defBody s_Incoming_let) (defScope s_Incoming_let) .none kV26 dc26 pm26 an26 cd26 ct26), f_Incoming_memory := f27, fd_Incoming_memory := (PySem.W.fnOf "memory" "Incoming.memory" (defArgs s_Incoming_memory) (defBody s_Incoming_memory) (defScope s_Incoming_memory) .none kV27 dc27 pm27 an27 cd27 ct27), f__law_draws := f28, fd__law_draws := (PySem.W.fnOf "_law_draws" "_law_draws" (defArgs s__law_draws) (defBody s__law_draws) (defScope s__law_draws) .none kV28 dc28 pm28 an28 cd28 ct28), f__law_draw := f29, fd__law_draw := (PySem.W.fnOf "_law_draw" "_law_draw" (defArgs s__law_draw) (defBody s__law_draw) (defScope s__law_draw) .none kV29 dc29 pm29 an29 cd29 ct29), f__law_same := f30, fd__law_same := (PySem.W.fnOf "_law_same" "_law_same" (defArgs s__law_same) (defBody s__law_same) (defScope s__law_same) .none kV30 dc30 pm30 an30 cd30 ct30), f__law_copy := f31, fd__law_copy := (PySem.W.fnOf "_law_copy" "_law_copy" (defArgs s__law_copy) (defBody s__law_copy) (defScope s__law_copy) .none kV31 dc31 pm31 an31 cd31 ct31), f__law_refused := f32, fd__law_refused := (PySem.W.fnOf "_law_refused" "_law_refused" (defArgs s__law_refused) (defBody s__law_refused) (defScope s__law_refused) .none kV32 dc32 pm32 an32 cd32 ct32), f__law_broken := f33, fd__law_broken := (PySem.W.fnOf "_law_broken" "_law_broken" (defArgs s__law_broken) (defBody s__law_broken) (defScope s__law_broken) .none kV33 dc33 pm33 an33 cd33 ct33), f_law := fa, fd_law := (PySem.W.fnOf "law" "law" (defArgs s_law) (defBody s_law) (defScope s_law) .none kV34 dc34 pm34 an34 cd34 ct34), c_Outgoing := c_Outgoing, c_Incoming := c_Incoming, tk_FURTHEST_incoming := tk_FURTHEST_incoming, tk_FURTHEST_outgoing := tk_FURTHEST_outgoing, f_WireError___init__ := fE, c_Wrong := c_Wrong, c_DeedWrong := c_DeedWrong }
  have T : Facts P K mg A := { F_put_range := fun_mk (st := s_put_range) l0 c0 k0, b_put_range := (fun_mk (st := s_put_range) l0 c0 k0).binds (ps := P_put_range) (fun _ _ _ _ _ _ us hl => (match us, hl with | [_, _, _], _ => rfl)), g_put_range := PySem.W.mg_of X G a0, k_put_range := k0, F_drop_range := fun_mk (st := s_drop_range) l1 c1 k1, b_drop_range := (fun_mk (st := s_drop_range) l1 c1 k1).binds (ps := P_drop_range) (fun _ _ _ _ _ _ us hl => (match us, hl with | [_, _, _], _ => rfl)), g_drop_range := PySem.W.mg_of X G a1, k_drop_range := k1, F_drop_all := fun_mk (st := s_drop_all) l2 c2 k2, b_drop_all := (fun_mk (st := s_drop_all) l2 c2 k2).binds (ps := P_drop_all) (fun _ _ _ _ _ _ us hl => (match us, hl with | [_, _], _ => rfl)), g_drop_all := PySem.W.mg_of X G a2, k_drop_all := k2, F_gaps := fun_mk (st := s_gaps) l3 c3 k3, b_gaps := (fun_mk (st := s_gaps) l3 c3 k3).binds (ps := P_gaps) (fun _ _ _ _ _ _ us hl => (match us, hl with | [_, _, _], _ => rfl)), g_gaps := PySem.W.mg_of X G a3, k_gaps := k3, F_count := fun_mk (st := s_count) l4 c4 k4, b_count := (fun_mk (st := s_count) l4 c4 k4).binds (ps := P_count) (fun _ _ _ _ _ _ us hl => (match us, hl with | [_], _ => rfl)), g_count := PySem.W.mg_of X G a4, k_count := k4, F_Outgoing___init__ := fun_mk (st := s_Outgoing___init__) l5 c5 k5, b_Outgoing___init__ := (fun_mk (st := s_Outgoing___init__) l5 c5 k5).binds (ps := P_Outgoing___init__) (fun _ _ _ _ _ _ us hl => (match us, hl with | [_, _, _], _ => rfl)), mk_Outgoing := ⟨mk_Outgoing, a5, i5, kc_Outgoing⟩, g_Outgoing := PySem.W.mg_of X G aC_Outgoing, F_Outgoing_must_stand := fun_mk (st := s_Outgoing_must_stand) l6 c6 k6, b_Outgoing_must_stand := (fun_mk (st := s_Outgoing_must_stand) l6 c6 k6).binds (ps := P_Outgoing_must_stand) (fun _ _ _ _ _ _ us hl => (match us, hl with | [_], _ => rfl)), m_Outgoing_must_stand := ⟨a6, i6, k6⟩, F_Outgoing_is_done := fun_mk (st := s_Outgoing_is_done) l7 c7 k7, b_Outgoing_is_done := (fun_mk (st := s_Outgoing_is_done) l7 c7 k7).binds (ps := P_Outgoing_is_done) (fun _ _ _ _ _ _ us hl => (match us, hl with | [_], _ => rfl)), m_Outgoing_is_done := ⟨a7, i7, k7⟩, F_Outgoing_write := fun_mk (st := s_Outgoing_write) l8 c8 k8, b_Outgoing_write := (fun_mk (st := s_Outgoing_write) l8 c8 k8).binds (ps := P_Outgoing_write) (fun _ _ _ _ _ _ us hl => (match us, hl with | [_, _], _ => rfl)), m_Outgoing_write := ⟨a8, i8, k8⟩, F_Outgoing_breaks := fun_mk (st := s_Outgoing_breaks) l9 c9 k9, b_Outgoing_breaks := (fun_mk (st := s_Outgoing_breaks) l9 c9 k9).binds (ps := P_Outgoing_breaks) (fun _ _ _ _ _ _ us hl => (match us, hl with | [_], _ => rfl)), m_Outgoing_breaks := ⟨a9, i9, k9⟩, F_Outgoing_finish := fun_mk (st := s_Outgoing_finish) l10 c10 k10, b_Outgoing_finish := (fun_mk (st := s_Outgoing_finish) l10 c10 k10).binds (ps := P_Outgoing_finish) (fun _ _ _ _ _ _ us hl => (match us, hl with | [_], _ => rfl)), m_Outgoing_finish := ⟨a10, i10, k10⟩, F_Outgoing_next_break := fun_mk (st := s_Outgoing_next_break) l11 c11 k11, b_Outgoing_next_break := (fun_mk (st := s_Outgoing_next_break) l11 c11 k11).binds (ps := P_Outgoing_next_break) (fun _ _ _ _ _ _ us hl => (match us, hl with | [_], _ => rfl)), m_Outgoing_next_break := ⟨a11, i11, k11⟩, F_Outgoing_piece := fun_mk (st := s_Outgoing_piece) l12 c12 k12, b_Outgoing_piece := (fun_mk (st := s_Outgoing_piece) l12 c12 k12).binds (ps := P_Outgoing_piece) (fun _ _ _ _ _ _ us hl => (match us, hl with | [_, _, _], _ => rfl)), m_Outgoing_piece := ⟨a12, i12, k12⟩, F_Outgoing_next := fun_mk (st := s_Outgoing_next) l13 c13 k13, b_Outgoing_next := (fun_mk (st := s_Outgoing_next) l13 c13 k13).binds (ps := P_Outgoing_next) (fun _ _ _ _ _ _ us hl => (match us, hl with | [_, _, _], _ => rfl)), m_Outgoing_next := ⟨a13, i13, k13⟩, F_Outgoing_got := fun_mk (st := s_Outgoing_got) l14 c14 k14, b_Outgoing_got := (fun_mk (st := s_Outgoing_got) l14 c14 k14).binds (ps := P_Outgoing_got) (fun _ _ _ _ _ _ us hl => (match us, hl with | [_, _], _ => rfl)), m_Outgoing_got := ⟨a14, i14, k14⟩, F_Outgoing_lost := fun_mk (st := s_Outgoing_lost) l15 c15 k15, b_Outgoing_lost := (fun_mk (st := s_Outgoing_lost) l15 c15 k15).binds (ps := P_Outgoing_lost) (fun _ _ _ _ _ _ us hl => (match us, hl with | [_, _], _ => rfl)), m_Outgoing_lost := ⟨a15, i15, k15⟩, F_Outgoing_is_due := fun_mk (st := s_Outgoing_is_due) l16 c16 k16, b_Outgoing_is_due := (fun_mk (st := s_Outgoing_is_due) l16 c16 k16).binds (ps := P_Outgoing_is_due) (fun _ _ _ _ _ _ us hl => (match us, hl with | [_, _], _ => rfl)), m_Outgoing_is_due := ⟨a16, i16, k16⟩, F_Outgoing_memory := fun_mk (st := s_Outgoing_memory) l17 c17 k17, b_Outgoing_memory := (fun_mk (st := s_Outgoing_memory) l17 c17 k17).binds (ps := P_Outgoing_memory) (fun _ _ _ _ _ _ us hl => (match us, hl with | [_], _ => rfl)), m_Outgoing_memory := ⟨a17, i17, k17⟩, F_Incoming___init__ := fun_mk (st := s_Incoming___init__) l18 c18 k18, b_Incoming___init__ := (fun_mk (st := s_Incoming___init__) l18 c18 k18).binds (ps := P_Incoming___init__) (fun _ _ _ _ _ _ us hl => (match us, hl with | [_, _, _], _ => rfl)), mk_Incoming := ⟨mk_Incoming, a18, i18, kc_Incoming⟩, g_Incoming := PySem.W.mg_of X G aC_Incoming, F_Incoming_wrong := fun_mk (st := s_Incoming_wrong) l19 c19 k19, b_Incoming_wrong := (fun_mk (st := s_Incoming_wrong) l19 c19 k19).binds (ps := P_Incoming_wrong) (fun _ _ _ _ _ _ us hl => (match us, hl with | [_, _], _ => rfl)), m_Incoming_wrong := ⟨a19, i19, k19⟩, F_Incoming_ready := fun_mk (st := s_Incoming_ready) l20 c20 k20, b_Incoming_ready := (fun_mk (st := s_Incoming_ready) l20 c20 k20).binds (ps := P_Incoming_ready) (fun _ _ _ _ _ _ us hl => (match us, hl with | [_], _ => rfl)), m_Incoming_ready := ⟨a20, i20, k20⟩, F_Incoming_is_whole := fun_mk (st := s_Incoming_is_whole) l21 c21 k21, b_Incoming_is_whole := (fun_mk (st := s_Incoming_is_whole) l21 c21 k21).binds (ps := P_Incoming_is_whole) (fun _ _ _ _ _ _ us hl => (match us, hl with | [_], _ => rfl)), m_Incoming_is_whole := ⟨a21, i21, k21⟩, F_Incoming_take_break := fun_mk (st := s_Incoming_take_break) l22 c22 k22, b_Incoming_take_break := (fun_mk (st := s_Incoming_take_break) l22 c22 k22).binds (ps := P_Incoming_take_break) (fun _ _ _ _ _ _ us hl => (match us, hl with | [_, _], _ => rfl)), m_Incoming_take_break := ⟨a22, i22, k22⟩, F_Incoming_take := fun_mk (st := s_Incoming_take) l23 c23 k23, b_Incoming_take := (fun_mk (st := s_Incoming_take) l23 c23 k23).binds (ps := P_Incoming_take) (fun _ _ _ _ _ _ us hl => (match us, hl with | [_, _], _ => rfl)), m_Incoming_take := ⟨a23, i23, k23⟩, F_Incoming_read := fun_mk (st := s_Incoming_read) l24 c24 k24, b_Incoming_read := (fun_mk (st := s_Incoming_read) l24 c24 k24).binds (ps := P_Incoming_read) (fun _ _ _ _ _ _ us hl => (match us, hl with | [_, _], _ => rfl)), m_Incoming_read := ⟨a24, i24, k24⟩, F_Incoming_grown := fun_mk (st := s_Incoming_grown) l25 c25 k25, b_Incoming_grown := (fun_mk (st := s_Incoming_grown) l25 c25 k25).binds (ps := P_Incoming_grown) (fun _ _ _ _ _ _ us hl => (match us, hl with | [_], _ => rfl)), m_Incoming_grown := ⟨a25, i25, k25⟩, F_Incoming_let := fun_mk (st := s_Incoming_let) l26 c26 k26, b_Incoming_let := (fun_mk (st := s_Incoming_let) l26 c26 k26).binds (ps := P_Incoming_let) (fun _ _ _ _ _ _ us hl => (match us, hl with | [_, _], _ => rfl)), m_Incoming_let := ⟨a26, i26, k26⟩, F_Incoming_memory := fun_mk (st := s_Incoming_memory) l27 c27 k27, b_Incoming_memory := (fun_mk (st := s_Incoming_memory) l27 c27 k27).binds (ps := P_Incoming_memory) (fun _ _ _ _ _ _ us hl => (match us, hl with | [_], _ => rfl)), m_Incoming_memory := ⟨a27, i27, k27⟩, F__law_draws := fun_mk (st := s__law_draws) l28 c28 k28, b__law_draws := (fun_mk (st := s__law_draws) l28 c28 k28).binds (ps := P__law_draws) (fun _ _ _ _ _ _ us hl => (match us, hl with | [_], _ => rfl)), g__law_draws := PySem.W.mg_of X G a28, k__law_draws := k28, F__law_draw := fun_mk (st := s__law_draw) l29 c29 k29, b__law_draw := (fun_mk (st := s__law_draw) l29 c29 k29).binds (ps := P__law_draw) (fun _ _ _ _ _ _ us hl => (match us, hl with | [_, _], _ => rfl)), g__law_draw := PySem.W.mg_of X G a29, k__law_draw := k29, F__law_same := fun_mk (st := s__law_same) l30 c30 k30, b__law_same := (fun_mk (st := s__law_same) l30 c30 k30).binds (ps := P__law_same) (fun _ _ _ _ _ _ us hl => (match us, hl with | [_, _], _ => rfl)), g__law_same := PySem.W.mg_of X G a30, k__law_same := k30, F__law_copy := fun_mk (st := s__law_copy) l31 c31 k31, b__law_copy := (fun_mk (st := s__law_copy) l31 c31 k31).binds (ps := P__law_copy) (fun _ _ _ _ _ _ us hl => (match us, hl with | [_], _ => rfl)), g__law_copy := PySem.W.mg_of X G a31, k__law_copy := k31, F__law_refused := fun_mk (st := s__law_refused) l32 c32 k32, b__law_refused := (fun_mk (st := s__law_refused) l32 c32 k32).binds (ps := P__law_refused) (fun _ _ _ _ _ _ us hl => (match us, hl with | [_, _], _ => rfl)), g__law_refused := PySem.W.mg_of X G a32, k__law_refused := k32, F__law_broken := fun_mk (st := s__law_broken) l33 c33 k33, b__law_broken := (fun_mk (st := s__law_broken) l33 c33 k33).binds (ps := P__law_broken) (fun _ _ _ _ _ _ us hl => (match us, hl with | [_, _, _], _ => rfl)), g__law_broken := PySem.W.mg_of X G a33, k__law_broken := k33, F_law := fun_mk (st := s_law) l34 c34 k34, b_law := (fun_mk (st := s_law) l34 c34 k34).binds (ps := P_law) (fun _ _ _ _ _ _ us hl => (match us, hl with | [_], _ => rfl)), g_law := PySem.W.mg_of X G a34, k_law := k34, cl_Outgoing := ⟨pg_Outgoing, hd_Outgoing, po_Outgoing, sa_Outgoing⟩, nf_Outgoing_stream := nf_Outgoing_stream, nf_Outgoing_keep := nf_Outgoing_keep, nf_Outgoing_base := nf_Outgoing_base, nf_Outgoing_kept := nf_Outgoing_kept, nf_Outgoing_taken := nf_Outgoing_taken, nf_Outgoing_sent := nf_Outgoing_sent, nf_Outgoing_got_ranges := nf_Outgoing_got_ranges, nf_Outgoing_lost_ranges := nf_Outgoing_lost_ranges, nf_Outgoing_finished := nf_Outgoing_finished, nf_Outgoing_last := nf_Outgoing_last, nf_Outgoing_broken := nf_Outgoing_broken, cl_Incoming := ⟨pg_Incoming, hd_Incoming, po_Incoming, sa_Incoming⟩, nf_Incoming_stream := nf_Incoming_stream, nf_Incoming_room := nf_Incoming_room, nf_Incoming_upto := nf_Incoming_upto, nf_Incoming_read_upto := nf_Incoming_read_upto, nf_Incoming_greatest := nf_Incoming_greatest, nf_Incoming_end := nf_Incoming_end, nf_Incoming_come := nf_Incoming_come, nf_Incoming_parts := nf_Incoming_parts, nf_Incoming_is_broken := nf_Incoming_is_broken, nf_Incoming_skipped := nf_Incoming_skipped, n_all := PySem.W.mg_none_of X G z_all, n_bool := PySem.W.mg_none_of X G z_bool, n_dict := PySem.W.mg_none_of X G z_dict, n_int := PySem.W.mg_none_of X G z_int, n_isinstance := PySem.W.mg_none_of X G z_isinstance, n_len := PySem.W.mg_none_of X G z_len, n_list := PySem.W.mg_none_of X G z_list, n_max := PySem.W.mg_none_of X G z_max, n_min := PySem.W.mg_none_of X G z_min, n_range := PySem.W.mg_none_of X G z_range, n_sorted := PySem.W.mg_none_of X G z_sorted, n_str := PySem.W.mg_none_of X G z_str, n_sum := PySem.W.mg_none_of X G z_sum, n_tuple := PySem.W.mg_none_of X G z_tuple, g_FURTHEST_incoming := hg_FURTHEST_incoming, g_FURTHEST_outgoing := hg_FURTHEST_outgoing, t_Wrong := { gC := PySem.W.mg_of X G aC_Wrong, cls := ⟨_, _, _, _, _, _, _, _, _, _, _, _, _, _, _, x_Wrong, r_Wrong⟩, sa := sa_Wrong, ga := ga_Wrong, gg := gg_Wrong, noN := nN_Wrong, iC := iC_Wrong, tC := tE, kC := kC_Wrong, exC := eC_Wrong, tyC := tC_Wrong, hdC := hC_Wrong, te := exm_self eC_Wrong isC_Wrong tC_Wrong sC_Wrong, veC := vC_Wrong, nAny := nA, nSup := PySem.W.mg_none_of X G nS, top := tp, fn := ⟨_, _, _, _, _, _, _, _, _, _, _, _, _, _, _, _, _, _, _, _, _, _, _, _, _, _, _, _, _, _, _, _, rfl, lE, cE, lD, vE, pf, lC, kD, mr_Wrong, su_Wrong⟩ }, t_DeedWrong := { gC := PySem.W.mg_of X G aC_DeedWrong, cls := ⟨_, _, _, _, _, _, _, _, _, _, _, _, _, _, _, x_DeedWrong, r_DeedWrong⟩, sa := sa_DeedWrong, ga := ga_DeedWrong, gg := gg_DeedWrong, noN := nN_DeedWrong, iC := iC_DeedWrong, tC := tE, kC := kC_DeedWrong, exC := eC_DeedWrong, tyC := tC_DeedWrong, hdC := hC_DeedWrong, te := exm_self eC_DeedWrong isC_DeedWrong tC_DeedWrong sC_DeedWrong, veC := vC_DeedWrong, nAny := nA, nSup := PySem.W.mg_none_of X G nS, top := tp, fn := ⟨_, _, _, _, _, _, _, _, _, _, _, _, _, _, _, _, _, _, _, _, _, _, _, _, _, _, _, _, _, _, _, _, rfl, lE, cE, lD, vE, pf, lC, kD, mr_DeedWrong, su_DeedWrong⟩ } }
  exact ⟨A.fd_law, fun s v => .of_eq rfl, fun base _ _ => ok_law T⟩
open PySem.W PySem.Calls PyProof.Rows
theorem loose_int {lv : List (Str × WData)} {mg : Str → Option Value} {h : Heap} (x : PySem.W.LooseAre lv mg h) {nm : Str} {i : Int} (hm : (nm, WData.int i) ∈ lv) : ∃ t, mg nm = some (.int i t) := by
  obtain ⟨v, h1, h2⟩ := x.val _ hm
  cases h2
  exact ⟨_, h1⟩
theorem walk_ofL {l : PySem.W.OpenLaw} {n k : Nat} {q : Program} {loose : List Str} {lv : List (Str × WData)} {YP : World → Heap → Prop} {d : DefRec} {K : Params → PySem.W.Frag} {CX : World → CXT} {sp : World → Sp} {x : Str}
    (hn : l.most = some n) (hn2 : n ≤ sizeLine) (hdf : d.params.defaults = []) (hr : Room k callerA)
    (hY : ∀ (w : World) (h : Heap), YP w h → (K w.params).In h)
    (F : ∀ (w : World) (mg : Str → Option Value) (fa : Addr) (h : Heap), (K w.params).In h → h.Ns mainGlobals mg → PySem.W.LooseAre lv mg h → mg d.name = some (.ref fa) →
      ∃ fd : FuncData, (∀ (s : Shared) (u : Value), BindsTo s fd ⟨[u], []⟩ [(x, u)]) ∧
        ∀ base : Heap, (K w.params).In base → base.Ns mainGlobals mg → FnOk l.prog w (K w.params) mg base (CX w) k fa fd [x] (sp w))
    (hsp : ∀ (w : World) (H : Hp) (a : Addr) (ns : List Int), ns.length ≤ n → Only H → SqL (K w.params) H a (ns.map V.int) → sp w [.ref a] H (fun v _ => v = .bl true) fun _ _ _ => False)
    (hCX : ∀ (w : World) (H : Hp) (s : Shared) (e : Value) (s' : Shared), CX w [] H s (fun _ _ _ => False) e s' → False) :
    PySem.W.WalkO q loose (PySem.W.XL q lv) YP l.row.toRowW d [] (fun f vs => PySem.call f vs) := by
  refine Att.attach_call hn hdf fun w s₀ s₁ mg mb fa o pm cd doc a vs ns G Y ho hd hcd hmg hobj hints hlen hg => ?_
  have KX := hY w _ Y
  obtain ⟨fd, hb, hF⟩ := F w mg fa _ KX G.T.g G.X.2 hmg
  exact law_call KX G.T.g G.T.b G.T.builtins G.T.nolimit hg hobj hints (Nat.le_trans hlen hn2) hr hF hb (fun H hO hS => hsp w H a ns hlen hO hS) fun H e s' => hCX w H s₁ e s'
theorem law_sp {K : PySem.W.Frag} {H : Hp} {a : Addr} {ns : List Int} (hS : SqL K H a (ns.map V.int)) : liftS K sdL [.ref a] H (fun v _ => v = .bl true) fun _ _ _ => False := by
  refine ⟨[.src ns], H, fun _ => none, fun d _ => d = .bl true, fun _ _ _ => False, .cons (.src hS) .nil, ⟨Same.refl _, fun a o h => by cases h⟩, ⟨ns, rfl, fun _ => rfl⟩, fun d M v I' H' _ _ r e => ?_, fun _ _ _ _ _ _ _ _ _ _ _ h => h.elim⟩
  subst e
  cases r
  rfl
theorem cx_none {P : Program} {w : World} (H : Hp) (s : Shared) (e : Value) (s' : Shared) (h : L2.CX P w [] H s (fun _ _ _ => False) e s') : False := by
  obtain ⟨_, _, _, _, _, _, _, _, _, _, _, _, h⟩ := h
  exact h
end K23

namespace K23
open PySem L2 DL RG
theorem walk {l : PySem.W.OpenLaw} {q : Program} {loose : List Str} {lv : List (Str × PySem.W.WData)} {YP : World → Heap → Prop} {d : DefRec} {K : Params → PySem.W.Frag} (hn : l.most = some 63) (hdf : d.params.defaults = [])
    (hY : ∀ (w : World) (h : Heap), YP w h → (K w.params).In h)
    (F : ∀ (w : World) (mg : Str → Option Value) (fa : Addr) (h : Heap), (K w.params).In h → h.Ns mainGlobals mg → PySem.W.LooseAre lv mg h → mg d.name = some (.ref fa) →
      ∃ fd : FuncData, (∀ (s : Shared) (u : Value), BindsTo s fd ⟨[u], []⟩ [("script", u)]) ∧ ∀ base : Heap, (K w.params).In base → base.Ns mainGlobals mg → FnOk l.prog w (K w.params) mg base (L2.CX l.prog w) 10 fa fd ["script"] (liftS (K w.params) sdL)) :
    PySem.W.WalkO q loose (PySem.W.XL q lv) YP l.row.toRowW d [] (fun f vs => PySem.call f vs) :=
  walk_ofL (n := 63) (k := 10) (x := "script") (CX := fun w => L2.CX l.prog w) (sp := fun w => liftS (K w.params) sdL) hn (by decide) hdf ⟨rfl, by decide, by decide⟩ hY F (fun w H a ns _ _ hS => law_sp hS) (fun w => cx_none)
end K23
open PySem PySem.W PyProof.Rows
set_option maxRecDepth 100000 in
set_option maxHeartbeats 0 in
theorem PySem.Challenge.cw_fairwire_k23_streams_broken_off_holds : PySem.Challenge.rw_fairwire_k23_streams_broken_off.Holds := by
  w_on; o_law; k_head; (case hw => w_witness2)
  k_fill
  refine K23.walk (l := PySem.Challenge.rw_fairwire_k23_streams_broken_off) rfl rfl (fun w h Y => PySem.W.kIn_of Y) ?F
  case F =>
    intro w mg fa h KX G hL hmg
    obtain ⟨t1, h_FURTHEST_outgoing⟩ := K23.loose_int (nm := "FURTHEST_outgoing") (i := 16777215) hL List.mem_cons_self
    obtain ⟨t2, h_FURTHEST_incoming⟩ := K23.loose_int (nm := "FURTHEST_incoming") (i := 16777215) hL (List.mem_cons_of_mem _ List.mem_cons_self)
    refine' K23.all_mk (P := PySem.Challenge.rw_fairwire_k23_streams_broken_off.prog) (wd := w) KX G hmg h_FURTHEST_incoming h_FURTHEST_outgoing ?aC_Outgoing ?aC_Incoming ?aC_Wrong ?aC_DeedWrong ?a0 ?l0 ?c0 ?k0 ?a1 ?l1 ?c1 ?k1 ?a2 ?l2 ?c2 ?k2 ?a3 ?l3 ?c3 ?k3 ?a4 ?l4 ?c4 ?k4 ?a5 ?i5 ?l5 ?c5 ?k5 ?a6 ?i6 ?l6 ?c6 ?k6 ?a7 ?i7 ?l7 ?c7 ?k7 ?a8 ?i8 ?l8 ?c8 ?k8 ?a9 ?i9 ?l9 ?c9 ?k9 ?a10 ?i10 ?l10 ?c10 ?k10 ?a11 ?i11 ?l11 ?c11 ?k11 ?a12 ?i12 ?l12 ?c12 ?k12 ?a13 ?i13 ?l13 ?c13 ?k13 ?a14 ?i14 ?l14 ?c14 ?k14 ?a15 ?i15 ?l15 ?c15 ?k15 ?a16 ?i16 ?l16 ?c16 ?k16 ?a17 ?i17 ?l17 ?c17 ?k17 ?a18 ?i18 ?l18 ?c18 ?k18 ?a19 ?i19 ?l19 ?c19 ?k19 ?a20 ?i20 ?l20 ?c20 ?k20 ?a21 ?i21 ?l21 ?c21 ?k21 ?a22 ?i22 ?l22 ?c22 ?k22 ?a23 ?i23 ?l23 ?c23 ?k23 ?a24 ?i24 ?l24 ?c24 ?k24 ?a25 ?i25 ?l25 ?c25 ?k25 ?a26 ?i26 ?l26 ?c26 ?k26 ?a27 ?i27 ?l27 ?c27 ?k27 ?a28 ?l28 ?c28 ?k28 ?a29 ?l29 ?c29 ?k29 ?a30 ?l30 ?c30 ?k30 ?a31 ?l31 ?c31 ?k31 ?a32 ?l32 ?c32 ?k32 ?a33 ?l33 ?c33 ?k33 ?a34 ?l34 ?c34 ?k34 ?pg_Outgoing ?hd_Outgoing ?po_Outgoing ?sa_Outgoing ?mk_Outgoing ?kc_Outgoing ?nf_Outgoing_stream ?nf_Outgoing_keep ?nf_Outgoing_base ?nf_Outgoing_kept ?nf_Outgoing_taken ?nf_Outgoing_sent ?nf_Outgoing_got_ranges ?nf_Outgoing_lost_ranges ?nf_Outgoing_finished ?nf_Outgoing_last ?nf_Outgoing_broken ?pg_Incoming ?hd_Incoming ?po_Incoming ?sa_Incoming ?mk_Incoming ?kc_Incoming ?nf_Incoming_stream ?nf_Incoming_room ?nf_Incoming_upto ?nf_Incoming_read_upto ?nf_Incoming_greatest ?nf_Incoming_end ?nf_Incoming_come ?nf_Incoming_parts ?nf_Incoming_is_broken ?nf_Incoming_skipped ?z_all ?z_bool ?z_dict ?z_int ?z_isinstance ?z_len ?z_list ?z_max ?z_min ?z_range ?z_sorted ?z_str ?z_sum ?z_tuple ?x_Wrong ?r_Wrong ?sa_Wrong ?ga_Wrong ?gg_Wrong ?nN_Wrong ?iC_Wrong ?kC_Wrong ?eC_Wrong ?tC_Wrong ?hC_Wrong ?isC_Wrong ?sC_Wrong ?vC_Wrong ?tE ?lE ?cE ?lD ?vE ?pf ?lC ?kD ?tp ?nA ?nS ?mr_Wrong ?su_Wrong ?x_DeedWrong ?r_DeedWrong ?sa_DeedWrong ?ga_DeedWrong ?gg_DeedWrong ?nN_DeedWrong ?iC_DeedWrong ?kC_DeedWrong ?eC_DeedWrong ?tC_DeedWrong ?hC_DeedWrong ?isC_DeedWrong ?sC_DeedWrong ?vC_DeedWrong ?mr_DeedWrong ?su_DeedWrong
    (case aC_Outgoing => k_is)
    (case aC_Incoming => k_is)
    (case aC_Wrong => k_is)
    (case aC_DeedWrong => k_is)
    (case a0 => k_is)
    (case l0 => k_is)
    (case c0 => k_is)
    (case k0 => k_is)
    (case a1 => k_is)
    (case l1 => k_is)
    (case c1 => k_is)
    (case k1 => k_is)
    (case a2 => k_is)
    (case l2 => k_is)
    (case c2 => k_is)
    (case k2 => k_is)
    (case a3 => k_is)
    (case l3 => k_is)
    (case c3 => k_is)
    (case k3 => k_is)
    (case a4 => k_is)
    (case l4 => k_is)
    (case c4 => k_is)
    (case k4 => k_is)
    (case a5 => k_is)
    (case i5 => k_is)
    (case l5 => k_is)
    (case c5 => k_is)
    (case k5 => k_is)
    (case a6 => k_is)
    (case i6 => k_is)
    (case l6 => k_is)
    (case c6 => k_is)
    (case k6 => k_is)
    (case a7 => k_is)
    (case i7 => k_is)
    (case l7 => k_is)
    (case c7 => k_is)
    (case k7 => k_is)
    (case a8 => k_is)
    (case i8 => k_is)
    (case l8 => k_is)
    (case c8 => k_is)
    (case k8 => k_is)
    (case a9 => k_is)
    (case i9 => k_is)
    (case l9 => k_is)
    (case c9 => k_is)
    (case k9 => k_is)
    (case a10 => k_is)
    (case i10 => k_is)
    (case l10 => k_is)
    (case c10 => k_is)
    (case k10 => k_is)
    (case a11 => k_is)
    (case i11 => k_is)
    (case l11 => k_is)
    (case c11 => k_is)
    (case k11 => k_is)
    (case a12 => k_is)
    (case i12 => k_is)
    (case l12 => k_is)
    (case c12 => k_is)
    (case k12 => k_is)
    (case a13 => k_is)
    (case i13 => k_is)
    (case l13 => k_is)
    (case c13 => k_is)
    (case k13 => k_is)
    (case a14 => k_is)
    (case i14 => k_is)
    (case l14 => k_is)
    (case c14 => k_is)
    (case k14 => k_is)
    (case a15 => k_is)
    (case i15 => k_is)
    (case l15 => k_is)
    (case c15 => k_is)
    (case k15 => k_is)
    (case a16 => k_is)
    (case i16 => k_is)
    (case l16 => k_is)
    (case c16 => k_is)
    (case k16 => k_is)
    (case a17 => k_is)
    (case i17 => k_is)
    (case l17 => k_is)
    (case c17 => k_is)
    (case k17 => k_is)
    (case a18 => k_is)
    (case i18 => k_is)
    (case l18 => k_is)
    (case c18 => k_is)
    (case k18 => k_is)
    (case a19 => k_is)
    (case i19 => k_is)
    (case l19 => k_is)
    (case c19 => k_is)
    (case k19 => k_is)
    (case a20 => k_is)
    (case i20 => k_is)
    (case l20 => k_is)
    (case c20 => k_is)
    (case k20 => k_is)
    (case a21 => k_is)
    (case i21 => k_is)
    (case l21 => k_is)
    (case c21 => k_is)
    (case k21 => k_is)
    (case a22 => k_is)
    (case i22 => k_is)
    (case l22 => k_is)
    (case c22 => k_is)
    (case k22 => k_is)
    (case a23 => k_is)
    (case i23 => k_is)
    (case l23 => k_is)
    (case c23 => k_is)
    (case k23 => k_is)
    (case a24 => k_is)
    (case i24 => k_is)
    (case l24 => k_is)
    (case c24 => k_is)
    (case k24 => k_is)
    (case a25 => k_is)
    (case i25 => k_is)
    (case l25 => k_is)
    (case c25 => k_is)
    (case k25 => k_is)
    (case a26 => k_is)
    (case i26 => k_is)
    (case l26 => k_is)
    (case c26 => k_is)
    (case k26 => k_is)
    (case a27 => k_is)
    (case i27 => k_is)
    (case l27 => k_is)
    (case c27 => k_is)
    (case k27 => k_is)
    (case a28 => k_is)
    (case l28 => k_is)
    (case c28 => k_is)
    (case k28 => k_is)
    (case a29 => k_is)
    (case l29 => k_is)
    (case c29 => k_is)
    (case k29 => k_is)
    (case a30 => k_is)
    (case l30 => k_is)
    (case c30 => k_is)
    (case k30 => k_is)
    (case a31 => k_is)
    (case l31 => k_is)
    (case c31 => k_is)
    (case k31 => k_is)
    (case a32 => k_is)
    (case l32 => k_is)
    (case c32 => k_is)
    (case k32 => k_is)
    (case a33 => k_is)
    (case l33 => k_is)
    (case c33 => k_is)
    (case k33 => k_is)
    (case a34 => k_is)
    (case l34 => k_is)
    (case c34 => k_is)
    (case k34 => k_is)
    (case pg_Outgoing => k_is)
    (case hd_Outgoing => k_is)
    (case po_Outgoing => k_is)
    (case sa_Outgoing => k_is)
    (case mk_Outgoing => k_is)
    (case kc_Outgoing => k_is)
    (case nf_Outgoing_stream => k_is)
    (case nf_Outgoing_keep => k_is)
    (case nf_Outgoing_base => k_is)
    (case nf_Outgoing_kept => k_is)
    (case nf_Outgoing_taken => k_is)
    (case nf_Outgoing_sent => k_is)
    (case nf_Outgoing_got_ranges => k_is)
    (case nf_Outgoing_lost_ranges => k_is)
    (case nf_Outgoing_finished => k_is)
    (case nf_Outgoing_last => k_is)
    (case nf_Outgoing_broken => k_is)
    (case pg_Incoming => k_is)
    (case hd_Incoming => k_is)
    (case po_Incoming => k_is)
    (case sa_Incoming => k_is)
    (case mk_Incoming => k_is)
    (case kc_Incoming => k_is)
    (case nf_Incoming_stream => k_is)
    (case nf_Incoming_room => k_is)
    (case nf_Incoming_upto => k_is)
    (case nf_Incoming_read_upto => k_is)
    (case nf_Incoming_greatest => k_is)
    (case nf_Incoming_end => k_is)
    (case nf_Incoming_come => k_is)
    (case nf_Incoming_parts => k_is)
    (case nf_Incoming_is_broken => k_is)
    (case nf_Incoming_skipped => k_is)
    (case z_all => k_is)
    (case z_bool => k_is)
    (case z_dict => k_is)
    (case z_int => k_is)
    (case z_isinstance => k_is)
    (case z_len => k_is)
    (case z_list => k_is)
    (case z_max => k_is)
    (case z_min => k_is)
    (case z_range => k_is)
    (case z_sorted => k_is)
    (case z_str => k_is)
    (case z_sum => k_is)
    (case z_tuple => k_is)
    (case x_Wrong => k_is)
    (case r_Wrong => first | decide +kernel | k_is)
    (case sa_Wrong => k_is)
    (case ga_Wrong => k_is)
    (case gg_Wrong => k_is)
    (case nN_Wrong => k_is)
    (case iC_Wrong => k_is)
    (case kC_Wrong => k_is)
    (case eC_Wrong => k_is)
    (case tC_Wrong => k_is)
    (case hC_Wrong => k_is)
    (case isC_Wrong => k_is)
    (case sC_Wrong => first | rfl | k_is)
    (case vC_Wrong => k_is)
    (case tE => k_is)
    (case lE => k_is)
    (case cE => k_is)
    (case lD => k_is)
    (case vE => first | rfl | decide +kernel)
    (case pf => first | rfl | decide +kernel)
    (case lC => k_is)
    (case kD => k_is)
    (case tp => first | rfl | decide +kernel)
    (case nA => k_is)
    (case nS => k_is)
    (case mr_Wrong => k_is)
    (case su_Wrong => first | ks_is | k_is)
    (case x_DeedWrong => k_is)
    (case r_DeedWrong => first | decide +kernel | k_is)
    (case sa_DeedWrong => k_is)
    (case ga_DeedWrong => k_is)
    (case gg_DeedWrong => k_is)
    (case nN_DeedWrong => k_is)
    (case iC_DeedWrong => k_is)
    (case kC_DeedWrong => k_is)
    (case eC_DeedWrong => k_is)
    (case tC_DeedWrong => k_is)
    (case hC_DeedWrong => k_is)
    (case isC_DeedWrong => k_is)
    (case sC_DeedWrong => first | rfl | k_is)
    (case vC_DeedWrong => k_is)
    (case mr_DeedWrong => k_is)
    (case su_DeedWrong => first | ks_is | k_is)
