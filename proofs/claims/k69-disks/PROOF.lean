import PyProof.Rows.All
import Wide.All
import OpenK.AllK
import Wide.FinOn
import KE.KExcSuper
import HandS.ForExc
import HandS.Lambda
import HandS.ForMost
import HandS.IsInst
import HandS.Defaults
import HandS.TupMul
import HandS.Style
import HandS.SortInts
import HandS.Conv
import HandS.Walk
import HandS.ExcIs
import KE.KExcIs
import KE.KNestM
import HandS.EndTab
import PySem.Challenge.RW_liarsapart_k69_whole_disks_cut_anywhere
set_option Elab.async false
set_option linter.all false
set_option maxRecDepth 100000
set_option maxHeartbeats 8000000
namespace PySem
namespace SupX
open PySem.W PySem.Calls PyProof.Rows PySem.HandSPX
/-! ### an own error: class X(..): def __init__(self, at): super().__init__(at); self.at = at -/
def iA (p1 p2 : Pos) : Arguments := { posonlyargs := [], args := [{ arg := "self", annotation := none, pos := p1 }, { arg := "at", annotation := none, pos := p2 }], vararg := none, kwonlyargs := [], kw_defaults := [], kwarg := none, defaults := [] }
def iB (q1 q2 q3 q4 q5 q6 q7 q8 q9 q10 : Pos) : List Stmt :=
  [.Expr (.Call (.Attribute (.Call (.Name "super" q1) [] [] q2) "__init__" q3) [.Name "at" q4] [] q5) q6, .Assign [.Attribute (.Name "self" q7) "at" q8] (.Name "at" q9) q10]
def iS : Scope := { kind := .function, names := [(PySem.Str.ofString "self", .local), (PySem.Str.ofString "at", .local), (PySem.Str.ofString "__class__", .free), (PySem.Str.ofString "super", .globalImplicit)], isGenerator := false, isCoroutine := false, more := [] }
/-- what the written part says of the class at C named nm, and of its __init__, at fI -/
structure SupTxt (prog : Program) (K : Frag) (mg : Str → Option Value) (nm : Str) (C fI : Addr) : Prop where
  gC : mg nm = some (.ref C)
  cls : ∃ nm q N bs bm sn sub ab col dd k0 k1 k2 k3 k5, K.lookup C = some (excClassObj nm q C N bs bm true sn sub ab col dd k0 k1 k2 k3 k5 "ValueError.__new__") ∧ refsVE bm = true ∧ alongIn K "__init__" bm = some (some (.builtin "ValueError.__init__"))
  sa : findIn K (.ref C) "__setattr__" = some (some (.builtin "object.__setattr__"))
  ga : findIn K (.ref C) "__getattribute__" = some (some (.builtin "BaseException.__getattribute__"))
  gg : findIn K (.ref C) "__getattr__" = some none
  noN : findIn K (.ref C) "at" = some none
  iC : findIn K (.ref C) "__init__" = some (some (.ref fI))
  tC : typeIn K (.ref fI) = some (.type "function")
  kC : keepIn K (.ref C) = true
  exC : subIn K (.ref C) (.type "BaseException") = some true
  vE : subIn K (.ref C) (.type "ValueError") = some true
  tyC : typeIn K (.ref C) = some (.type "type")
  hdC : hasDictIn K C = true
  te : exmOne K (.ref C) (.ref C) = some true
  tp : nsIn K cStatics "thirdparty.any" = some none
  sup0 : mg "super" = none
  top : (prog.main.scope.names.lookup ("super" : Str)).isSome = false
  fn : ∃ (qn : Str) (oc : Value) (od : Option Addr) (doc pm : Value) (an : Option Addr) (cda : Addr) (ct : Value) (osl : Array (Option Value)) (cc : Addr) (p1 p2 q1 q2 q3 q4 q5 q6 q7 q8 q9 q10 : Pos)
      (ccl : Value) (cdd : Option Addr) (vs : Array Value) (ccs : Array (Option Value)) (file : Str) (tf : Tok) (cl : Value) (cld : Option Addr) (csl : Array (Option Value)),
    K.lookup fI = some ⟨oc, od, .func (ksFn "__init__" qn (iA p1 p2) (iB q1 q2 q3 q4 q5 q6 q7 q8 q9 q10) iS .none .none doc pm an (.ref cda) ct cc), osl⟩ ∧ codeIn K (.ref cda) qn = true ∧
    K.lookup cda = some ⟨ccl, cdd, .fields vs, ccs⟩ ∧ vs[2]? = some (.str file tf) ∧ ((prog.main.file : Str) == file) = true ∧ (q3.endLine == q5.line) = true ∧ K.lookup cc = some ⟨cl, cld, .cell (some (.ref C)), csl⟩
theorem one_size (v : Value) : [v].length ≤ sizeLine := by
  rw [sizeLine_eq]
  exact (by decide : 1 ≤ 16777216)
/-- what __init__ leaves of a fresh exception at x -/
structure InitEnd (h h' : Heap) (x C dx t1 : Addr) (v : Value) : Prop where
  keep : ∀ b o, b ≠ x → h.get? b = some o → h'.get? b = some o
  obj : h'.get? x = some { cls := .ref C, dict := some dx, data := .fields #[.ref t1, .none, .none, .none, .bool false, .none] }
  dbig : h.objs.size ≤ dx
  dne : dx ≠ x
  ns : h'.Ns1 dx (fun y => if y = "at" then some v else none)
/-- a made error -/
structure OwnMade (h h' : Heap) (e C d : Addr) (v : Value) : Prop where
  keep : ∀ b o, h.get? b = some o → h'.get? b = some o
  new : h.objs.size ≤ e
  obj : ∃ oe vs, h'.get? e = some oe ∧ oe.cls = .ref C ∧ oe.dict = some d ∧ oe.data = .fields vs ∧ vs[1]? = some .none
  dbig : h.objs.size ≤ d
  dne : d ≠ e
  ns : h'.Ns1 d (fun y => if y = "at" then some v else none)
theorem drop_own (C : Addr) (l : List Value) : ((Value.ref C :: l).dropWhile (· != .ref C)).drop 1 = l := by
  simp [List.dropWhile_cons]
/-- o.name(a): o evaluated by wpAt -/
theorem mcall {prog : Program} {w : World} {A : Around} {E : Value → Shared → Prop} {s : Shared} {env : Env} {c : Code} {o a : Expr} {name : Str} {apos pos : Pos} {Q : Value → Shared → Prop}
    (hline : (apos.endLine == pos.line) = true) (hform : methodCallForm ([a].length + ([] : List Keyword).length) (backTo pos (starEach [a] env)) (backToKw pos (keywordEach [] env)) = true)
    (h : wpAt (model prog w) A c (attributeBase o name env (eval o env)) (fun ov s₁ => wpAny (model prog w) A (getMethod ov name (do return (← importBound o env).getD true)) (fun fx s₂ => wpAny (model prog w) A (callWith pos fx.1 fx.2 (backTo pos (starEach [a] env)) []) Q E s₂) E s₁) E s) :
    wpAt (model prog w) A c (eval (.Call (.Attribute o name apos) [a] [] pos) env) Q E s := by
  have hpos : methodCallPos true o env apos pos = pure pos := by unfold methodCallPos; simp [hline]
  rw [arm_eval_Call]
  refine wpAt_bind (wpAt_mono h (fun ov s₁ h₁ => wpAt_of_wpAny (wpAny_bind (wpAny_standAt ?_))) fun _ _ x => x)
  unfold methodCall
  rw [hform]
  exact wpAny_bind (wpAny_holding (wpAny_mono h₁ (fun fx s₂ h₂ => wpAny_bind (wpAny_of_eq hpos h₂)) fun _ _ x => x))
/-- the wrapper of ValueError.__init__ called -/
theorem call_mw {prog : Program} {w : World} {A : Around} {E : Value → Shared → Prop} {h : Heap} {g : Array GenState} {d : Drawn} {t : Nat} {os : OsState}
    {nm q : Str} {C N : Addr} {bs bm : List Value} {hdct : Bool} {sn : List Str} {sub : List Value} {ab : Bool} {col : Option Bool} {dd : Option Addr} {k0 k1 k2 k3 k5 : Option Value}
    {u e t0 : Addr} {rest : List Value} {Q : Value → Shared → Prop} (hbm : refsVE bm = true)
    (hC : h.get? C = some (excClassObj nm q C N bs bm hdct sn sub ab col dd k0 k1 k2 k3 k5 "ValueError.__new__")) (he : h.get? e = some (excO C t0)) (hu : h.get? u = some (kxs_mw "ValueError.__init__" e)) (hrest : rest.length ≤ sizeLine)
    (hq : ∀ h' t1, (∀ b o, b ≠ e → h.get? b = some o → h'.get? b = some o) → h'.get? e = some (excO C t1) → Q .none ⟨h', g, d, t, os⟩) :
    wpAny (model prog w) A (call (.ref u) rest) Q E ⟨h, g, d, t, os⟩ := by
  have F := F.excBase_ValueError
  refine wpAny_call (codeAny_of_tree ?_)
  show wpAny _ A.in1 (callAny (.ref u) ⟨rest, []⟩) _ _ _
  simp only [callAny]
  refine wpAny_bind (wpAny_load hu ?_)
  simp only [kxs_mw, show (Value.type "method-wrapper" == Value.type "method" || Value.type "method-wrapper" == Value.type "builtin_function_or_method" || Value.type "method-wrapper" == Value.type "method-wrapper") = true by decide, if_true]
  refine KFB.if_so (by decide) ?_
  refine wpAny_bind (check_bound_init F.toExcCallFacts hC he rfl ?_)
  refine wpAny_bind (wpAny_pure (wpAny_pure ?_))
  refine ⟨plainId_quiet F.init.plain _, codeAny_builtin F.initEntry ?_⟩
  wp_walk
  refine hq _ h.objs.size (fun b o hb ho => ?_) ?_
  · rw [Heap.get?_update_other _ _ (Ne.symm hb)]
    exact Heap.get?_push_of_some _ ho
  · rw [Heap.get?_update_self _ (Heap.get?_push_of_some _ he) rfl]
    rfl
section
variable {prog : Program} {w : World} {A : Around} {E : Value → Shared → Prop} {R : Result → Shared → Prop} {s : Shared} {K : Frag} {mg mb : Str → Option Value} {nm : Str} {C fI : Addr}
theorem sup_init (T : SupTxt prog K mg nm C fI) {x t0 : Addr} {v : Value} (X : K.In s.heap) (hlim : s.heap.NoLimit) (hg : s.heap.Ns mainGlobals mg) (hb : s.heap.Ns builtinsNs mb) (hmb : ∀ x : Str, x ≠ "__name__" → mb x = bootBuiltins x)
    (hx : s.heap.get? x = some (excO C t0)) (hnx : K.lookup x = none) (hroom : A.depth < recursionLimit)
    (hq : ∀ h' tk dx t1, InitEnd s.heap h' x C dx t1 v → R (.ok (.ret .none)) { s with heap := h', toks := tk }) :
    codeAny (model prog w) A (.call (.ref fI) ⟨[.ref x, v], []⟩) R s := by
  obtain ⟨qn, oc, od, doc, pm, an, cda, ct, osl, cc, p1, p2, q1, q2, q3, q4, q5, q6, q7, q8, q9, q10, ccl, cdd, vs, ccs, file, tf, cl, cld, csl, ho, hcd, hco, hvs, hfile, hl, hcell⟩ := T.fn
  obtain ⟨nm', q, N, bs, bm, sn, sub, ab, col, dd, k0, k1, k2, k3, k5, hC, hbm, hal⟩ := T.cls
  have hcl : clsIn K C = some { name := nm', bases := bs, mro := .ref C :: bm, ns := N, qualname := q, hasDict := true, slotNames := sn, subclasses := sub, abstract := ab, collection := col, hasDel := false } := by unfold clsIn; rw [hC] <;> rfl
  refine ks_codeAny_call_defAt (fd := ksFn "__init__" qn (iA p1 p2) (iB q1 q2 q3 q4 q5 q6 q7 q8 q9 q10) iS .none .none doc pm an (.ref cda) ct cc) (body := iB q1 q2 q3 q4 q5 q6 q7 q8 q9 q10) (binds := [("self", .ref x), ("at", v)])
    hroom (X _ _ ho) rfl hlim (codeRec_of X hcd) rfl (BindsTo.of_eq (by first | rfl | with_unfolding_all rfl)) (show ∀ x ∈ iS.names, x.2 ≠ .cell by decide) (by intro y hy; simp only [List.mem_cons, List.not_mem_nil, or_false] at hy; rcases hy with rfl | rfl <;> rfl) (fun h₁ hns k => ?_)
  have hxs : s.heap.objs.size ≠ x := Nat.ne_of_gt (Heap.lt_size hx)
  have X₁ : K.In h₁ := X.keeps k
  have hx₁ := k _ _ hx
  show wpAt (model prog w) (A.deeper (ksEnv qn iS s.heap.objs.size fI (.ref cda) cc)) (.func (iB q1 q2 q3 q4 q5 q6 q7 q8 q9 q10) (ksEnv qn iS s.heap.objs.size fI (.ref cda) cc)) (execs (_ :: _) (ksEnv qn iS s.heap.objs.size fI (.ref cda) cc)) _ _ _
  -- super().__init__(at)
  refine ks_wpAt_execs_cons (ks_wpAt_Expr_any (mcall hl rfl ?_))
  refine ks_wpAt_super_base (env := ksEnv qn iS s.heap.objs.size fI (.ref cda) cc) rfl rfl (by decide) rfl (X₁ _ _ ho) rfl rfl rfl (X₁ _ _ hco) rfl hvs hfile T.top ?_
  refine ks_loadName_global rfl rfl (loadGlobal_builtin (env := ksEnv qn iS s.heap.objs.size fI (.ref cda) cc) (hg.keeps k) T.sup0 (hb.keeps k) ((hmb _ (by decide)).trans (by decide +kernel)) ⟨rfl, ?_⟩)
  refine wpAny_loadName_free rfl rfl rfl ⟨_, X₁ _ _ hcell, rfl⟩ ?_
  refine wpAny_loadName_local (v := .ref x) rfl rfl hns (by rfl) ?_
  refine ks_wpAny_isType_cls (X₁ _ _ hC) rfl ⟨rfl, ?_⟩
  refine ks_wpAny_call_super (X₁ _ _ hC) rfl hx₁ rfl (fun c e => by cases e) (looks_mroIn X₁ (by unfold mroIn; rw [hcl]; simp)) (fun h₂ e₂ k₂ => ?_)
  have X₂ : K.In h₂ := X₁.keeps k₂
  have hx₂ := k₂ _ _ hx₁
  have I₂ : InstAt h₂ x (excO C t0) C none := ⟨hx₂, rfl, rfl, trivial⟩
  have hI : Looks (model prog w) h₂ (isInstance (.ref x) (.type "ValueError")) true := I₂.type.andThen (looks_subIn X₂ T.vE)
  refine kxs_getMethod kxs_ValueError e₂ (looks_opaque X₂ T.tp) (l₀ := .ref C :: bm) (fun A Q E s k q => wpAny_bind ((looks_clsIn X₂ hcl) A _ E s k (wpAny_pure q))) (drop_own C bm) X₂ hal hI (ks_ne X₂ I₂ hcl) (by decide) ?_
  have k₃ : ∀ b o, h₂.get? b = some o → (h₂.push (kxs_mw "ValueError.__init__" x)).get? b = some o := fun b o e => Heap.get?_push_of_some _ e
  have hu : (h₂.push (kxs_mw "ValueError.__init__" x)).get? h₂.objs.size = some (kxs_mw "ValueError.__init__" x) := Heap.get?_push_at rfl rfl
  refine kxs_callWith (i := "ValueError.__init__") (x := x) rfl ?_
  refine evalArgs_plain (Calls.spliced_cons (wpAny_Name (wpAny_loadName_local (v := v) rfl rfl (hns.keeps fun b o e => k₃ b o (k₂ b o e)) (by rfl) ?_) (by decide)))
  refine Calls.spliced_nil ⟨hu, ?_⟩
  refine call_mw hbm (X₂.keeps k₃ _ _ hC) (k₃ _ _ hx₂) hu (one_size v) (fun h₄ t1 k₄ hx₄ => ?_)
  -- self.at = at
  have kk : ∀ b o, b ≠ x → s.heap.get? b = some o → h₄.get? b = some o := fun b o hb e => k₄ b o hb (k₃ b o (k₂ b o (k b o e)))
  have X₄ : K.In h₄ := fun a o e => kk a o (fun z => by rw [z, hnx] at e; cases e) (X a o e)
  have hns₄ : h₄.Ns s.heap.objs.size (fun y => ([("self", .ref x), ("at", v)] : List (Str × Value)).reverse.lookup y) := by
    obtain ⟨oN, es, ep, e1, e2⟩ := hns
    exact ⟨oN, es, ep, k₄ _ _ hxs (k₃ _ _ (k₂ _ _ e1)), e2⟩
  refine wpAt_of_wpAny ?_
  show wpAny _ _ (execs (_ :: _) (ksEnv qn iS s.heap.objs.size fI (.ref cda) cc)) _ _ _
  refine wpAny_execs_cons (plainObj_wpAny_Assign_Attribute ?_)
  refine wpAny_Name (wpAny_loadName_local (v := v) rfl rfl hns₄ (by rfl) (wpAny_Name (wpAny_loadName_local (v := .ref x) rfl rfl hns₄ (by rfl) ?_) (by decide))) (by decide)
  refine set_plain X₄ (ox := excO C t1) (od := none) ⟨hx₄, rfl, rfl, trivial⟩ T.sa ?_
  refine exc_osa X₄ hx₄ hcl (show refsVE (.ref C :: bm) = true from hbm) rfl T.noN (fun h₅ tk₅ dx k₅ dn dne hx₅ hn₅ => ?_)
  have z : s.heap.objs.size ≤ h₄.objs.size := by
    obtain ⟨oN, es, ep, e1, e2⟩ := hns₄
    exact Nat.le_of_lt (Heap.lt_size e1)
  exact wpAny_execs_nil (hq h₅ tk₅ dx t1 ⟨fun b o hb e => k₅ b o hb (kk b o hb e), hx₅, Nat.le_trans z dn, dne, hn₅⟩)
theorem sup_made (T : SupTxt prog K mg nm C fI) {v : Value} (X : K.In s.heap) (hlim : s.heap.NoLimit) (hg : s.heap.Ns mainGlobals mg) (hb : s.heap.Ns builtinsNs mb) (hmb : ∀ x : Str, x ≠ "__name__" → mb x = bootBuiltins x) (hroom : A.depth + 1 < recursionLimit)
    (hq : ∀ h' tk e d, OwnMade s.heap h' e C d v → R (.ok (.ret (.ref e))) { s with heap := h', toks := tk }) :
    codeAny (model prog w) A (.call (.ref C) ⟨[v], []⟩) R s := by
  obtain ⟨nm', q, N, bs, bm, sn, sub, ab, col, dd, k0, k1, k2, k3, k5, hC, hbm, hal⟩ := T.cls
  obtain ⟨hp, g, dr, tk, os⟩ := s
  have k : ∀ b o, hp.get? b = some o → ((hp.push (kdv_tup [v])).push (excO C hp.objs.size)).get? b = some o := fun b o e => Heap.get?_push_of_some _ (Heap.get?_push_of_some _ e)
  have hget : ((hp.push (kdv_tup [v])).push (excO C hp.objs.size)).get? (hp.objs.size + 1) = some (excO C hp.objs.size) := by heap_get
  have hnx : K.lookup (hp.objs.size + 1) = none := by
    cases e : K.lookup (hp.objs.size + 1) with
    | none => rfl
    | some o =>
      have z : hp.get? (hp.objs.size + 1) = some o := X _ _ e
      exact absurd (Nat.lt_of_succ_lt (Heap.lt_size z)) (Nat.lt_irrefl _)
  refine call_own F.excBase_ValueError (fun X => refsVE_contains X bm hbm) (X _ _ hC) (looks_findIn X T.iC) (fun self => bind_fn X self T.tC) (one_size v) ?_
  refine sup_init (s := ⟨(hp.push (kdv_tup [v])).push (excO C hp.objs.size), g, dr, tk, os⟩) T (X.keeps k) (hlim.keeps k) (hg.keeps k) (hb.keeps k) hmb hget hnx ?_ fun h' tk' dx t1 ⟨k', hx, dn, dne, hns⟩ => ?_
  · show A.depth + 1 < recursionLimit
    exact hroom
  · have old : ∀ b o, hp.get? b = some o → h'.get? b = some o := fun b o e => k' b o (Nat.ne_of_lt (Nat.lt_succ_of_lt (Heap.lt_size e))) (k b o e)
    have z : hp.objs.size + 1 + 1 ≤ dx := by
      first
        | (simpa only [Heap.size_push] using dn)
        | exact dn
        | (have q := dn; rw [Heap.size_push, Heap.size_push] at q; exact q)
    exact ⟨rfl, hq h' tk' (hp.objs.size + 1) dx ⟨old, Nat.le_succ _, ⟨_, _, hx, rfl, rfl, rfl, rfl⟩, Nat.le_trans (Nat.le_trans (Nat.le_succ _) (Nat.le_succ _)) z, dne, hns⟩⟩
end
end SupX
end PySem
namespace L2
open PySem PySem.Spec PyProof.Rows
theorem relO_at {v : V} {v' : Value} (r : RelV v v') (f : Str) : RelO (List.lookup f [(("at" : Str), v)]) (if f = "at" then some v' else none) := by
  by_cases hw : f = "at"
  · subst hw
    rw [if_pos rfl]
    have q : List.lookup ("at" : Str) [(("at" : Str), v)] = some v := by simp [List.lookup]
    rw [q]
    exact r
  · rw [if_neg hw]
    have qw : (f == ("at" : Str)) = false := by simpa using hw
    have q2 : List.lookup f [(("at" : Str), v)] = none := by simp [List.lookup, qw]
    rw [q2]
    trivial
section
variable {X : Cx} {C fI : Addr} {nm : Str}
/-- E(e), an own error -/
def tMkSup (C : Addr) (ta : TA) : St → Hp → XK → Prop := fun σ H Q => ta σ H fun vs H1 => ∃ v, vs = [v] ∧ ∀ d, H1 d = none → Q (.ref C) (some d) (upd H1 d (.xd [(("at" : Str), v)]))
theorem pmk_sup {a : Expr} {ta : TA} {p pos : Pos} {k : Nat} (T : PySem.SupX.SupTxt X.prog X.K X.mg nm C fI) (hr : Room k X.A) (ha : PA X [a] ta) (hg : Gl X nm := by rfl) (hdb : (nm == ("__debug__" : Str)) = false := by decide)
    (he : starEach (a :: []) X.env = (false, eval a X.env) :: starEach [] X.env := by rfl) (hpl : (backTo pos (starEach [] X.env)).any (·.1) = false := by rfl) :
    PMk X (.Call (.Name nm p) [a] [] pos) (tMkSup C ta) := by
  intro pins s σ H Q I h
  refine wpAny_Call_Name_kw (ld_glob I hg T.gC ?_ hdb)
  refine PySem.W.callWith_K (h₀ := X.base) I.ok.mod.kin T.kC (thn (ha.run pos pins s σ H _ I h) fun us s1 hh => ?_) he hpl
  obtain ⟨vs, H1, I1, r1, v, ev, q1⟩ := hh
  subst ev
  refine ⟨I1.kIn, ?_⟩
  cases r1 with
  | cons rv rn =>
    rename_i v' us'
    cases rn
    show wpAny _ _ (call (.ref C) [v']) _ _ _
    have hlim := I1.nolimit
    obtain ⟨mb, hb, hmb⟩ := I1.mod.blt
    have hgl : s1.heap.Ns mainGlobals X.mg := I1.mod.glob.keeps I1.bk
    have hbl : s1.heap.Ns builtinsNs mb := hb.keeps I1.bk
    obtain ⟨hp, g, dr, tk, os⟩ := s1
    refine wpAny_call (PySem.SupX.sup_made T I1.kIn hlim hgl hbl hmb (by have := hr.dp; omega) fun h' tk' e d M => ?_)
    show MkP X pins σ Q (.ref e) ⟨h', g, dr, tk', os⟩
    obtain ⟨oe, fv, hoe, hc, hd, hdat, h1⟩ := M.obj
    have hns := M.ns
    obtain ⟨G', g1, g2⟩ := restrict h' fun b => decide (b ≠ e)
    have gk : ∀ b, b ≠ e → G'.get? b = h'.get? b := fun b hb => g1 b (decide_eq_true hb)
    have ge : G'.get? e = none := g2 e (by simp)
    have old : ∀ b o, hp.get? b = some o → G'.get? b = some o := fun b o q => (gk b (Nat.ne_of_lt (Nat.lt_of_lt_of_le (Heap.lt_size q) M.new))).trans (M.keep b o q)
    have ob : ObjOk X.prog X.w (upd H1 d (.xd [(("at" : Str), v)])) G' d (.xd [(("at" : Str), v)]) :=
      ⟨_, hns.at (fun o q => (gk d M.dne).trans q), fun f => relO_at rv f⟩
    have J : Inv X pins σ (upd H1 d (.xd [(("at" : Str), v)])) ⟨G', g, dr, tk', os⟩ := I1.laid (t' := tk') old M.dbig ob
    refine ⟨e, oe, fv, ⟨G', g, dr, tk', os⟩, _, .ref C, some d, rfl, J, fun b o q => ?_, ge, hoe, ⟨hc, hd⟩, hdat, h1, ?_, rfl, I1.bare, raises_own T.exC T.tyC, q1 d (I1.hok.fresh M.dbig)⟩
    · by_cases hb : b = e
      · have q' : G'.get? b = some o := q
        rw [hb, ge] at q'; cases q'
      · exact (gk b hb).symm.trans q
    · rw [upd_ne (Ne.symm M.dne)]
      exact I1.hok.fresh M.new
/-- raise E(e) -/
def tRaiseSup (C : Addr) (W : WX) (ta : TA) : TS := fun _ σ H => tMkSup C ta σ H fun cls d H' => W cls d σ H'
theorem ps_raiseSup {a : Expr} {ta : TA} {W : WX} {p pos pos2 : Pos} {k : Nat} (hc : X.calm = true) (T : PySem.SupX.SupTxt X.prog X.K X.mg nm C fI) (hr : Room k X.A) (tk : Takes X W) (ha : PA X [a] ta) (hg : Gl X nm := by rfl) (hdb : (nm == ("__debug__" : Str)) = false := by decide)
    (he : starEach (a :: []) X.env = (false, eval a X.env) :: starEach [] X.env := by rfl) (hpl : (backTo pos (starEach [] X.env)).any (·.1) = false := by rfl) :
    PS X (.Raise (some (.Call (.Name nm p) [a] [] pos)) none pos2) (tRaiseSup C W ta) := ps_raise hc tk (pmk_sup T hr ha hg hdb he hpl)
/-- err.at, err the exception that the suite holds (at a; its class cls, its dict d) -/
def tAtSup (C : Addr) (a : Addr) (cls : Value) (d : Option Addr) (te : TE) : TE := fun σ H Q => te σ H fun x H1 => x = .ref a ∧ cls = .ref C ∧ ∃ (dd : Addr) (v : V), d = some dd ∧ H1 dd = some (.xd [(("at" : Str), v)]) ∧ Q v H1
theorem pe_atSup {a : Addr} {oe : Obj} {cls : Value} {d : Option Addr} {pn : List (Addr × Obj)} {e : Expr} {te : TE} {pos : Pos} (T : PySem.SupX.SupTxt X.prog X.K X.mg nm C fI) (hz : Zc cls d oe) (hf : ∃ vs, oe.data = .fields vs) (he : PE (X.suite a ((a, oe) :: pn)) e te)
    (hb : attributeBase e "at" X.env (eval e X.env) = eval e X.env := by rfl) :
    PE (X.suite a ((a, oe) :: pn)) (.Attribute e "at" pos) (tAtSup C a cls d te) := by
  refine ⟨fun pins s σ H Q I h => ?_⟩
  refine attr_of hb (thn (he.run pins s σ H _ I h) fun u s1 hh => ?_)
  obtain ⟨x, H1, I1, rx, ex, ec, dd, v, ed, ea, q⟩ := hh
  subst ex
  obtain rfl : u = Value.ref a := rx
  subst ec
  subst ed
  obtain ⟨ha, _⟩ := I1.pin (a, oe) (List.mem_append_left _ List.mem_cons_self)
  obtain ⟨vs, hd⟩ := hf
  have hx : ObjOk X.prog X.w H1 s1.heap dd (.xd [(("at" : Str), v)]) := I1.hok dd _ ea
  obtain ⟨mA, hns, hr⟩ := hx
  obtain ⟨od, ho, hl⟩ := lookIn_ns hns
  have l : List.lookup ("at" : Str) [(("at" : Str), v)] = some v := by simp [List.lookup]
  obtain ⟨u, hu, ru⟩ := RelO.some_of (v := v) (o := mA "at") (by rw [← l]; exact hr "at")
  have J : PySem.W.InstAt s1.heap a oe C (some od) := ⟨ha, hz.1, by unfold PySem.W.notCls; rw [hd] <;> rfl, by rw [hz.2]; exact ho⟩
  exact HandSPX.exc_get I1.kIn J T.ga T.gg T.exC (PySem.W.findObj_own T.hdC T.noN rfl (by rw [hl, hu])) (handed_of ru) ⟨v, H1, I1.tok _, ru, q⟩
end
end L2

namespace LamX
open PySem PySem.Spec PyProof.Rows L2
/-- what «try: return (t1, a()) / except E as e: return (t2, e.at)» makes of the reading tl of a(): C the class that may come -/
def TTold2 (K : PySem.W.Frag) (C CS : Addr) (t1 t2 : Str) : (XK → Hp → VK → Prop) → Hp → VK → Prop := fun tl H Q =>
  tl (fun cls d H' => cls = .ref C ∧ ∃ (dd : Addr) (v : V), d = some dd ∧ H' dd = some (.xd [(("at" : Str), v)]) ∧ ∀ p, H' p = none → Q (.ref p) (upd H' p (.tup [.str t2, v])))
    H (fun v H' => [V.str t1, v].length ≤ sizeLine ∧ ∀ p, H' p = none → Q (.ref p) (upd H' p (.tup [.str t1, v])))
theorem takes_len {X : Cx} {W : WX} (tk : Takes X W) : Takes X (fun c d σ H => σ.length = X.N.length → W c d σ H) := fun u s' ⟨a, B, sI, pins, σ, H, cls, d, e, I, nb, up, sky, na, os, ag, w⟩ =>
  tk u s' ⟨a, B, sI, pins, σ, H, cls, d, e, I, nb, up, sky, na, os, ag, w I.len⟩
theorem heard_gives {X : Cx} {Ng : List Str} {x a e q nm es t1 t2 : Str} {sg : Scope} {g C CS fI : Addr} {cdg : Value} {j1 j2 : Nat} {k1 k2 : Nat} {p1 p2 p3 p4 p5 p6 p7 p8 p9 p10 p11 p12 p13 : Pos}
    (T : PySem.SupX.SupTxt X.prog X.K X.mg nm C fI) (hge : sg.names.lookup es = some .globalImplicit) (hme : X.mg es = some (.ref CS)) (hde : (es == ("__debug__" : Str)) = false) (hex : PySem.W.exmOne X.K (.ref C) (.ref CS) = some true)
    (hN : Ng.Nodup) (hN1 : Ng[1]? = some e) (hl1 : sg.names.lookup e = some .local) (hd1 : (e == ("__debug__" : Str)) = false) (hc1 : (e == ("__classdict__" : Str)) = false)
    (h0 : ∀ f : Addr, L2.start Ng [V.ref f] = [some (.ref f), none]) :
    GivesTo X Ng x sg g cdg [.Try [.Return (some (.Tuple [.Constant (.str t1) j1 p1, .Call (.Name a p2) [] [] p3] k1 p4)) p5] [.ExceptHandler (some (.Name es p6)) (some e) [.Return (some (.Tuple [.Constant (.str t2) j2 p7, .Attribute (.Name e p8) "at" p9] k2 p10)) p11] p12] [] [] p13] a q (TTold2 X.K C CS t1 t2) := by
  intro f c' s H Q tl act hc h
  have hgl : Gl (cxOf C8.CX0 X.prog X.w X.K X.mg X.base Ng x sg g cdg X.A X.stack s H C8.E0).nox es := hge
  have hv1 : Vis sg e := .inl hl1
  refine ⟨_, pss_one (ps_try_as (X := (cxOf C8.CX0 X.prog X.w X.K X.mg X.base Ng x sg g cdg X.A X.stack s H C8.E0).nox) (c := .ref CS) (i := 1)
      (tb := fun W D σ H => ∃ Ech : XK, (∀ cls d σ' H', σ'.length = Ng.length → Ech cls d H' → W cls d σ' H') ∧ σ[0]? = some (some (.ref f)) ∧ H c' = some (CodeO c' q) ∧ tl Ech H (fun v H' => [V.str t1, v].length ≤ sizeLine ∧ ∀ p, H' p = none → D.rt (.ref p) (upd H' p (.tup [.str t1, v]))))
      rfl rfl hN hN1 hl1 ⟨hgl, hde, .inl hme⟩ takes0 (fun W pn xe tk _ => ?_)
      (fun a oe cls d pn hz hf => pss_one (ps_ret (pe_tup (pa_cons pe_str (pa_cons (pe_atSup T hz hf (pv 1 hN1 hv1 hd1 hc1)) pa_nil)))))), ?_⟩
  · refine ⟨fun pins s' σ H' D I h' => ?_⟩
    obtain ⟨Ech, hW, h1, h2, h3⟩ := h'
    have hp := act (fun c d σ H => σ.length = Ng.length → W c d σ H) pn xe Ech p2 p3 (takes_len tk) (fun cls d σ' H' he hl => hW cls d σ' H' hl he)
    have hq := pss_one (ps_ret (pos := p5) (pe_tup (x1 := k1) (pos := p4) (pa_cons (pe_str (x := t1) (j := j1) (pos := p1)) (pa_cons hp pa_nil))))
    refine hq.run pins s' σ H' D I ⟨h1, h2, ?_⟩
    exact h3
  · refine ⟨fun cls d H' => cls = .ref C ∧ ∃ (dd : Addr) (v : V), d = some dd ∧ H' dd = some (.xd [(("at" : Str), v)]) ∧ ∀ p, H' p = none → Q (.ref p) (upd H' p (.tup [.str t2, v])), fun cls d σ' H' hlen ⟨ec, dd, v, ed, hd, hq⟩ => ?_, ?_, hc, h⟩
    · subst ec
      refine ⟨true, hex, fun _ a0 ha0 => ?_, fun z => Bool.noConfusion z⟩
      have h2 : σ'.length = 2 := by
        have z := congrArg List.length (h0 f)
        have y : (L2.start Ng [V.ref f]).length = Ng.length := by simp [L2.start]; have := (List.getElem?_eq_some_iff.mp hN1).1; omega
        rw [hlen, ← y, z]; rfl
      refine ⟨.ref a0, ?_, rfl, rfl, dd, v, ed, hd, ?_, hq⟩
      · rw [List.getElem?_set_self (by omega)]
      · show 2 ≤ sizeLine
        decide
    · rw [h0]
      rfl
/-- within a lambda's body a callee's exception goes on -/
theorem passLam {X : Cx} {A : Around} {outer : List Env} {s : Shared} {H : Hp} {E : XK} {scope : Scope} {f c' : Addr} : Passes (L2.CX X.prog X.w) (lamCx X A outer s H E scope f c') E :=
  passes_call (takes_of rfl rfl rfl rfl) fun _ _ _ _ h => h
/-- a def whose code object is known -/
theorem fn_okC {P : Program} {w : World} {K : PySem.W.Frag} {mg : Str → Option Value} {base : Heap} {k : Nat} {f : Addr} {name qual : Str} {params : Arguments} {body : List Stmt} {scope : Scope} {dV kV doc pm cdv ct oc : Value} {an od : Option Addr}
    {osl : Array (Option Value)} {N ps : List Str} {sp : Sp} (lk : K.lookup f = some ⟨oc, od, .func (PySem.W.fnOf name qual params body scope dV kV doc pm an cdv ct), osl⟩) (hcd : PySem.W.codeIn K cdv qual = true) (S : FnScope N ps scope)
    (len : ∀ vs H Q E, sp vs H Q E → vs.length = ps.length)
    (hbody : ∀ (A : Around) (outer : List Env) (s : Shared) (H : Hp) (vs : List V) (Q : VK) (E : XK), Room k (A.deeper (envOfC qual scope s.heap.objs.size f cdv)) → sp vs H Q E →
      ∃ t, PSs (cxOf CX0 P w K mg base N qual scope f cdv A outer s H E).nox body t ∧ t { nx := fun _ H' => Q .non H', rt := Q } (L2.start N vs) H) :
    FnOk P w K mg base CX0 (k + 1) f (PySem.W.fnOf name qual params body scope dV kV doc pm an cdv ct) ps sp :=
  fn_of lk hcd S len fun A outer s H vs Q E hr h => let ⟨t, h1, h2⟩ := hbody A outer s H vs Q E hr h; ⟨t, h1.nox, h2⟩
end LamX

namespace L2
open PySem PySem.Spec PyProof.Rows
/-- x is True, x is False, whatever x is -/
def rIsAB : R2 := fun x y H Q => ∃ b : Bool, y = .bl b ∧ Q (.bl (decide (x = .bl b))) H
theorem op_isAnyB {X : Cx} : OpR X (compareOp .Is) rIsAB := by
  intro pins s σ H x y u v Q I rx ry h
  obtain ⟨b, rfl, q⟩ := h
  cases (show v = Value.bool b from ry)
  have other : (∀ c, x ≠ .bl c) → plainIs u (.bool b) = true → u ≠ .bool b → wpAny (model X.prog X.w) X.A (compareOp .Is u (.bool b)) (EP X pins σ Q) X.xe s := fun h1 h2 h3 =>
    wpAny_is_other h2 h3 ⟨.bl false, H, I, rfl, by simpa [h1 b] using q⟩
  cases x with
  | bl a =>
    cases (show u = Value.bool a from rx)
    by_cases e : a = b
    · subst e
      exact wpAny_is_self rfl ⟨.bl true, H, I, rfl, by simpa using q⟩
    · exact wpAny_is_other rfl (fun z => e (Value.bool.inj z)) ⟨.bl false, H, I, rfl, by simpa [e] using q⟩
  | non => cases (show u = Value.none from rx); exact other (fun _ z => nomatch z) rfl (fun z => nomatch z)
  | int i => obtain ⟨t, rfl⟩ := (show ∃ t, u = Value.int i t from rx); exact other (fun _ z => nomatch z) rfl (fun z => nomatch z)
  | str i => obtain ⟨t, rfl⟩ := (show ∃ t, u = Value.str i t from rx); exact other (fun _ z => nomatch z) rfl (fun z => nomatch z)
  | byt i => obtain ⟨t, rfl⟩ := (show ∃ t, u = Value.bytes i t from rx); exact other (fun _ z => nomatch z) rfl (fun z => nomatch z)
  | flt i => obtain ⟨t, rfl⟩ := (show ∃ t, u = Value.float i t from rx); exact other (fun _ z => nomatch z) rfl (fun z => nomatch z)
  | ref a => cases (show u = Value.ref a from rx); exact other (fun _ z => nomatch z) rfl (fun z => nomatch z)
  | ty n => cases (show u = Value.type n from rx); exact other (fun _ z => nomatch z) rfl (fun z => nomatch z)
/-- all that was tracked is as it was, but for what stands at the places of S -/
def ExB (S : List Addr) (H H' : Hp) : Prop := ∀ a o, H a = some o → a ∉ S → H' a = some o
theorem ExB.refl {S : List Addr} {H : Hp} : ExB S H H := fun _ _ h _ => h
theorem ExB.trans {S : List Addr} {H H1 H2 : Hp} (a : ExB S H H1) (b : ExB S H1 H2) : ExB S H H2 := fun x o h n => b x o (a x o h n) n
theorem ExB.mono {S S' : List Addr} {H H1 : Hp} (a : ExB S H H1) (h : ∀ x ∈ S, x ∈ S') : ExB S' H H1 := fun x o e n => a x o e fun z => n (h x z)
theorem ExB.of {S : List Addr} {H H1 : Hp} (a : Same H H1) : ExB S H H1 := fun x o e _ => a x o e
theorem ExB.same {H H1 : Hp} (a : ExB [] H H1) : Same H H1 := fun x o e => a x o e (by simp)
theorem ExB.new {S : List Addr} {H : Hp} {p : Addr} {o : HO} (h : H p = none) : ExB S H (upd H p o) := fun a u e _ => by
  rw [upd_ne (ne_of_none e h)]; exact e
theorem Same.new {H : Hp} {p : Addr} {o : HO} (h : H p = none) : Same H (upd H p o) := fun a u e => by
  rw [upd_ne (ne_of_none e h)]; exact e
theorem ExB.put {S : List Addr} {H : Hp} {p : Addr} {o : HO} (h : p ∈ S) : ExB S H (upd H p o) := fun a u e n => by
  rw [upd_ne (fun z => n (by rw [z]; exact h))]; exact e
/-- no tracked address is lost -/
theorem ExB.free {S : List Addr} {H H1 : Hp} (a : ExB S H H1) {p : Addr} (h : H1 p = none) (n : p ∉ S) : H p = none := by
  cases q : H p with
  | none => rfl
  | some o => rw [a p o q n] at h; cases h
/-- the places of S hold no tuples -/
def NoT (S : List Addr) (H : Hp) : Prop := ∀ a ∈ S, ∃ o, H a = some o ∧ (∀ xs, o ≠ .tup xs) ∧ (∀ ob u, o ≠ .frz ob u)
theorem ExB.rd {S : List Addr} {H H1 : Hp} (e : ExB S H H1) (n : NoT S H) {a : Addr} {xs : List V} (h : Rd H a (.tup xs)) : Rd H1 a (.tup xs) := by
  rcases h with h | ⟨o, h⟩
  · refine .inl (e _ _ h fun z => ?_)
    obtain ⟨o, e1, e2, _⟩ := n a z
    rw [h] at e1; exact e2 xs (Option.some.inj e1).symm
  · refine .inr ⟨o, e _ _ h fun z => ?_⟩
    obtain ⟨o', e1, _, e2⟩ := n a z
    rw [h] at e1; exact e2 _ _ (Option.some.inj e1).symm
theorem ExB.sqT {S : List Addr} {K : PySem.W.Frag} {H H1 : Hp} (e : ExB S H H1) (n : NoT S H) {a : Addr} {xs : List V} (h : SqT K H a xs) : SqT K H1 a xs := by
  rcases h with h | h
  · exact .inl (e.rd n h)
  · exact .inr h
theorem Same.sqT {K : PySem.W.Frag} {H H1 : Hp} (e : Same H H1) {a : Addr} {xs : List V} (h : SqT K H a xs) : SqT K H1 a xs := by
  rcases h with (h | ⟨o, h⟩) | h
  · exact .inl (.inl (e _ _ h))
  · exact .inl (.inr ⟨o, e _ _ h⟩)
  · exact .inr h
/-- all that was tracked is as it was, but for the places of S and for tables of code objects -/
def ExW (S : List Addr) (H H' : Hp) : Prop := ∀ a o, H a = some o → a ∉ S → (∀ ps, o ≠ .tbl ps) → H' a = some o
theorem ExB.w {S : List Addr} {H H1 : Hp} (e : ExB S H H1) : ExW S H H1 := fun a o h n _ => e a o h n
theorem ExW.of {S : List Addr} {H H1 : Hp} (e : Same H H1) : ExW S H H1 := fun a o h _ _ => e a o h
theorem ExW.trans {S : List Addr} {H H1 H2 : Hp} (a : ExW S H H1) (b : ExW S H1 H2) : ExW S H H2 := fun x o h n t => b x o (a x o h n t) n t
theorem ExW.ext {S : List Addr} {H H1 : Hp} (e : LamX.ExtN H H1) : ExW S H H1 := fun a o h _ t => e a o h t
theorem ExW.refl {S : List Addr} {H : Hp} : ExW S H H := fun _ _ h _ _ => h
theorem ExW.sqT {S : List Addr} {K : PySem.W.Frag} {H H1 : Hp} (e : ExW S H H1) (n : NoT S H) {a : Addr} {xs : List V} (h : SqT K H a xs) : SqT K H1 a xs := by
  rcases h with (h | ⟨o, h⟩) | h
  · refine .inl (.inl (e _ _ h (fun z => ?_) fun _ z => nomatch z))
    obtain ⟨o, e1, e2, _⟩ := n a z
    rw [h] at e1; exact e2 xs (Option.some.inj e1).symm
  · refine .inl (.inr ⟨o, e _ _ h (fun z => ?_) fun _ z => nomatch z⟩)
    obtain ⟨o', e1, _, e2⟩ := n a z
    rw [h] at e1; exact e2 _ _ (Option.some.inj e1).symm
  · exact .inr h
theorem tabs_exB {T : List (Addr × Str)} {S : List Addr} {H H1 : Hp} (t : LamX.Tabs T H) (e : ExB S H H1) (n : ∀ a ∈ S, (∃ xs, H a = some (.lst xs)) ∨ ∃ C dx fs, H a = some (.ins C dx fs)) : LamX.Tabs T H1 := fun p hp => by
  obtain ⟨ps, h1, h2, h3⟩ := t p hp
  have no : ∀ {a : Addr} {o : HO}, H a = some o → (∀ xs, o ≠ .lst xs) → (∀ C dx fs, o ≠ .ins C dx fs) → a ∉ S := fun {a o} h x y z => by
    rcases n a z with ⟨xs, q⟩ | ⟨C, dx, fs, q⟩
    · rw [h] at q; exact x xs (Option.some.inj q)
    · rw [h] at q; exact y _ _ _ (Option.some.inj q)
  refine ⟨ps, e _ _ h1 (no h1 (fun _ z => nomatch z) fun _ _ _ z => nomatch z), h2, fun pos cv hc => ?_⟩
  obtain ⟨c, e1, e2⟩ := h3 pos cv hc
  exact ⟨c, e1, e _ _ e2 (no e2 (fun _ z => by cases z) fun _ _ _ z => by cases z)⟩
theorem tabs_same {T : List (Addr × Str)} {H H1 : Hp} (t : LamX.Tabs T H) (e : Same H H1) : LamX.Tabs T H1 := t.ext e
/-- a tuple's type -/
theorem SqT.ty {K : PySem.W.Frag} {H : Hp} {a : Addr} {xs : List V} (h : SqT K H a xs) : TyX K H (.ref a) (.type "tuple") := by
  rcases h with (h | ⟨o, h⟩) | ⟨o, its, n, h, c, _⟩
  · exact .base (.tup h)
  · exact .fTuple h
  · exact .kTuple h c
theorem lst_ty {K : PySem.W.Frag} {H : Hp} {a : Addr} {xs : List V} (h : H a = some (.lst xs)) : TyX K H (.ref a) (.type "list") := .base (.lst h)
/-- flat values -/
def Flat : V → Prop
  | .non | .bl _ | .int _ | .str _ => True
  | _ => False
/-- two values that are equal plain data (None, bools, ints, texts, tuples) of a depth up to n -/
def Eqd (K : PySem.W.Frag) (H : Hp) : Nat → V → V → Prop
  | 0, v, u => v = u ∧ Flat v
  | n + 1, v, u => (v = u ∧ Flat v) ∨ ∃ (a b : Addr) (xs ys : List V), v = .ref a ∧ u = .ref b ∧ SqT K H a xs ∧ SqT K H b ys ∧ (xs.length = ys.length ∧ ys.length ≤ 100000) ∧ ∀ (i : Nat) (x y : V), xs[i]? = some x → ys[i]? = some y → Eqd K H n x y
theorem Eqd.flat {K : PySem.W.Frag} {H : Hp} {v : V} (h : Flat v) : ∀ {n : Nat}, Eqd K H n v v
  | 0 => ⟨rfl, h⟩
  | _ + 1 => Or.inl ⟨rfl, h⟩
theorem Eqd.keep {K : PySem.W.Frag} {H H1 : Hp} (k : ∀ a xs, SqT K H a xs → SqT K H1 a xs) : ∀ {n : Nat} {v u : V}, Eqd K H n v u → Eqd K H1 n v u
  | 0, _, _, h => h
  | n + 1, _, _, Or.inl h => Or.inl h
  | n + 1, _, _, Or.inr ⟨a, b, xs, ys, e1, e2, h1, h2, hl, hh⟩ => Or.inr ⟨a, b, xs, ys, e1, e2, k _ _ h1, k _ _ h2, hl, fun i x y hx hy => Eqd.keep k (hh i x y hx hy)⟩
theorem Eqd.up {K : PySem.W.Frag} {H : Hp} : ∀ {n : Nat} {v u : V}, Eqd K H n v u → Eqd K H (n + 1) v u
  | 0, _, _, h => Or.inl h
  | n + 1, _, _, Or.inl h => Or.inl h
  | n + 1, _, _, Or.inr ⟨a, b, xs, ys, e1, e2, h1, h2, hl, hh⟩ => Or.inr ⟨a, b, xs, ys, e1, e2, h1, h2, hl, fun i x y hx hy => Eqd.up (hh i x y hx hy)⟩
theorem Eqd.tup {K : PySem.W.Frag} {H : Hp} {n : Nat} {a b : Addr} {xs ys : List V} (h1 : SqT K H a xs) (h2 : SqT K H b ys) (hl : xs.length = ys.length) (hz : ys.length ≤ 100000) (hh : ∀ (i : Nat) (x y : V), xs[i]? = some x → ys[i]? = some y → Eqd K H n x y) : Eqd K H (n + 1) (.ref a) (.ref b) :=
  Or.inr ⟨a, b, xs, ys, rfl, rfl, h1, h2, ⟨hl, hz⟩, hh⟩
section
variable {P : Program} {w : World} {K : PySem.W.Frag} {mg : Str → Option Value} {base : Heap} {x qual : Str} {params : Arguments} {body : List Stmt} {scope : Scope} {dvs : List V} {kws : List (Str × V)} {f : Addr} {fd : FuncData}
/-- FunD.ok for a def that lets nothing out -/
theorem FunD.ok0 {N ps : List Str} {k : Nat} {sp : Sp} (F : FunD K x qual params body scope dvs kws f fd) (S : FnScope N ps scope) (len : ∀ vs H Q E, sp vs H Q E → vs.length = ps.length)
    (hbody : ∀ (cdv : Value) (A : Around) (outer : List Env) (s : Shared) (H : Hp) (vs : List V) (Q : VK) (E : XK), Room k (A.deeper (envOfC qual scope s.heap.objs.size f cdv)) → sp vs H Q E →
      ∃ t, PSs (cxOf CX0 P w K mg base N qual scope f cdv A outer s H E).nox body t ∧ t { nx := fun _ H' => Q .non H', rt := Q } (start N vs) H) : FnOk P w K mg base CX0 (k + 1) f fd ps sp :=
  F.ok S len fun cdv A outer s H vs Q E hr hsp => let ⟨t, h, q⟩ := hbody cdv A outer s H vs Q E hr hsp; ⟨t, h.nox, q⟩
end
end L2
namespace L2
open PySem PySem.Spec PyProof.Rows
/-! ### rules whose part K is told, for blocks of comprehensions -/
section
variable {X : Cx} {K : PySem.W.Frag}
theorem ix_listK (h : X.K = K) : IxR X (rIxL K) := by subst h; exact ix_list
theorem ix_tupK (h : X.K = K) : IxR X (rIxT K) := by subst h; exact ix_tup
theorem ix_seqK (h : X.K = K) : IxR X (rIx K) := by subst h; exact ix_seq
theorem sl_listK (h : X.K = K) : SlR X (rSlL K) := by subst h; exact sl_list
theorem sl_tupK (h : X.K = K) : SlR X (rSlT K) := by subst h; exact sl_tup
def rLenS (K : PySem.W.Frag) : List V → Hp → VK → Prop := fun xs H Q => ∃ p ys, xs = [.ref p] ∧ (SqL K H p ys ∨ SqT K H p ys) ∧ Q (.int ys.length) H
def rListS (K : PySem.W.Frag) : List V → Hp → VK → Prop := fun xs H Q => ∃ p ys, xs = [.ref p] ∧ (SqL K H p ys ∨ SqT K H p ys) ∧ ∀ l, H l = none → Q (.ref l) (upd H l (.lst ys))
theorem lenK (h : X.K = K) : CallR X (.builtin "len") (rLenS K) := by subst h; exact call_len_seq
theorem isiK (h : X.K = K) : CallR X (.builtin "isinstance") (rIsi K) := by subst h; exact call_isi
theorem allK (h : X.K = K) (hc : X.calm = true) : CallR X (.builtin "all") (rAll K) := by subst h; exact cr_all hc
theorem anyK (h : X.K = K) (hc : X.calm = true) : CallR X (.builtin "any") (rAny K) := by subst h; exact cr_any hc
theorem inK (h : X.K = K) : OpR X (compareOp .In) (rIn K false) := by subst h; exact op_in_seq
theorem notInK (h : X.K = K) : OpR X (compareOp .NotIn) (rIn K true) := by subst h; exact op_notIn_seq
theorem indexK (h : X.K = K) : MtR X "list.index" (rIndex K) := by subst h; exact mt_index
theorem listOfK (h : X.K = K) : CallR X (.type "list") (rListS K) := by subst h; exact call_list_of
def rTupS (K : PySem.W.Frag) : List V → Hp → VK → Prop := fun xs H Q => ∃ p ys, xs = [.ref p] ∧ ((SqL K H p ys ∧ ∀ l, H l = none → Q (.ref l) (upd H l (.tup ys))) ∨ (SqT K H p ys ∧ Q (.ref p) H))
theorem tupOfK (h : X.K = K) : CallR X (.type "tuple") (rTupS K) := by subst h; exact call_tuple_of
theorem sortedK (h : X.K = K) : CallR X (.builtin "sorted") (rSortedI K) := by subst h; exact cr_sortedI
theorem fldK {e : Expr} {f : Str} {pos : Pos} {ta : TE} (h : X.K = K) (he : PE X e ta) (hb : attributeBase e f X.env (eval e X.env) = eval e X.env) : PE X (.Attribute e f pos) (tFld K ta f) := by subst h; exact pe_fld he hb
theorem repTK (h : X.K = K) : OpR X (binaryOp .Mult) (rRepT K) := by subst h; exact op_repT
theorem piListK {l tg : Expr} {tl : TE} (h : X.K = K) (hl : PE X l tl) : PI X tg l (iList K tl) := by subst h; exact pi_list hl
theorem pe_globR {x : Str} {a : Addr} {pos : Pos} (hg : Gl X x) (hm : X.mg x = some (.ref a)) (hd : (x == ("__debug__" : Str)) = false := by decide) : PE X (.Name x pos) (tC (.ref a)) := pe_glob (v := .ref a) hg hm rfl hd
theorem pe_bmK {o e : Expr} {es : List Expr} {to : TE} {t : TA} {name : Str} {apos cpos : Pos} {T id : String} {r : V → List V → Hp → VK → Prop} (h : X.K = K) (pa : PlainAttrs T) (slot : Slot T name id) (hty : typeOf (.builtin id) = pure (.type "method_descriptor")) (hm : MtR X id r) (ho : PE X o to) (ha : PA X (e :: es) t)
    (hbase : attributeBase o name X.env (eval o X.env) = eval o X.env := by rfl)
    (hfew : ((backTo cpos (starEach (e :: es) X.env)).all (fun x => !x.1) && (backToKw cpos (keywordEach [] X.env)).all (fun x => x.1.isSome)
      && decide ((e :: es).length + ([] : List Keyword).length + (if ([] : List Keyword).isEmpty then 0 else 1) < 30)) = true := by rfl)
    (hline : (apos.endLine == cpos.line) = true := by rfl) (hs : starEach (e :: es) X.env = (false, eval e X.env) :: starEach es X.env := by rfl) (hplain : (backTo cpos (starEach es X.env)).any (·.1) = false := by rfl) :
    PE X (.Call (.Attribute o name apos) (e :: es) [] cpos) (tBM K T r to t) := by subst h; exact pe_bm pa slot hty hm ho ha hbase hfew hline hs hplain
theorem pe_bm0K {o : Expr} {to : TE} {name : Str} {apos cpos : Pos} {T id : String} {r : V → List V → Hp → VK → Prop} (h : X.K = K) (pa : PlainAttrs T) (slot : Slot T name id) (hty : typeOf (.builtin id) = pure (.type "method_descriptor")) (hm : MtR X id r) (ho : PE X o to)
    (hbase : attributeBase o name X.env (eval o X.env) = eval o X.env := by rfl) (hline : (apos.endLine == cpos.line) = true := by rfl) : PE X (.Call (.Attribute o name apos) [] [] cpos) (tBM0 K T r to) := by subst h; exact pe_bm0 pa slot hty hm ho hbase hline
/-- isinstance(e, c), e the exception that the suite holds, with a dict of its own -/
def rIsED (K : PySem.W.Frag) (D a : Addr) (cls : Value) (d : Option Addr) : List V → Hp → VK → Prop := fun xs H Q => ∃ (c : V) (cv : Value) (b : Bool) (dd : Addr) (fs : List (Str × V)), xs = [.ref a, c] ∧ cls = .ref D ∧ d = some dd ∧ H dd = some (.xd fs) ∧ (∀ u, RelV c u → u = cv) ∧ PySem.W.kitOne K (.ref D) cv = some b ∧ Q (.bl b) H
theorem call_isED {X : Cx} {a D : Addr} {oe : Obj} {cls : Value} {d : Option Addr} {pn : List (Addr × Obj)} (C : ExcC X.K D) (hz : Zc cls d oe) (hf : ∃ vs, oe.data = .fields vs) : CallR (X.suite a ((a, oe) :: pn)) (.builtin "isinstance") (rIsED X.K D a cls d) := by
  intro pins s σ H xs us Q I r h
  obtain ⟨c, cv, b, dd, fs, rfl, ecl, ed, hdd, hcv, e, q⟩ := h
  subst ecl
  subst ed
  cases r with
  | cons rx rr =>
    cases rr with
    | cons rt rr =>
      cases rr
      cases rx
      have ec := hcv _ rt
      subst ec
      obtain ⟨hget, _⟩ := I.pin (a, oe) (List.mem_append.mpr (.inl List.mem_cons_self))
      obtain ⟨vs, hv⟩ := hf
      have hx : ObjOk X.prog X.w H s.heap dd (.xd fs) := I.hok dd _ hdd
      obtain ⟨mA, hns, hr⟩ := hx
      obtain ⟨od, ho, hl⟩ := lookIn_ns hns
      have J : PySem.W.InstAt s.heap a oe D (some od) := ⟨hget, hz.1, by unfold PySem.W.notCls; rw [hv] <;> rfl, by rw [hz.2]; exact ho⟩
      have hcl : (PySem.W.clsIn X.K D).isSome = true := by
        obtain ⟨cd, hc, _⟩ := PySem.W.any_some C.hd
        rw [hc]; rfl
      exact PySem.W.kia_one (PySem.W.kitx_exc hcl C.hg C.hk C.hs C.ha C.hn C.ht C.hm) I.kIn J e (fun z => nomatch z) fun tk => ⟨.bl b, H, I.kept (t' := tk) fun _ _ z => z, rfl, q⟩
theorem piEnumK {e : Expr} {ta : TA} {p pos tpos : Pos} {elts : List Expr} {kk : Nat} (h : X.K = K) (hg : Gl X "enumerate") (hm : X.mg "enumerate" = none) (ha : PA X [e] ta) (hs : starEach [e] X.env = [(false, eval e X.env)] := by rfl) : PI X (.Tuple elts kk tpos) (.Call (.Name "enumerate" p) [e] [] pos) (iEnum K ta) := by subst h; exact pi_enum hg hm ha hs
theorem piTupK {l tg : Expr} {tl : TE} (h : X.K = K) (hl : PE X l tl) : PI X tg l (iTup K tl) := by subst h; exact pi_tup hl
end
end L2

namespace K69
open PySem PySem.Spec PyProof.Rows L2
def top (i : Nat) : Stmt := PySem.Challenge.pw_liarsapart_k69_whole_disks_cut_anywhere.main.body.getD i (.Pass ⟨0, 0, 0, 0⟩)
abbrev s_is_integer : Stmt := top 5
theorem sc_is_integer : FnScope ["value"] ["value"] (defScope s_is_integer) := ⟨rfl, rfl, rfl, by decide +kernel, rfl, by decide +kernel, by decide +kernel⟩
abbrev s_is_number : Stmt := top 6
theorem sc_is_number : FnScope ["value", "most"] ["value", "most"] (defScope s_is_number) := ⟨rfl, rfl, rfl, by decide +kernel, rfl, by decide +kernel, by decide +kernel⟩
abbrev s_is_ascending : Stmt := top 7
theorem sc_is_ascending : FnScope ["row", "at"] ["row"] (defScope s_is_ascending) := ⟨rfl, rfl, rfl, by decide +kernel, rfl, by decide +kernel, by decide +kernel⟩
/-- what a value's kind answers to is_integer -/
def intV : V → Bool
  | .int _ => true
  | _ => false
/-- to is_number -/
def numV (v m : V) : Bool := match v with
  | .int i => decide (0 ≤ i) && (match m with | .int k => decide (i ≤ k) | _ => true)
  | _ => false
/-- values of plain kinds: None, bools, ints, texts, tuples, lists -/
def Kd (K : PySem.W.Frag) (H : Hp) (v : V) : Prop := (v = .non) ∨ (∃ b, v = .bl b) ∨ (∃ i, v = .int i) ∨ (∃ x, v = .str x) ∨ (∃ a, v = .ref a ∧ (TyX K H v (.type "tuple") ∨ TyX K H v (.type "list")))
def spIsInt (K : PySem.W.Frag) : Sp := fun vs H Q _ => ∃ v, vs = [v] ∧ Kd K H v ∧ Q (.bl (intV v)) H
def spIsNum (K : PySem.W.Frag) : Sp := fun vs H Q _ => ∃ v m, vs = [v, m] ∧ Kd K H v ∧ (m = .non ∨ ∃ k, m = .int k) ∧ Q (.bl (numV v m)) H
def ascI : List Int → Bool
  | [] => true
  | [_] => true
  | a :: b :: r => decide (a < b) && ascI (b :: r)
/-- the first i comparisons of neighbours -/
def ascL (ns : List Int) (i : Nat) : List Bool := (List.range i).map fun k => decide (ns.getD k 0 < ns.getD (k + 1) 0)
theorem ascL_len (ns : List Int) (i : Nat) : (ascL ns i).length = i := by simp [ascL]
theorem ascL_all (ns : List Int) : (ascL ns (ns.length - 1)).all id = ascI ns := by
  fun_induction ascI ns with
  | case1 => rfl
  | case2 => rfl
  | case3 a b r ih =>
    rw [← ih]
    simp only [ascL, List.length_cons, Nat.add_sub_cancel]
    rw [List.range_succ_eq_map]
    simp [List.map_map, Function.comp_def]
def spAsc (K : PySem.W.Frag) : Sp := fun vs H Q _ => ∃ a ns, vs = [.ref a] ∧ SqT K H a (ns.map V.int) ∧ ns.length ≤ 100000 ∧ ∀ H', Same H H' → Q (.bl (ascI ns)) H'
/-- where things stand -/
structure Ad where
  (is_integer is_number is_ascending Disk Refused InvalidNumber LiarsError iRefused iInvalidNumber TORN : Addr)
  (init size safe waits put read flush is_lot_of_puts cut : Addr)
  (take pick same heard part box made seen_at fall wrong alike : Addr)
/-- what the top has written -/
structure Txt (P : Program) (K : PySem.W.Frag) (mg : Str → Option Value) (a : Ad) : Prop where
  z_isinstance : mg "isinstance" = none
  z_int : mg "int" = none
  z_bool : mg "bool" = none
  z_str : mg "str" = none
  z_tuple : mg "tuple" = none
  z_list : mg "list" = none
  z_all : mg "all" = none
  z_any : mg "any" = none
  z_abs : mg "abs" = none
  z_min : mg "min" = none
  z_sorted : mg "sorted" = none
  z_enumerate : mg "enumerate" = none
  z_range : mg "range" = none
  z_len : mg "len" = none
  z_ValueError : mg "ValueError" = none
  g_is_integer : mg "is_integer" = some (.ref a.is_integer)
  k_is_integer : PySem.W.keepIn K (.ref a.is_integer) = true
  g_is_number : mg "is_number" = some (.ref a.is_number)
  k_is_number : PySem.W.keepIn K (.ref a.is_number) = true
  g_is_ascending : mg "is_ascending" = some (.ref a.is_ascending)
  k_is_ascending : PySem.W.keepIn K (.ref a.is_ascending) = true
  c_MOST_SLOTS_OF_DISK : ∃ t, mg "MOST_SLOTS_OF_DISK" = some (.int 400 t)
  c_FEWEST_SLOTS : ∃ t, mg "FEWEST_SLOTS" = some (.int 4 t)
  c_TORN : mg "TORN" = some (.ref a.TORN)
  torn : ∀ H, SqT K H a.TORN [.str "torn"]
  C_Refused : PySem.SupX.SupTxt P K mg "Refused" a.Refused a.iRefused
  C_InvalidNumber : PySem.SupX.SupTxt P K mg "InvalidNumber" a.InvalidNumber a.iInvalidNumber
  cl_Disk : Cls K a.Disk
  g__law_take : mg "_law_take" = some (.ref a.take)
  k__law_take : PySem.W.keepIn K (.ref a.take) = true
  g__law_pick : mg "_law_pick" = some (.ref a.pick)
  k__law_pick : PySem.W.keepIn K (.ref a.pick) = true
  g__law_same : mg "_law_same" = some (.ref a.same)
  k__law_same : PySem.W.keepIn K (.ref a.same) = true
  g__law_heard : mg "_law_heard" = some (.ref a.heard)
  k__law_heard : PySem.W.keepIn K (.ref a.heard) = true
  g__law_part : mg "_law_part" = some (.ref a.part)
  k__law_part : PySem.W.keepIn K (.ref a.part) = true
  g__law_box : mg "_law_box" = some (.ref a.box)
  k__law_box : PySem.W.keepIn K (.ref a.box) = true
  g__law_made : mg "_law_made" = some (.ref a.made)
  k__law_made : PySem.W.keepIn K (.ref a.made) = true
  g__law_seen_at : mg "_law_seen_at" = some (.ref a.seen_at)
  k__law_seen_at : PySem.W.keepIn K (.ref a.seen_at) = true
  g__law_fall : mg "_law_fall" = some (.ref a.fall)
  k__law_fall : PySem.W.keepIn K (.ref a.fall) = true
  g__law_wrong : mg "_law_wrong" = some (.ref a.wrong)
  k__law_wrong : PySem.W.keepIn K (.ref a.wrong) = true
  g__law_alike : mg "_law_alike" = some (.ref a.alike)
  k__law_alike : PySem.W.keepIn K (.ref a.alike) = true
  C_Disk : mg "Disk" = some (.ref a.Disk)
  C_LiarsError : mg "LiarsError" = some (.ref a.LiarsError)
  EC : ExcC K a.InvalidNumber
  kL : PySem.W.kitOne K (.ref a.InvalidNumber) (.ref a.LiarsError) = some true
  kV : PySem.W.kitOne K (.ref a.InvalidNumber) (.type "ValueError") = some true
  M_Disk : Mk K a.Disk a.init
  m_Disk_size : Meth K a.Disk "size" a.size
  m_Disk_safe : Meth K a.Disk "safe" a.safe
  m_Disk_waits : Meth K a.Disk "waits" a.waits
  m_Disk_put : Meth K a.Disk "put" a.put
  m_Disk_read : Meth K a.Disk "read" a.read
  m_Disk_flush : Meth K a.Disk "flush" a.flush
  m_Disk_is_lot_of_puts : Meth K a.Disk "is_lot_of_puts" a.is_lot_of_puts
  m_Disk_cut : Meth K a.Disk "cut" a.cut
  nC : NoAttr K a.Disk "cells"
  nQ : NoAttr K a.Disk "queue"
/-- isinstance(v, int), isinstance(v, bool) -/
def instI : V → Bool
  | .int _ => true
  | .bl _ => true
  | _ => false
def instB : V → Bool
  | .bl _ => true
  | _ => false
theorem intV_eq (v : V) : intV v = (instI v && !instB v) := by cases v <;> rfl
theorem kd_int {K : PySem.W.Frag} {H : Hp} {v : V} (k : Kd K H v) : ∃ t, TyX K H v t ∧ PySem.W.kitOne K t (.type "int") = some (instI v) ∧ PySem.W.kitOne K t (.type "bool") = some (instB v) := by
  rcases k with rfl | ⟨b, rfl⟩ | ⟨i, rfl⟩ | ⟨x, rfl⟩ | ⟨a, rfl, h | h⟩
  · exact ⟨_, .base .non, kit_ty (show kitB "NoneType" "int" = some false by decide +kernel), kit_ty (show kitB "NoneType" "bool" = some false by decide +kernel)⟩
  · exact ⟨_, .base (.bl b), kit_ty (show kitB "bool" "int" = some true by decide +kernel), kit_ty (show kitB "bool" "bool" = some true by decide +kernel)⟩
  · exact ⟨_, .base (.int i), kit_ty (show kitB "int" "int" = some true by decide +kernel), kit_ty (show kitB "int" "bool" = some false by decide +kernel)⟩
  · exact ⟨_, .base (.str x), kit_ty (show kitB "str" "int" = some false by decide +kernel), kit_ty (show kitB "str" "bool" = some false by decide +kernel)⟩
  · exact ⟨_, h, kit_ty (show kitB "tuple" "int" = some false by decide +kernel), kit_ty (show kitB "tuple" "bool" = some false by decide +kernel)⟩
  · exact ⟨_, h, kit_ty (show kitB "list" "int" = some false by decide +kernel), kit_ty (show kitB "list" "bool" = some false by decide +kernel)⟩
section
variable {P : Program} {w : World} {K : PySem.W.Frag} {mg : Str → Option Value} {base : Heap} {a : Ad}
theorem ok_is_integer {f : Addr} {fd : FuncData} (F : Fun K "is_integer" "is_integer" s_is_integer f fd) (T : Txt P K mg a) : FnOk P w K mg base CX0 1 f fd ["value"] (spIsInt K) := by
  refine F.ok sc_is_integer (fun vs H Q E h => ?_) (fun cdv A outer s H vs Q E hr h => ?_)
  · obtain ⟨v, rfl, _⟩ := h
    rfl
  · obtain ⟨v, rfl, kd, q⟩ := h
    refine ⟨_, (pss_one (ps_ret (pe_and (pe_callB (isiK (K := K) rfl) (by rfl) T.z_isinstance (by decide +kernel) (pa_cons (pv 0) (pa_cons (pe_bltn (v := .ty "int") (u := .type "int") (by rfl) T.z_int (by decide +kernel) rfl) pa_nil))) (pe_one (pe_not (pe_callB (isiK (K := K) rfl) (by rfl) T.z_isinstance (by decide +kernel) (pa_cons (pv 0) (pa_cons (pe_bltn (v := .ty "bool") (u := .type "bool") (by rfl) T.z_bool (by decide +kernel) rfl) pa_nil)))))))), ?_⟩
    obtain ⟨t, ht, k1, k2⟩ := kd_int kd
    refine ⟨_, rfl, _, _, _, _, _, rfl, .ty _, ht, k1, _, rfl, ?_⟩
    rw [intV_eq] at q
    cases hI : instI v with
    | false => rw [hI] at q; exact iteF q
    | true => rw [hI] at q; exact iteT ⟨_, rfl, _, _, _, _, _, rfl, .ty _, ht, k2, _, rfl, q⟩
theorem ok_is_number {f : Addr} {fd fd1 : FuncData} (F : FunD K "is_number" "is_number" (defArgs s_is_number) (defBody s_is_number) (defScope s_is_number) [.non] [] f fd) (T : Txt P K mg a)
    (F1 : Fun K "is_integer" "is_integer" s_is_integer a.is_integer fd1) (b_is_integer : Binds K fd1 ["value"] []) : FnOk P w K mg base CX0 2 f fd ["value", "most"] (spIsNum K) := by
  have G_is_integer : FnOk P w K mg base CX0 1 a.is_integer fd1 ["value"] (spIsInt K) := ok_is_integer F1 T
  refine F.ok0 sc_is_number (fun vs H Q E h => ?_) (fun cdv A outer s H vs Q E hr h => ?_)
  · obtain ⟨v, m, rfl, _⟩ := h
    rfl
  · obtain ⟨v, m, rfl, kd, hm, q⟩ := h
    refine ⟨_, (pss_one (ps_ret (pe_and (pe_call G_is_integer (hr.mono (by decide)) rfl T.g_is_integer T.k_is_integer b_is_integer .nil pass0 (pa_cons (pv 0) pa_nil)) (pe_and (pe_cmpR op_ge (pv 0) pe_int (nomark _)) (pe_one (pe_or (pe_cmpR op_isN (pv 1) pe_non (nomark _)) (pe_one (pe_cmpR op_le (pv 0) (pv 1) (nomark _))))))))), ?_⟩
    refine ⟨_, rfl, _, rfl, kd, _, rfl, ?_⟩
    cases v with
    | int i =>
      refine iteT ⟨_, rfl, _, _, rfl, rfl, _, rfl, ?_⟩
      by_cases c : 0 ≤ i
      · rw [decide_eq_true c]
        refine iteT ⟨_, rfl, rfl, _, rfl, ?_⟩
        rcases hm with rfl | ⟨k, rfl⟩
        · exact iteT (by simpa [numV, c] using q)
        · exact iteF ⟨_, rfl, _, rfl, _, _, rfl, rfl, by simpa [numV, c] using q⟩
      · rw [decide_eq_false c]
        exact iteF (by simpa [numV, c] using q)
    | _ => exact iteF q
theorem ok_is_ascending {f : Addr} {fd : FuncData} (F : Fun K "is_ascending" "is_ascending" s_is_ascending f fd) (T : Txt P K mg a) : FnOk P w K mg base CX0 1 f fd ["row"] (spAsc K) := by
  refine F.ok sc_is_ascending (fun vs H Q E h => ?_) (fun cdv A outer s H vs Q E hr h => ?_)
  · obtain ⟨a, ns, rfl, _⟩ := h
    rfl
  · obtain ⟨l, ns, rfl, hS, hl, q⟩ := h
    refine ⟨_, (pss_one (ps_ret (pe_callB (allK (K := K) rfl rfl) (by rfl) T.z_all (by decide +kernel) (pa_cons (pe_lc (own := [("at", 1)]) (g := gName 1) (tt := tYes) (by rfl) sc_is_ascending.nd (pi_range2 rfl T.z_range (pa_cons pe_int (pa_cons (pe_callB (lenK (K := K) rfl) (by rfl) T.z_len (by decide +kernel) (pa_cons (pv 0) pa_nil)) pa_nil))) (blkOk_by (own := [("at", 1)]) (N := ["row", "at"]) (sc := defScope s_is_ascending) (by decide +kernel)) (fun _ _ _ _ _ => (pg_name (i := 1) sc_is_ascending.nd rfl (Or.inl rfl))) (fun _ _ _ _ _ => pts_nil) (fun _ _ _ _ _ => (pe_cmpR op_lt (pe_ix (ix_tupK (K := K) rfl) (pv 0) (pe_op op_sub (pv 1) pe_int) (fun _ _ => rfl)) (pe_ix (ix_tupK (K := K) rfl) (pv 0) (pv 1) (fun _ _ => rfl)) (nomark _)))) pa_nil)))), ?_⟩
    have hz : ns.length ≤ sizeLine := Nat.le_trans hl (by decide)
    refine ⟨_, rfl, _, _, rfl, .inr hS, 1, _, rfl, ⟨by decide, by decide, by rw [List.length_map]; omega, by rw [List.length_map]; omega⟩, fun D hD => lc_range (lo := 1) (n := (((ns.map V.int).length : Int) - 1).toNat)
      (fun i H' => H' = upd H D (.lst ((ascL ns i).map V.bl))) rfl ?_ ?_⟩
    · rintro i H' hi rfl
      rw [List.length_map] at hi
      have nD : ∀ xs, SqT K H l xs → SqT K (upd H D (.lst ((ascL ns i).map V.bl))) l xs := fun xs h => (Same.new hD).sqT h
      have e1 : (ns.map V.int)[i + 1]? = some (V.int (ns.getD (i + 1) 0)) := by
        rw [List.getElem?_map, List.getD_eq_getElem?_getD, List.getElem?_eq_getElem (by omega)]; rfl
      have e0 : (ns.map V.int)[i]? = some (V.int (ns.getD i 0)) := by
        rw [List.getElem?_map, List.getD_eq_getElem?_getD, List.getElem?_eq_getElem (by omega)]; rfl
      refine ⟨rfl, ?_⟩
      refine ⟨_, rfl, _, rfl, _, _, rfl, rfl, _, _, _, _, rfl, rfl, nD _ hS, (by rw [show (1 + (i : Int) - 1) = (i : Int) by omega]; exact atI_nat e0), _, rfl, _, rfl, _, _, _, _, rfl, rfl, nD _ hS, (by rw [show (1 + (i : Int)) = ((i + 1 : Nat) : Int) by omega]; exact atI_nat e1), _, _, rfl, rfl, _, upd_same, ?_, ?_⟩
      · rw [List.length_map, ascL_len]; exact Nat.lt_of_lt_of_le (by omega : i < ns.length) hz
      · rw [upd_upd]
        simp [ascL, List.range_succ]
    · rintro H' rfl
      refine ⟨D, _, rfl, SqL.of upd_same, ?_⟩
      rw [List.length_map, show ((ns.length : Int) - 1).toNat = ns.length - 1 by omega, ascL_all]
      exact q _ (Same.new hD)
end
end K69

namespace K69
open PySem PySem.Spec PyProof.Rows L2
theorem cq_ : ¬ (("cells" : Str) = "queue") := by decide +kernel
theorem qc_ : ¬ (("queue" : Str) = "cells") := by decide +kernel
def pf (c q : Addr) : List (Str × V) := putF "queue" (.ref q) (putF "cells" (.ref c) [])
theorem pf_eq (c q : Addr) : pf c q = ([("cells", V.ref c), ("queue", V.ref q)] : List (Str × V)) := by
  show (if ("cells" : Str) = "queue" then [(("queue" : Str), V.ref q)] else (("cells" : Str), V.ref c) :: putF "queue" (V.ref q) []) = ([("cells", V.ref c), ("queue", V.ref q)] : List (Str × V))
  rw [if_neg cq_]
  all_goals rfl
theorem pf_cells (c q : Addr) : (pf c q).lookup ("cells" : Str) = some (.ref c) := by
  unfold pf
  rw [lookup_putF, if_neg cq_, lookup_putF, if_pos rfl]
theorem pf_queue (c q : Addr) : (pf c q).lookup ("queue" : Str) = some (.ref q) := by
  unfold pf
  rw [lookup_putF, if_pos rfl]
theorem pf_no (c q : Addr) {m : Str} (h1 : ¬ m = "queue") (h2 : ¬ m = "cells") : (pf c q).lookup m = none := by
  unfold pf
  rw [lookup_putF, if_neg h1, lookup_putF, if_neg h2]
  all_goals rfl
theorem pf_put (c q r : Addr) : putF "queue" (.ref r) (pf c q) = pf c r := by
  rw [pf_eq, pf_eq]
  show (if ("cells" : Str) = "queue" then _ else (("cells" : Str), V.ref c) :: (if ("queue" : Str) = "queue" then [(("queue" : Str), V.ref r)] else _)) = ([("cells", V.ref c), ("queue", V.ref r)] : List (Str × V))
  rw [if_neg cq_, if_pos rfl]
theorem pf_len (c q : Addr) : (pf c q).length < 1000 := by rw [pf_eq]; show 2 < 1000; decide
/-- a list of pairs, at its objects -/
def QRep (K : PySem.W.Frag) (H : Hp) (qv : List V) (qs : List (Nat × V)) : Prop :=
  qv.length = qs.length ∧ ∀ (i : Nat) (p : Nat × V), qs[i]? = some p → ∃ t : Addr, qv[i]? = some (.ref t) ∧ SqT K H t [.int p.1, p.2]
theorem QRep.keep {K : PySem.W.Frag} {H H1 : Hp} {qv : List V} {qs : List (Nat × V)} (k : ∀ a xs, SqT K H a xs → SqT K H1 a xs) (h : QRep K H qv qs) : QRep K H1 qv qs :=
  ⟨h.1, fun i p e => let ⟨t, e1, e2⟩ := h.2 i p e; ⟨t, e1, k _ _ e2⟩⟩
theorem QRep.nil {K : PySem.W.Frag} {H : Hp} : QRep K H [] [] := ⟨rfl, fun i p e => by simp at e⟩
theorem QRep.app {K : PySem.W.Frag} {H : Hp} {qv : List V} {qs : List (Nat × V)} {t : Addr} {n : Nat} {r : V} (h : QRep K H qv qs) (ht : SqT K H t [.int n, r]) : QRep K H (qv ++ [.ref t]) (qs ++ [(n, r)]) := by
  refine ⟨by simp [h.1], fun i p e => ?_⟩
  by_cases c : i < qs.length
  · rw [List.getElem?_append_left c] at e
    obtain ⟨u, e1, e2⟩ := h.2 i p e
    exact ⟨u, by rw [List.getElem?_append_left (by rw [h.1]; exact c)]; exact e1, e2⟩
  · rw [List.getElem?_append_right (by omega)] at e
    have z : i - qs.length = 0 := by
      cases q : i - qs.length with
      | zero => rfl
      | succ m => rw [q] at e; simp at e
    rw [z] at e
    simp at e
    subst e
    exact ⟨t, by rw [List.getElem?_append_right (by rw [h.1]; omega), h.1, z]; rfl, ht⟩
/-- a disk at d: its cells' list at cl, its queue's at ql -/
structure DiskAt (K : PySem.W.Frag) (C : Addr) (H : Hp) (d cl ql : Addr) (cs : List V) (qs : List (Nat × V)) : Prop where
  obj : ∃ dx, H d = some (.ins C dx (pf cl ql))
  cel : H cl = some (.lst cs)
  que : ∃ qv, H ql = some (.lst qv) ∧ QRep K H qv qs
  ne : cl ≠ ql
  low : 4 ≤ cs.length
  big : cs.length ≤ 400
  few : qs.length ≤ 10000
  bnd : ∀ p ∈ qs, p.1 < cs.length
theorem DiskAt.ndc {K : PySem.W.Frag} {C : Addr} {H : Hp} {d cl ql : Addr} {cs : List V} {qs : List (Nat × V)} (D : DiskAt K C H d cl ql cs qs) : d ≠ cl := by
  obtain ⟨dx, h⟩ := D.obj
  exact ne_of h D.cel (fun z => nomatch z)
theorem DiskAt.ndq {K : PySem.W.Frag} {C : Addr} {H : Hp} {d cl ql : Addr} {cs : List V} {qs : List (Nat × V)} (D : DiskAt K C H d cl ql cs qs) : d ≠ ql := by
  obtain ⟨dx, h⟩ := D.obj
  obtain ⟨qv, h2, _⟩ := D.que
  exact ne_of h h2 (fun z => nomatch z)
theorem DiskAt.keep {K : PySem.W.Frag} {C : Addr} {H H1 : Hp} {d cl ql : Addr} {cs : List V} {qs : List (Nat × V)} {S : List Addr} (D : DiskAt K C H d cl ql cs qs) (e : ExB S H H1) (n : NoT S H) (h1 : d ∉ S) (h2 : cl ∉ S) (h3 : ql ∉ S) : DiskAt K C H1 d cl ql cs qs := by
  obtain ⟨⟨dx, a⟩, b, ⟨qv, c, r⟩, ne, lo, bi, fe, bn⟩ := D
  exact ⟨⟨dx, e _ _ a h1⟩, e _ _ b h2, ⟨qv, e _ _ c h3, r.keep fun _ _ h => e.sqT n h⟩, ne, lo, bi, fe, bn⟩
theorem noT_lst {H : Hp} {a : Addr} {xs : List V} {S : List Addr} (h : H a = some (.lst xs)) (n : NoT S H) : NoT (a :: S) H := fun b hb => by
  rcases List.mem_cons.mp hb with rfl | hb
  · exact ⟨_, h, (fun _ z => nomatch z), (fun _ _ z => nomatch z)⟩
  · exact n b hb
theorem noT_ins {H : Hp} {a C dx : Addr} {fs : List (Str × V)} {S : List Addr} (h : H a = some (.ins C dx fs)) (n : NoT S H) : NoT (a :: S) H := fun b hb => by
  rcases List.mem_cons.mp hb with rfl | hb
  · exact ⟨_, h, (fun _ z => nomatch z), (fun _ _ z => nomatch z)⟩
  · exact n b hb
theorem noT_nil {H : Hp} : NoT [] H := fun _ h => nomatch h
theorem DiskAt.same {K : PySem.W.Frag} {C : Addr} {H H1 : Hp} {d cl ql : Addr} {cs : List V} {qs : List (Nat × V)} (D : DiskAt K C H d cl ql cs qs) (e : Same H H1) : DiskAt K C H1 d cl ql cs qs :=
  D.keep (S := []) (ExB.of e) noT_nil (by simp) (by simp) (by simp)
/-- an error of the class at CR, with the word x, is let out; what was tracked stands -/
def ErrTo (E : XK) (CR : Addr) (H : Hp) (x : Str) : Prop := ∀ (H' : Hp) (dd : Addr), Same H H' → H' dd = some (.xd [(("at" : Str), .str x)]) → E (.ref CR) (some dd) H'
theorem ErrTo.at {E : XK} {CR : Addr} {H H1 : Hp} {x : Str} (h : ErrTo E CR H x) (s : Same H H1) : ∀ d, H1 d = none → E (.ref CR) (some d) (upd H1 d (.xd [(("at" : Str), .str x)])) := fun d hd =>
  h _ d (s.trans (Same.new hd)) upd_same
theorem Kd.of_tup {K : PySem.W.Frag} {H : Hp} {a : Addr} {xs : List V} (h : SqT K H a xs) : Kd K H (.ref a) := .inr (.inr (.inr (.inr ⟨a, rfl, .inl h.ty⟩)))
theorem Kd.int {K : PySem.W.Frag} {H : Hp} (i : Int) : Kd K H (.int i) := .inr (.inr (.inl ⟨i, rfl⟩))
abbrev s_Disk___init__ : Stmt := inClass (top 12) 0
theorem sc_Disk___init__ : FnScope ["self", "many", "at"] ["self", "many"] (defScope s_Disk___init__) := ⟨rfl, rfl, rfl, by decide +kernel, rfl, by decide +kernel, by decide +kernel⟩
abbrev s_Disk_size : Stmt := inClass (top 12) 1
theorem sc_Disk_size : FnScope ["self"] ["self"] (defScope s_Disk_size) := ⟨rfl, rfl, rfl, by decide +kernel, rfl, by decide +kernel, by decide +kernel⟩
abbrev s_Disk_safe : Stmt := inClass (top 12) 2
theorem sc_Disk_safe : FnScope ["self"] ["self"] (defScope s_Disk_safe) := ⟨rfl, rfl, rfl, by decide +kernel, rfl, by decide +kernel, by decide +kernel⟩
abbrev s_Disk_waits : Stmt := inClass (top 12) 3
theorem sc_Disk_waits : FnScope ["self"] ["self"] (defScope s_Disk_waits) := ⟨rfl, rfl, rfl, by decide +kernel, rfl, by decide +kernel, by decide +kernel⟩
abbrev s_Disk_put : Stmt := inClass (top 12) 4
theorem sc_Disk_put : FnScope ["self", "at", "row"] ["self", "at", "row"] (defScope s_Disk_put) := ⟨rfl, rfl, rfl, by decide +kernel, rfl, by decide +kernel, by decide +kernel⟩
abbrev s_Disk_read : Stmt := inClass (top 12) 5
theorem sc_Disk_read : FnScope ["self", "at", "found", "place", "row"] ["self", "at"] (defScope s_Disk_read) := ⟨rfl, rfl, rfl, by decide +kernel, rfl, by decide +kernel, by decide +kernel⟩
abbrev s_Disk_flush : Stmt := inClass (top 12) 6
theorem sc_Disk_flush : FnScope ["self", "at", "row"] ["self"] (defScope s_Disk_flush) := ⟨rfl, rfl, rfl, by decide +kernel, rfl, by decide +kernel, by decide +kernel⟩
abbrev s_Disk_is_lot_of_puts : Stmt := inClass (top 12) 7
theorem sc_Disk_is_lot_of_puts : FnScope ["self", "value", "one"] ["self", "value"] (defScope s_Disk_is_lot_of_puts) := ⟨rfl, rfl, rfl, by decide +kernel, rfl, by decide +kernel, by decide +kernel⟩
abbrev s_Disk_cut : Stmt := inClass (top 12) 8
theorem sc_Disk_cut : FnScope ["self", "kept", "torn", "place", "at", "row", "one"] ["self", "kept", "torn"] (defScope s_Disk_cut) := ⟨rfl, rfl, rfl, by decide +kernel, rfl, by decide +kernel, by decide +kernel⟩
/-! ### the promises -/
def spInit (K : PySem.W.Frag) (C CN : Addr) : Sp := fun vs H Q E => ∃ (p dx : Addr) (m : V), vs = [.ref p, m] ∧ H p = some (.ins C dx []) ∧ Kd K H m ∧
  ((∃ n : Nat, m = .int n ∧ 4 ≤ n ∧ n ≤ 400 ∧ ∀ (H' : Hp) (cl ql : Addr), ExB [p] H H' → H cl = none → H ql = none → DiskAt K C H' p cl ql (List.replicate n .non) [] → Q .non H') ∨
   ((numV m (.int 400) = false ∨ ∃ i : Int, m = .int i ∧ i < 4) ∧ ErrTo E CN H "slots"))
def spSize (K : PySem.W.Frag) (C : Addr) : Sp := fun vs H Q _ => ∃ (d cl ql : Addr) (cs : List V) (qs : List (Nat × V)), vs = [.ref d] ∧ DiskAt K C H d cl ql cs qs ∧ Q (.int cs.length) H
def spWaits (K : PySem.W.Frag) (C : Addr) : Sp := fun vs H Q _ => ∃ (d cl ql : Addr) (cs : List V) (qs : List (Nat × V)), vs = [.ref d] ∧ DiskAt K C H d cl ql cs qs ∧ Q (.int qs.length) H
def spSafe (K : PySem.W.Frag) (C : Addr) : Sp := fun vs H Q _ => ∃ (d cl ql : Addr) (cs : List V) (qs : List (Nat × V)), vs = [.ref d] ∧ DiskAt K C H d cl ql cs qs ∧ ∀ (t : Addr) (H' : Hp), Same H H' → H' t = some (.tup cs) → Q (.ref t) H'
def spPut (K : PySem.W.Frag) (C CR : Addr) : Sp := fun vs H Q E => ∃ (d cl ql : Addr) (cs : List V) (qs : List (Nat × V)) (a r : V), vs = [.ref d, a, r] ∧ DiskAt K C H d cl ql cs qs ∧ Kd K H a ∧ Kd K H r ∧
  ((∃ (i : Nat) (t : Addr) (xs : List V), a = .int i ∧ i < cs.length ∧ r = .ref t ∧ SqT K H t xs ∧ qs.length < 10000 ∧ ∀ H' : Hp, ExB [ql] H H' → DiskAt K C H' d cl ql cs (qs ++ [(i, r)]) → Q .non H') ∨
   (numV a (.int ((cs.length : Int) - 1)) = false ∧ ErrTo E CR H "slot") ∨
   ((∃ i : Nat, a = .int i ∧ i < cs.length) ∧ (∃ t, TyX K H r t ∧ PySem.W.kitOne K t (.type "tuple") = some false) ∧ ErrTo E CR H "row"))
/-- what was put last -/
def readV (cs : List V) (qs : List (Nat × V)) (i : Nat) : V := qs.foldl (fun f p => if p.1 = i then p.2 else f) (cs.getD i .non)
def spRead (K : PySem.W.Frag) (C CR : Addr) : Sp := fun vs H Q E => ∃ (d cl ql : Addr) (cs : List V) (qs : List (Nat × V)) (a : V), vs = [.ref d, a] ∧ DiskAt K C H d cl ql cs qs ∧ Kd K H a ∧
  ((∃ i : Nat, a = .int i ∧ i < cs.length ∧ ∀ H', Same H H' → Q (readV cs qs i) H') ∨ (numV a (.int ((cs.length : Int) - 1)) = false ∧ ErrTo E CR H "slot"))
section
variable {P : Program} {w : World} {K : PySem.W.Frag} {mg : Str → Option Value} {base : Heap} {a : Ad}
theorem ok_size {f : Addr} {fd : FuncData} (F : Fun K "size" "Disk.size" s_Disk_size f fd) (T : Txt P K mg a) : FnOk P w K mg base CX0 1 f fd ["self"] (spSize K a.Disk) := by
  refine F.ok sc_Disk_size (fun vs H Q E h => ?_) (fun cdv A outer s H vs Q E hr h => ?_)
  · obtain ⟨d, cl, ql, cs, qs, rfl, _⟩ := h
    rfl
  · obtain ⟨d, cl, ql, cs, qs, rfl, D, q⟩ := h
    refine ⟨_, (pss_one (ps_ret (pe_callB (lenK (K := K) rfl) (by rfl) T.z_len (by decide +kernel) (pa_cons (fldK (K := K) rfl (pv 0) rfl) pa_nil)))), ?_⟩
    obtain ⟨dx, hd⟩ := D.obj
    exact ⟨_, rfl, _, _, dx, _, _, rfl, hd, T.cl_Disk, T.nC, pf_cells _ _, cl, cs, rfl, .inl (SqL.of D.cel), q⟩
theorem ok_waits {f : Addr} {fd : FuncData} (F : Fun K "waits" "Disk.waits" s_Disk_waits f fd) (T : Txt P K mg a) : FnOk P w K mg base CX0 1 f fd ["self"] (spWaits K a.Disk) := by
  refine F.ok sc_Disk_waits (fun vs H Q E h => ?_) (fun cdv A outer s H vs Q E hr h => ?_)
  · obtain ⟨d, cl, ql, cs, qs, rfl, _⟩ := h
    rfl
  · obtain ⟨d, cl, ql, cs, qs, rfl, D, q⟩ := h
    refine ⟨_, (pss_one (ps_ret (pe_callB (lenK (K := K) rfl) (by rfl) T.z_len (by decide +kernel) (pa_cons (fldK (K := K) rfl (pv 0) rfl) pa_nil)))), ?_⟩
    obtain ⟨dx, hd⟩ := D.obj
    obtain ⟨qv, hq, r⟩ := D.que
    exact ⟨_, rfl, _, _, dx, _, _, rfl, hd, T.cl_Disk, T.nQ, pf_queue _ _, ql, qv, rfl, .inl (SqL.of hq), by rw [r.1]; exact q⟩
theorem ok_safe {f : Addr} {fd : FuncData} (F : Fun K "safe" "Disk.safe" s_Disk_safe f fd) (T : Txt P K mg a) : FnOk P w K mg base CX0 1 f fd ["self"] (spSafe K a.Disk) := by
  refine F.ok sc_Disk_safe (fun vs H Q E h => ?_) (fun cdv A outer s H vs Q E hr h => ?_)
  · obtain ⟨d, cl, ql, cs, qs, rfl, _⟩ := h
    rfl
  · obtain ⟨d, cl, ql, cs, qs, rfl, D, q⟩ := h
    refine ⟨_, (pss_one (ps_ret (pe_callTy (tupOfK (K := K) rfl) (by rfl) T.z_tuple (by decide +kernel) (pa_cons (fldK (K := K) rfl (pv 0) rfl) pa_nil)))), ?_⟩
    obtain ⟨dx, hd⟩ := D.obj
    exact ⟨_, rfl, _, _, dx, _, _, rfl, hd, T.cl_Disk, T.nC, pf_cells _ _, cl, cs, rfl, .inl ⟨SqL.of D.cel, fun l hl => q _ _ (Same.new hl) upd_same⟩⟩
theorem ok_put {f : Addr} {fd fdn : FuncData} (F : Fun K "put" "Disk.put" s_Disk_put f fd) (T : Txt P K mg a) (G_is_number : FnOk P w K mg base CX0 2 a.is_number fdn ["value", "most"] (spIsNum K)) (b_is_number : Binds K fdn ["value", "most"] []) :
    FnOk P w K mg base (L2.CX P w) 4 f fd ["self", "at", "row"] (spPut K a.Disk a.Refused) := by
  refine F.okX sc_Disk_put (fun vs H Q E h => ?_) (fun cdv A outer s H vs Q E hr h => ?_)
  · obtain ⟨d, cl, ql, cs, qs, x, r, rfl, _⟩ := h
    rfl
  · obtain ⟨d, cl, ql, cs, qs, x, r, rfl, D, kx, kr, h⟩ := h
    refine ⟨_, (pss_cons (ps_if (pt_not (pt_val (pe_call G_is_number (hr.mono (by decide)) rfl T.g_is_number T.k_is_number b_is_number .nil pass0 (pa_cons (pv 1) (pa_cons (pe_op op_sub (pe_callB (lenK (K := K) rfl) (by rfl) T.z_len (by decide +kernel) (pa_cons (fldK (K := K) rfl (pv 0) rfl) pa_nil)) pe_int) pa_nil))))) (pss_one (ps_raiseSup rfl T.C_Refused hr (takes_of rfl rfl rfl rfl) (pa_cons pe_str pa_nil))) pss_nil)
    (pss_cons (ps_if (pt_not (pt_val (pe_callB (isiK (K := K) rfl) (by rfl) T.z_isinstance (by decide +kernel) (pa_cons (pv 2) (pa_cons (pe_bltn (v := .ty "tuple") (u := .type "tuple") (by rfl) T.z_tuple (by decide +kernel) rfl) pa_nil))))) (pss_one (ps_raiseSup rfl T.C_Refused hr (takes_of rfl rfl rfl rfl) (pa_cons pe_str pa_nil))) pss_nil)
    (PSs.nox (pss_one (ps_expr (pe_bmK (K := K) rfl PySem.F.plainAttrs_list PySem.F.slot_list_append PySem.F.type_list_append mt_append (fldK (K := K) rfl (pv 0) rfl) (pa_cons (pe_tup (pa_cons (pv 1) (pa_cons (pv 2) pa_nil))) pa_nil))))))), ?_⟩
    obtain ⟨dx, hd⟩ := D.obj
    refine ⟨_, rfl, _, rfl, _, _, dx, _, _, rfl, hd, T.cl_Disk, T.nC, pf_cells _ _, cl, cs, rfl, .inl (SqL.of D.cel), _, _, rfl, rfl, _, _, rfl, kx, .inr ⟨_, rfl⟩, _, rfl, ?_⟩
    have num : ∀ i : Nat, x = .int i → i < cs.length → numV x (.int ((cs.length : Int) - 1)) = true := fun i e hi => by
      subst e
      simp [numV]; omega
    rcases h with ⟨i, t, xs, rfl, hi, rfl, ht, hq, k⟩ | ⟨hn, k⟩ | ⟨⟨i, rfl, hi⟩, ⟨t, ty, kt⟩, k⟩
    · rw [num i rfl hi]
      refine ⟨_, rfl, _, _, _, _, _, rfl, .ty _, ht.ty, kit_ty (show kitB "tuple" "tuple" = some true by decide +kernel), _, rfl, ?_⟩
      obtain ⟨qv, hqv, rq⟩ := D.que
      refine ⟨_, rfl, _, _, dx, _, _, rfl, hd, T.cl_Disk, T.nQ, pf_queue _ _, .inl ⟨rfl, _, SqL.of hqv⟩, _, rfl, _, rfl, (by show 2 ≤ sizeLine; decide), fun p hp => ?_⟩
      have nqp : ql ≠ p := ne_of_none hqv hp
      refine ⟨_, _, _, rfl, rfl, (by rw [upd_ne nqp]; exact hqv), (by rw [rq.1]; exact Nat.lt_of_lt_of_le hq (by decide)), ?_⟩
      have nt : NoT [ql] (upd H p (.tup [.int i, .ref t])) := noT_lst (by rw [upd_ne nqp]; exact hqv) (fun _ h => nomatch h)
      have e1 : Same H (upd H p (.tup [.int i, .ref t])) := Same.new hp
      have e2 : ExB [ql] (upd H p (.tup [.int i, .ref t])) (upd (upd H p (.tup [.int i, .ref t])) ql (.lst (qv ++ [.ref p]))) := ExB.put (by simp)
      have kt : ∀ b ys, SqT K (upd H p (.tup [.int i, .ref t])) b ys → SqT K (upd (upd H p (.tup [.int i, .ref t])) ql (.lst (qv ++ [.ref p]))) b ys := fun b ys h => e2.sqT nt h
      refine k _ ((ExB.of e1).trans e2) ⟨⟨dx, ?_⟩, ?_, ⟨_, upd_same, ?_⟩, D.ne, D.low, D.big, ?_, ?_⟩
      · rw [upd_ne D.ndq]; exact e1 _ _ hd
      · rw [upd_ne D.ne]; exact e1 _ _ D.cel
      · exact ((rq.keep fun b ys h => e1.sqT h).app (SqT.of upd_same)).keep kt
      · rw [List.length_append]; show qs.length + 1 ≤ 10000; omega
      · intro p hp
        rcases List.mem_append.mp hp with hp | hp
        · exact D.bnd p hp
        · rw [List.mem_singleton.mp hp]; exact hi
    · rw [hn]
      exact ⟨_, rfl, fun dd hdd => k.at (fun _ _ e => e) dd hdd⟩
    · rw [num i rfl hi]
      refine ⟨_, rfl, _, _, _, _, _, rfl, .ty _, ty, kt, _, rfl, ?_⟩
      exact ⟨_, rfl, fun dd hdd => k.at (fun _ _ e => e) dd hdd⟩
end
end K69

namespace K69
open PySem PySem.Spec PyProof.Rows L2
/-! ### what puts make of cells: kp: the place is kept, tp: it is torn -/
def stepF (kp tp : Nat → Bool) (tv : V) (i : Nat) (cs : List V) (p : Nat × V) : List V := if kp i then cs.set p.1 p.2 else if tp i then cs.set p.1 tv else cs
def fallN (kp tp : Nat → Bool) (tv : V) (cs : List V) (qs : List (Nat × V)) : Nat → List V
  | 0 => cs
  | n + 1 => match qs[n]? with
    | some p => stepF kp tp tv n (fallN kp tp tv cs qs n) p
    | none => fallN kp tp tv cs qs n
theorem stepF_len (kp tp : Nat → Bool) (tv : V) (i : Nat) (cs : List V) (p : Nat × V) : (stepF kp tp tv i cs p).length = cs.length := by
  unfold stepF; split <;> (try split) <;> simp
theorem fallN_len (kp tp : Nat → Bool) (tv : V) (cs : List V) (qs : List (Nat × V)) : ∀ n, (fallN kp tp tv cs qs n).length = cs.length
  | 0 => rfl
  | n + 1 => by
    unfold fallN
    split
    · rw [stepF_len, fallN_len _ _ _ _ _ n]
    · exact fallN_len _ _ _ _ _ n
theorem fallN_more {kp tp : Nat → Bool} {tv : V} {cs : List V} {qs : List (Nat × V)} {n : Nat} {p : Nat × V} (h : qs[n]? = some p) : fallN kp tp tv cs qs (n + 1) = stepF kp tp tv n (fallN kp tp tv cs qs n) p := by
  rw [fallN, h]
theorem ixN_nat {n j : Nat} (hj : j < n) : ixN n (j : Int) = some j := by
  unfold ixN
  rw [if_pos (by omega), if_pos (by omega)]
  rfl
theorem take_more {α : Type} {l : List α} {i : Nat} {x : α} (h : l[i]? = some x) : l.take (i + 1) = l.take i ++ [x] := by
  rw [List.take_add_one, h]; rfl
theorem readV_more {cs : List V} {qs : List (Nat × V)} {i k : Nat} {p : Nat × V} (h : qs[k]? = some p) : readV cs (qs.take (k + 1)) i = if p.1 = i then p.2 else readV cs (qs.take k) i := by
  unfold readV
  rw [take_more h, List.foldl_append]
  rfl
theorem atI_at {α : Type} {xs : List α} {i : Nat} {x : α} (h : xs[i]? = some x) : atI xs (i : Int) = some x := atI_nat h
def spFlush (K : PySem.W.Frag) (C : Addr) : Sp := fun vs H Q _ => ∃ (d cl ql : Addr) (cs : List V) (qs : List (Nat × V)), vs = [.ref d] ∧ DiskAt K C H d cl ql cs qs ∧
  ∀ (H' : Hp) (l : Addr), H l = none → ExB [d, cl] H H' → DiskAt K C H' d cl l (fallN (fun _ => true) (fun _ => false) .non cs qs qs.length) [] → Q .non H'
section
variable {P : Program} {w : World} {K : PySem.W.Frag} {mg : Str → Option Value} {base : Heap} {a : Ad}
theorem ok_read {f : Addr} {fd fdn : FuncData} (F : Fun K "read" "Disk.read" s_Disk_read f fd) (T : Txt P K mg a) (G_is_number : FnOk P w K mg base CX0 2 a.is_number fdn ["value", "most"] (spIsNum K)) (b_is_number : Binds K fdn ["value", "most"] []) :
    FnOk P w K mg base (L2.CX P w) 4 f fd ["self", "at"] (spRead K a.Disk a.Refused) := by
  refine F.okX sc_Disk_read (fun vs H Q E h => ?_) (fun cdv A outer s H vs Q E hr h => ?_)
  · obtain ⟨d, cl, ql, cs, qs, x, rfl, _⟩ := h
    rfl
  · obtain ⟨d, cl, ql, cs, qs, x, rfl, D, kx, h⟩ := h
    refine ⟨_, (pss_cons (ps_if (pt_not (pt_val (pe_call G_is_number (hr.mono (by decide)) rfl T.g_is_number T.k_is_number b_is_number .nil pass0 (pa_cons (pv 1) (pa_cons (pe_op op_sub (pe_callB (lenK (K := K) rfl) (by rfl) T.z_len (by decide +kernel) (pa_cons (fldK (K := K) rfl (pv 0) rfl) pa_nil)) pe_int) pa_nil))))) (pss_one (ps_raiseSup rfl T.C_Refused hr (takes_of rfl rfl rfl rfl) (pa_cons pe_str pa_nil))) pss_nil)
    (PSs.nox (pss_cons (ps_set (i := 2) sc_Disk_read.nd rfl (Or.inl rfl) (pe_ix (ix_listK (K := K) rfl) (fldK (K := K) rfl (pv 0) rfl) (pv 1) (fun _ _ => rfl)))
    (pss_cons (ps_for PassesOwn.never rfl (piListK (K := K) rfl (fldK (K := K) rfl (pv 0) rfl)) (pg_tup (by rfl) (pgs_cons (pg_name (i := 3) sc_Disk_read.nd rfl (Or.inl rfl)) (pgs_cons (pg_name (i := 4) sc_Disk_read.nd rfl (Or.inl rfl)) pgs_nil)))
      (pss_one (ps_if (pt_cmpR op_eq (pv 3) (pv 1) (nomark _)) (pss_one (ps_set (i := 2) sc_Disk_read.nd rfl (Or.inl rfl) (pv 4))) pss_nil)))
    (pss_one (ps_ret (pv 2))))))), ?_⟩
    obtain ⟨dx, hd⟩ := D.obj
    refine ⟨_, rfl, _, rfl, _, _, dx, _, _, rfl, hd, T.cl_Disk, T.nC, pf_cells _ _, cl, cs, rfl, .inl (SqL.of D.cel), _, _, rfl, rfl, _, _, rfl, kx, .inr ⟨_, rfl⟩, _, rfl, ?_⟩
    rcases h with ⟨i, rfl, hi, k⟩ | ⟨hn, k⟩
    · have num : numV (.int i) (.int ((cs.length : Int) - 1)) = true := by simp [numV]; omega
      rw [num]
      have hci : cs[i]? = some (cs.getD i .non) := by rw [List.getD_eq_getElem?_getD, List.getElem?_eq_getElem hi]; rfl
      refine ⟨_, rfl, _, _, dx, _, _, rfl, hd, T.cl_Disk, T.nC, pf_cells _ _, _, rfl, cl, cs, _, _, rfl, rfl, SqL.of D.cel, atI_at hci, ?_⟩
      obtain ⟨qv, hqv, rq⟩ := D.que
      refine ⟨_, rfl, _, _, dx, _, _, rfl, hd, T.cl_Disk, T.nQ, pf_queue _ _, ql, rfl, ⟨_, SqL.of hqv⟩, for_list (K := K) (a := ql) (xs := qv)
        (fun j σ H' => H' = H ∧ ∃ u v, σ = [some (.ref d), some (.int i), some (readV cs (qs.take j) i), u, v]) ⟨rfl, none, none, rfl⟩ (fun j σ H' _ hp => by rw [hp.1]; exact SqL.of hqv) ?_ ?_⟩
      · rintro j y σ H' hj ⟨rfl, u, v, rfl⟩
        have hjl : j < qs.length := by rw [← rq.1]; exact (List.getElem?_eq_some_iff.mp hj).1
        have hp : qs[j]? = some (qs[j]) := List.getElem?_eq_getElem hjl
        obtain ⟨t, e1, e2⟩ := rq.2 j _ hp
        rw [hj] at e1
        cases e1
        refine ⟨t, _, rfl, e2, rfl, _, _, rfl, _, _, rfl, rfl, ?_⟩
        refine ⟨_, rfl, _, rfl, rfl, _, rfl, ?_⟩
        refine ite2 (fun c => ?_) (fun c => ?_)
        · have c : (qs[j]).1 = i := by simp at c; omega
          refine ⟨_, rfl, rfl, some (.int (qs[j]).1), some (qs[j]).2, ?_⟩
          rw [readV_more hp, if_pos c]
          rfl
        · have c : ¬ (qs[j]).1 = i := by simp at c; omega
          refine ⟨rfl, some (.int (qs[j]).1), some (qs[j]).2, ?_⟩
          rw [readV_more hp, if_neg c]
          rfl
      · rintro σ H' ⟨rfl, u, v, rfl⟩
        refine ⟨_, rfl, ?_⟩
        rw [rq.1, List.take_length]
        exact k _ (fun _ _ e => e)
    · rw [hn]
      exact ⟨_, rfl, fun dd hdd => k.at (fun _ _ e => e) dd hdd⟩
theorem ok_flush {f : Addr} {fd : FuncData} (F : Fun K "flush" "Disk.flush" s_Disk_flush f fd) (T : Txt P K mg a) : FnOk P w K mg base CX0 1 f fd ["self"] (spFlush K a.Disk) := by
  refine F.ok sc_Disk_flush (fun vs H Q E h => ?_) (fun cdv A outer s H vs Q E hr h => ?_)
  · obtain ⟨d, cl, ql, cs, qs, rfl, _⟩ := h
    rfl
  · obtain ⟨d, cl, ql, cs, qs, rfl, D, k⟩ := h
    refine ⟨_, (pss_cons (ps_for PassesOwn.never rfl (piListK (K := K) rfl (fldK (K := K) rfl (pv 0) rfl)) (pg_tup (by rfl) (pgs_cons (pg_name (i := 1) sc_Disk_flush.nd rfl (Or.inl rfl)) (pgs_cons (pg_name (i := 2) sc_Disk_flush.nd rfl (Or.inl rfl)) pgs_nil)))
      (pss_one (ps_asg (pv 2) (pg_sub (fldK (K := K) rfl (pv 0) rfl) (pv 1) set_list))))
    (pss_one (ps_fld (pv 0) (pe_lst pa_nil) rfl))), ?_⟩
    obtain ⟨dx, hd⟩ := D.obj
    obtain ⟨qv, hqv, rq⟩ := D.que
    have ndc := D.ndc
    have ndq := D.ndq
    have nt : NoT [cl] H := noT_lst D.cel (fun _ h => nomatch h)
    refine ⟨_, rfl, _, _, dx, _, _, rfl, hd, T.cl_Disk, T.nQ, pf_queue _ _, ql, rfl, ⟨_, SqL.of hqv⟩, for_list (K := K) (a := ql) (xs := qv)
      (fun j σ H' => ExB [cl] H H' ∧ H' cl = some (.lst (fallN (fun _ => true) (fun _ => false) .non cs qs j)) ∧ ∃ u v, σ = [some (.ref d), u, v]) ⟨fun _ _ e _ => e, D.cel, none, none, rfl⟩ (fun j σ H' _ hp => SqL.of (hp.1 _ _ hqv (by simp [D.ne.symm]))) ?_ ?_⟩
    · rintro j y σ H' hj ⟨ex, hc, u, v, rfl⟩
      have hjl : j < qs.length := by rw [← rq.1]; exact (List.getElem?_eq_some_iff.mp hj).1
      have hp : qs[j]? = some (qs[j]) := List.getElem?_eq_getElem hjl
      obtain ⟨t, e1, e2⟩ := rq.2 j _ hp
      rw [hj] at e1
      cases e1
      refine ⟨t, _, rfl, ex.sqT nt e2, rfl, _, _, rfl, _, _, rfl, rfl, ?_⟩
      refine ⟨_, rfl, _, rfl, _, _, dx, _, _, rfl, ex _ _ hd (by simp [ndc]), T.cl_Disk, T.nC, pf_cells _ _, _, rfl, cl, _, _, _, rfl, rfl, hc, ixN_nat (by rw [fallN_len]; exact D.bnd _ (List.getElem_mem hjl)), ?_⟩
      refine ⟨ex.trans (ExB.put (by simp)), ?_, _, _, rfl⟩
      rw [upd_same, fallN_more hp]
      rfl
    · rintro σ H' ⟨ex, hc, u, v, rfl⟩
      refine ⟨Nat.zero_le _, fun l hl => ?_⟩
      have hl0 : H l = none := ex.free hl (by intro z; rw [List.mem_singleton.mp z, hc] at hl; cases hl)
      have hd' := ex _ _ hd (by simp [ndc])
      have ndl : d ≠ l := ne_of_none hd' hl
      have ncl : cl ≠ l := ne_of_none hc hl
      refine ⟨_, rfl, d, _, dx, _, rfl, (by rw [upd_ne ndl]; exact hd'), T.cl_Disk, T.nQ, pf_len _ _, ?_⟩
      refine k _ l hl0 ?_ ⟨⟨dx, by rw [upd_same, pf_put]⟩, ?_, ⟨[], ?_, QRep.nil⟩, ncl, ?_, ?_, Nat.zero_le _, fun _ h => nomatch h⟩
      · exact ((ex.mono (by simp)).trans (ExB.new hl)).trans (ExB.put (by simp))
      · rw [upd_ne ndc.symm, upd_ne ncl, hc, rq.1]
      · rw [upd_ne ndl.symm, upd_same]
      · rw [fallN_len]; exact D.low
      · rw [fallN_len]; exact D.big
theorem ok_init {f : Addr} {fd fdn : FuncData} (F : Fun K "__init__" "Disk.__init__" s_Disk___init__ f fd) (T : Txt P K mg a) (G_is_number : FnOk P w K mg base CX0 2 a.is_number fdn ["value", "most"] (spIsNum K)) (b_is_number : Binds K fdn ["value", "most"] []) :
    FnOk P w K mg base (L2.CX P w) 4 f fd ["self", "many"] (spInit K a.Disk a.InvalidNumber) := by
  refine F.okX sc_Disk___init__ (fun vs H Q E h => ?_) (fun cdv A outer s H vs Q E hr h => ?_)
  · obtain ⟨p, dx, m, rfl, _⟩ := h
    rfl
  · obtain ⟨p, dx, m, rfl, hp, km, h⟩ := h
    refine ⟨_, (pss_cons (ps_if (PW.pt (pw_or (pt_not (pt_val (pe_call G_is_number (hr.mono (by decide)) rfl T.g_is_number T.k_is_number b_is_number .nil pass0 (pa_cons (pv 1) (pa_cons (pe_glob (v := .int 400) rfl T.c_MOST_SLOTS_OF_DISK.choose_spec ⟨_, rfl⟩) pa_nil))))) (pw_or1 (pt_cmpR op_lt (pv 1) (pe_glob (v := .int 4) rfl T.c_FEWEST_SLOTS.choose_spec ⟨_, rfl⟩) (nomark _))))) (pss_one (ps_raiseSup rfl T.C_InvalidNumber hr (takes_of rfl rfl rfl rfl) (pa_cons pe_str pa_nil))) pss_nil)
    (PSs.nox (pss_cons (ps_fld (pv 0) (pe_lc (own := [("at", 2)]) (g := gName 2) (tt := tYes) (by rfl) sc_Disk___init__.nd (pi_range1 rfl T.z_range (pa_cons (pv 1) pa_nil)) (blkOk_by (own := [("at", 2)]) (N := ["self", "many", "at"]) (sc := defScope s_Disk___init__) (by decide +kernel)) (fun _ _ _ _ _ => (pg_name (i := 2) sc_Disk___init__.nd rfl (Or.inl rfl))) (fun _ _ _ _ _ => pts_nil) (fun _ _ _ _ _ => pe_non)) rfl)
    (pss_one (ps_fld (pv 0) (pe_lst pa_nil) rfl))))), ?_⟩
    refine ⟨_, rfl, _, _, rfl, km, .inr ⟨_, rfl⟩, _, rfl, ?_⟩
    rcases h with ⟨n, rfl, h4, h400, k⟩ | ⟨hn, k⟩
    · have num : numV (.int n) (.int 400) = true := by simp [numV]; omega
      rw [num]
      refine ⟨_, rfl, _, _, rfl, rfl, _, rfl, ?_⟩
      rw [decide_eq_false (show ¬ ((n : Int) < 4) by omega)]
      refine ⟨_, rfl, _, rfl, (by omega), (by omega), fun D hD => lc_range (lo := 0) (n := (n : Int).toNat) (fun i H' => H' = upd H D (.lst (List.replicate i .non))) rfl ?_ ?_⟩
      · rintro i H' hi rfl
        refine ⟨rfl, _, upd_same, ?_, ?_⟩
        · rw [List.length_replicate]; exact Nat.lt_of_lt_of_le (by omega : i < 1000) (by decide)
        · rw [upd_upd, List.replicate_succ']
      · rintro H' rfl
        have npD : p ≠ D := ne_of_none hp hD
        refine ⟨_, rfl, p, _, dx, _, rfl, (by rw [upd_ne npD]; exact hp), T.cl_Disk, T.nC, (by show 0 < 1000; decide), ?_⟩
        refine ⟨Nat.zero_le _, fun l hl => ?_⟩
        have npl : p ≠ l := ne_of_none upd_same hl
        have nDl : D ≠ l := ne_of_none (show upd (upd H D _) p _ D = some _ by rw [upd_ne npD.symm]; exact upd_same) hl
        have hl0 : H l = none := by rw [upd_ne npl.symm, upd_ne nDl.symm] at hl; exact hl
        refine ⟨_, rfl, p, _, dx, _, rfl, (by rw [upd_ne npl]; exact upd_same), T.cl_Disk, T.nQ, (by show 1 < 1000; decide), ?_⟩
        refine k _ D l ?_ hD hl0 ⟨⟨dx, upd_same⟩, ?_, ⟨[], ?_, QRep.nil⟩, nDl, ?_, ?_, Nat.zero_le _, fun _ h => nomatch h⟩
        · exact (((ExB.new hD).trans (ExB.put (by simp))).trans (ExB.new hl)).trans (ExB.put (by simp))
        · rw [upd_ne npD.symm, upd_ne nDl, upd_ne npD.symm, upd_same]; rfl
        · rw [upd_ne npl.symm, upd_same]
        · rw [List.length_replicate]; exact h4
        · rw [List.length_replicate]; exact h400
    · by_cases c : numV m (.int 400) = true
      · rcases hn with hn | ⟨i, rfl, hi⟩
        · rw [hn] at c; cases c
        · rw [c]
          refine ⟨_, rfl, _, _, rfl, rfl, _, rfl, ?_⟩
          rw [decide_eq_true hi]
          exact ⟨_, rfl, fun dd hdd => k.at (fun _ _ e => e) dd hdd⟩
      · rw [Bool.not_eq_true] at c
        rw [c]
        exact ⟨_, rfl, fun dd hdd => k.at (fun _ _ e => e) dd hdd⟩
end
end K69

namespace L2
open PySem PySem.Spec PyProof.Rows
theorem TyX.same {K : PySem.W.Frag} {H H1 : Hp} {x : V} {t : Value} (e : Same H H1) (h : TyX K H x t) : TyX K H1 x t := by
  cases h with
  | base h =>
    cases h with
    | non => exact .base .non
    | bl b => exact .base (.bl b)
    | int b => exact .base (.int b)
    | str b => exact .base (.str b)
    | flt b => exact .base (.flt b)
    | lst h => exact .base (.lst (e _ _ h))
    | frz h => exact .base (.frz (e _ _ h))
    | tup h => exact .base (.tup (e _ _ h))
    | dK h => exact .base (.dK (e _ _ h))
    | dT h => exact .base (.dT (e _ _ h))
    | ins h c a b d f => exact .base (.ins (e _ _ h) c a b d f)
  | byt b => exact .byt b
  | set h => exact .set (e _ _ h)
  | kList h c => exact .kList h c
  | kTuple h c => exact .kTuple h c
  | kDict h c => exact .kDict h c
  | fTuple h => exact .fTuple (e _ _ h)
  | fDict h => exact .fDict (e _ _ h)
end L2
namespace K69
open PySem PySem.Spec PyProof.Rows L2
theorem Kd.same {K : PySem.W.Frag} {H H1 : Hp} {v : V} (e : Same H H1) (h : Kd K H v) : Kd K H1 v := by
  rcases h with h | h | h | h | ⟨a, h1, h2 | h2⟩
  · exact .inl h
  · exact .inr (.inl h)
  · exact .inr (.inr (.inl h))
  · exact .inr (.inr (.inr (.inl h)))
  · exact .inr (.inr (.inr (.inr ⟨a, h1, .inl (h2.same e)⟩)))
  · exact .inr (.inr (.inr (.inr ⟨a, h1, .inr (h2.same e)⟩)))
def toI : V → Int
  | .int i => i
  | _ => 0
/-- whether items are an ascending row of places up to n -/
def lotB (n : Int) (ys : List V) : Bool := (ys.map fun y => numV y (.int n)).all id && ascI (ys.map toI)
theorem num_int {y m : V} (h : numV y m = true) : y = .int (toI y) := by
  cases y with
  | int i => rfl
  | _ => exact absurd h (by simp [numV])
theorem all_int {n : Int} : ∀ {ys : List V}, (ys.map fun y => numV y (.int n)).all id = true → ys = (ys.map toI).map V.int
  | [], _ => rfl
  | y :: r, h => by
    simp only [List.map_cons, List.all_cons, Bool.and_eq_true, id] at h
    rw [List.map_cons, List.map_cons, ← num_int h.1, ← all_int h.2]
/-- what is_lot_of_puts answers of v where n + 1 puts wait -/
def LotP (K : PySem.W.Frag) (H : Hp) (n : Int) (v : V) (b : Bool) : Prop :=
  (∃ (t : Addr) (ys : List V), v = .ref t ∧ SqT K H t ys ∧ (∀ y ∈ ys, Kd K H y) ∧ ys.length ≤ 100000 ∧ b = lotB n ys) ∨ ((∃ t, TyX K H v t ∧ PySem.W.kitOne K t (.type "tuple") = some false) ∧ b = false)
theorem LotP.same {K : PySem.W.Frag} {H H1 : Hp} {n : Int} {v : V} {b : Bool} (e : Same H H1) (h : LotP K H n v b) : LotP K H1 n v b := by
  rcases h with ⟨t, ys, h1, h2, h3, h4, h5⟩ | ⟨⟨t, h1, h2⟩, h3⟩
  · exact .inl ⟨t, ys, h1, e.sqT h2, fun y hy => (h3 y hy).same e, h4, h5⟩
  · exact .inr ⟨⟨t, h1.same e, h2⟩, h3⟩
def spLot (K : PySem.W.Frag) (C : Addr) : Sp := fun vs H Q _ => ∃ (d cl ql : Addr) (cs : List V) (qs : List (Nat × V)) (v : V) (b : Bool), vs = [.ref d, v] ∧ DiskAt K C H d cl ql cs qs ∧ LotP K H ((qs.length : Int) - 1) v b ∧ ∀ H', Same H H' → Q (.bl b) H'
def spCut (K : PySem.W.Frag) (C CR TN : Addr) : Sp := fun vs H Q E => ∃ (d cl ql : Addr) (cs : List V) (qs : List (Nat × V)) (k t : V) (b1 b2 : Bool), vs = [.ref d, k, t] ∧ DiskAt K C H d cl ql cs qs ∧ LotP K H ((qs.length : Int) - 1) k b1 ∧ LotP K H ((qs.length : Int) - 1) t b2 ∧
  (((b1 = false ∨ b2 = false) ∧ ErrTo E CR H "puts") ∨
   (b1 = true ∧ b2 = true ∧ ∃ (ka ta : Addr) (ks ts : List Int), k = .ref ka ∧ t = .ref ta ∧ SqT K H ka (ks.map V.int) ∧ SqT K H ta (ts.map V.int) ∧ ts.length ≤ 100000 ∧
     (((∃ z ∈ ts, z ∈ ks) ∧ ErrTo E CR H "puts") ∨ ((∀ z ∈ ts, z ∉ ks) ∧
      ∀ (H' : Hp) (l : Addr), H l = none → ExB [d, cl] H H' → DiskAt K C H' d cl l (fallN (fun i => decide ((i : Int) ∈ ks)) (fun i => decide ((i : Int) ∈ ts)) (.ref TN) cs qs qs.length) [] → Q .non H'))))
theorem inV_int (i : Int) (ks : List Int) : inV (.int i) (ks.map V.int) = decide (i ∈ ks) := by
  induction ks with
  | nil => simp [inV]
  | cons k r ih =>
    unfold inV at ih ⊢
    rw [List.map_cons, List.any_cons, ih]
    show (k == i || decide (i ∈ r)) = decide (i ∈ k :: r)
    by_cases h : k = i
    · subst h; simp
    · have h' : ¬ i = k := fun z => h z.symm
      simp [h, h']
theorem flat_ints (ks : List Int) : (ks.map V.int).all flatV = true := by
  simp [List.all_eq_true, flatV]
theorem all_map_take {α : Type} (l : List α) (f : α → V) {i : Nat} {x : α} (h : l[i]? = some x) : (l.take (i + 1)).map f = (l.take i).map f ++ [f x] := by
  rw [take_more h, List.map_append]; rfl
section
variable {P : Program} {w : World} {K : PySem.W.Frag} {mg : Str → Option Value} {base : Heap} {a : Ad}
theorem ok_lot {f : Addr} {fd fdn fda : FuncData} (F : Fun K "is_lot_of_puts" "Disk.is_lot_of_puts" s_Disk_is_lot_of_puts f fd) (T : Txt P K mg a) (G_is_number : FnOk P w K mg base CX0 2 a.is_number fdn ["value", "most"] (spIsNum K)) (b_is_number : Binds K fdn ["value", "most"] [])
    (G_is_ascending : FnOk P w K mg base CX0 1 a.is_ascending fda ["row"] (spAsc K)) (b_is_ascending : Binds K fda ["row"] []) : FnOk P w K mg base CX0 4 f fd ["self", "value"] (spLot K a.Disk) := by
  refine F.ok sc_Disk_is_lot_of_puts (fun vs H Q E h => ?_) (fun cdv A outer s H vs Q E hr h => ?_)
  · obtain ⟨d, cl, ql, cs, qs, v, b, rfl, _⟩ := h
    rfl
  · obtain ⟨d, cl, ql, cs, qs, v, b, rfl, D, L, k⟩ := h
    refine ⟨_, (pss_cons (ps_if (PW.pt (pw_or (pt_not (pt_val (pe_callB (isiK (K := K) rfl) (by rfl) T.z_isinstance (by decide +kernel) (pa_cons (pv 1) (pa_cons (pe_bltn (v := .ty "tuple") (u := .type "tuple") (by rfl) T.z_tuple (by decide +kernel) rfl) pa_nil))))) (pw_or1 (pt_not (pt_val (pe_callB (allK (K := K) rfl rfl) (by rfl) T.z_all (by decide +kernel) (pa_cons (pe_lc (own := [("one", 2)]) (g := gName 2) (tt := tYes) (by rfl) sc_Disk_is_lot_of_puts.nd (piTupK (K := K) rfl (pv 1)) (blkOk_by (own := [("one", 2)]) (N := ["self", "value", "one"]) (sc := defScope s_Disk_is_lot_of_puts) (by decide +kernel)) (fun _ _ _ _ _ => (pg_name (i := 2) sc_Disk_is_lot_of_puts.nd rfl (Or.inl rfl))) (fun _ _ _ _ _ => pts_nil) (fun _ _ _ _ _ => (pe_call G_is_number (hr.mono (by decide)) rfl T.g_is_number T.k_is_number b_is_number .nil pass0 (pa_cons (pv 2) (pa_cons (pe_op op_sub (pe_callB (lenK (K := K) rfl) (by rfl) T.z_len (by decide +kernel) (pa_cons (fldK (K := K) rfl (pv 0) rfl) pa_nil)) pe_int) pa_nil))))) pa_nil))))))) (pss_one (ps_ret pe_bl)) pss_nil)
    (pss_one (ps_ret (pe_call G_is_ascending (hr.mono (by decide)) rfl T.g_is_ascending T.k_is_ascending b_is_ascending .nil pass0 (pa_cons (pv 1) pa_nil))))), ?_⟩
    rcases L with ⟨t, ys, rfl, hS, hk, hl, rfl⟩ | ⟨⟨t, ty, kt⟩, rfl⟩
    · refine ⟨_, rfl, _, _, _, _, _, rfl, .ty _, hS.ty, kit_ty (show kitB "tuple" "tuple" = some true by decide +kernel), _, rfl, ?_⟩
      refine ⟨_, rfl, t, rfl, ⟨_, hS⟩, fun D' hD => lc_tup (K := K) (a := t) (xs := ys) (fun i H' => H' = upd H D' (.lst ((ys.take i).map fun y => .bl (numV y (.int ((qs.length : Int) - 1)))))) rfl (fun i H' _ e => by rw [e]; exact (Same.new hD).sqT hS) ?_ ?_⟩
      · rintro i y H' hi rfl
        have ne := Same.new (o := .lst ((ys.take i).map fun y => V.bl (numV y (.int ((qs.length : Int) - 1))))) hD
        obtain ⟨⟨dx, hd⟩, _, ⟨qv, hqv, rq⟩, _⟩ := D.same ne
        refine ⟨rfl, _, rfl, _, rfl, _, _, dx, _, _, rfl, hd, T.cl_Disk, T.nQ, pf_queue _ _, ql, qv, rfl, .inl (SqL.of hqv), _, _, rfl, rfl, _, _, rfl, (hk y (List.mem_of_getElem? hi)).same ne, .inr ⟨_, rfl⟩, _, upd_same, ?_, ?_⟩
        · rw [List.length_map, List.length_take]
          exact Nat.lt_of_le_of_lt (Nat.le_trans (Nat.min_le_right _ _) hl) (by decide)
        · rw [upd_upd, all_map_take _ _ hi, rq.1]
      · rintro H' rfl
        refine ⟨D', ys.map fun y => numV y (.int ((qs.length : Int) - 1)), rfl, ?_, _, rfl, ?_⟩
        · rw [List.take_length, List.map_map]; exact SqL.of upd_same
        · rw [List.take_length]
          have ne := Same.new (o := .lst (ys.map fun y => V.bl (numV y (.int ((qs.length : Int) - 1))))) hD
          by_cases c : (ys.map fun y => numV y (.int ((qs.length : Int) - 1))).all id = true
          · rw [c]
            have hS' : SqT K _ t ((ys.map toI).map V.int) := ne.sqT (by rw [← all_int c]; exact hS)
            refine ⟨_, rfl, t, _, rfl, hS', (by rw [List.length_map]; exact hl), fun H' e => ?_⟩
            have q := k _ (ne.trans e)
            unfold lotB at q
            rw [c] at q
            exact q
          · rw [Bool.not_eq_true] at c
            rw [c]
            have q := k _ ne
            unfold lotB at q
            rw [c] at q
            exact q
    · refine ⟨_, rfl, _, _, _, _, _, rfl, .ty _, ty, kt, _, rfl, ?_⟩
      exact k _ (fun _ _ e => e)
theorem ok_cut {f : Addr} {fd fdl : FuncData} (F : Fun K "cut" "Disk.cut" s_Disk_cut f fd) (T : Txt P K mg a) (G_Disk_is_lot_of_puts : FnOk P w K mg base CX0 4 a.is_lot_of_puts fdl ["self", "value"] (spLot K a.Disk)) (b_Disk_is_lot_of_puts : Binds K fdl ["self", "value"] []) :
    FnOk P w K mg base (L2.CX P w) 6 f fd ["self", "kept", "torn"] (spCut K a.Disk a.Refused a.TORN) := by
  refine F.okX sc_Disk_cut (fun vs H Q E h => ?_) (fun cdv A outer s H vs Q E hr h => ?_)
  · obtain ⟨d, cl, ql, cs, qs, k, t, b1, b2, rfl, _⟩ := h
    rfl
  · obtain ⟨d, cl, ql, cs, qs, k, t, b1, b2, rfl, D, L1, L2, h⟩ := h
    refine ⟨_, (pss_cons (ps_if (PW.pt (pw_or (pt_not (pt_val (pe_meth (pv 0) T.cl_Disk T.m_Disk_is_lot_of_puts G_Disk_is_lot_of_puts (hr.mono (by decide)) b_Disk_is_lot_of_puts .nil pass0 (pa_cons (pv 1) pa_nil)))) (pw_or (pt_not (pt_val (pe_meth (pv 0) T.cl_Disk T.m_Disk_is_lot_of_puts G_Disk_is_lot_of_puts (hr.mono (by decide)) b_Disk_is_lot_of_puts .nil pass0 (pa_cons (pv 2) pa_nil)))) (pw_or1 (pt_val (pe_callB (anyK (K := K) rfl rfl) (by rfl) T.z_any (by decide +kernel) (pa_cons (pe_lc (own := [("one", 6)]) (g := gName 6) (tt := tYes) (by rfl) sc_Disk_cut.nd (piTupK (K := K) rfl (pv 2)) (blkOk_by (own := [("one", 6)]) (N := ["self", "kept", "torn", "place", "at", "row", "one"]) (sc := defScope s_Disk_cut) (by decide +kernel)) (fun _ _ _ _ _ => (pg_name (i := 6) sc_Disk_cut.nd rfl (Or.inl rfl))) (fun _ _ _ _ _ => pts_nil) (fun _ _ _ _ _ => (pe_cmpR (inK (K := K) rfl) (pv 6) (pv 1) rfl))) pa_nil))))))) (pss_one (ps_raiseSup rfl T.C_Refused hr (takes_of rfl rfl rfl rfl) (pa_cons pe_str pa_nil))) pss_nil)
    (PSs.nox (pss_cons (ps_for PassesOwn.never rfl (piEnumK (K := K) rfl (by rfl) T.z_enumerate (pa_cons (fldK (K := K) rfl (pv 0) rfl) pa_nil)) (pg_tup (by rfl) (pgs_cons (pg_name (i := 3) sc_Disk_cut.nd rfl (Or.inl rfl)) (pgs_cons (pg_tup (by rfl) (pgs_cons (pg_name (i := 4) sc_Disk_cut.nd rfl (Or.inl rfl)) (pgs_cons (pg_name (i := 5) sc_Disk_cut.nd rfl (Or.inl rfl)) pgs_nil))) pgs_nil)))
      (pss_one (ps_if (pt_cmpR (inK (K := K) rfl) (pv 3) (pv 1) rfl) (pss_one (ps_asg (pv 5) (pg_sub (fldK (K := K) rfl (pv 0) rfl) (pv 4) set_list))) (pss_one (ps_if (pt_cmpR (inK (K := K) rfl) (pv 3) (pv 2) rfl) (pss_one (ps_asg (pe_globR rfl T.c_TORN) (pg_sub (fldK (K := K) rfl (pv 0) rfl) (pv 4) set_list))) pss_nil)))))
    (pss_one (ps_fld (pv 0) (pe_lst pa_nil) rfl))))), ?_⟩
    have noL : (pf cl ql).lookup ("is_lot_of_puts" : Str) = none := pf_no _ _ (by decide +kernel) (by decide +kernel)
    obtain ⟨dx, hd⟩ := D.obj
    refine ⟨_, rfl, _, dx, _, rfl, hd, noL, _, rfl, d, cl, ql, cs, qs, k, b1, rfl, D, L1, fun H1 e1 => ⟨_, rfl, ?_⟩⟩
    have bad : ∀ H2, Same H H2 → ErrTo E a.Refused H "puts" → ∃ v, [V.str "puts"] = [v] ∧ ∀ dd, H2 dd = none → E (.ref a.Refused) (some dd) (upd H2 dd (.xd [(("at" : Str), v)])) := fun H2 e z => ⟨_, rfl, fun dd hdd => z.at e dd hdd⟩
    cases b1 with
    | false =>
      rcases h with ⟨_, z⟩ | ⟨z, _⟩
      · exact bad _ e1 z
      · cases z
    | true =>
      refine ⟨_, rfl, _, dx, _, rfl, e1 _ _ hd, noL, _, rfl, d, cl, ql, cs, qs, t, b2, rfl, D.same e1, L2.same e1, fun H2 e2 => ⟨_, rfl, ?_⟩⟩
      have e12 := e1.trans e2
      cases b2 with
      | false =>
        rcases h with ⟨_, z⟩ | ⟨_, z, _⟩
        · exact bad _ e12 z
        · cases z
      | true =>
        rcases h with ⟨z | z, _⟩ | ⟨_, _, ka, ta, ks, ts, rfl, rfl, hk, ht, hl, h⟩
        · cases z
        · cases z
        have hk2 := e12.sqT hk
        have ht2 := e12.sqT ht
        refine ⟨_, rfl, ta, rfl, ⟨_, ht2⟩, fun D' hD => lc_tup (K := K) (a := ta) (xs := ts.map V.int) (fun i H' => H' = upd H2 D' (.lst ((ts.take i).map fun z => .bl (decide (z ∈ ks))))) rfl (fun i H' _ e => by rw [e]; exact (Same.new hD).sqT ht2) ?_ ?_⟩
        · rintro i y H' hi rfl
          have ne := Same.new (o := .lst ((ts.take i).map fun z => V.bl (decide (z ∈ ks)))) hD
          obtain ⟨z, hz, rfl⟩ : ∃ z, ts[i]? = some z ∧ y = V.int z := by
            rw [List.getElem?_map] at hi
            cases e : ts[i]? with
            | none => rw [e] at hi; cases hi
            | some z => rw [e] at hi; exact ⟨z, rfl, (Option.some.inj hi).symm⟩
          refine ⟨rfl, _, rfl, _, rfl, ka, _, rfl, .inr (ne.sqT hk2), rfl, flat_ints ks, _, upd_same, ?_, ?_⟩
          · rw [List.length_map, List.length_take]
            exact Nat.lt_of_le_of_lt (Nat.le_trans (Nat.min_le_right _ _) hl) (by decide)
          · rw [upd_upd, all_map_take _ _ hz, if_neg Bool.false_ne_true, inV_int]
        · rintro H' rfl
          have ne := Same.new (o := .lst ((ts.take (ts.map V.int).length).map fun z => V.bl (decide (z ∈ ks)))) hD
          have e3 := e12.trans ne
          refine ⟨D', ts.map fun z => decide (z ∈ ks), rfl, ?_, _, rfl, ?_⟩
          · rw [List.length_map, List.take_length, List.map_map]; exact SqL.of upd_same
          · rcases h with ⟨⟨z, hz, hzk⟩, h⟩ | ⟨hno, h⟩
            · have c : (ts.map fun z => decide (z ∈ ks)).any id = true := by
                rw [List.any_eq_true]
                exact ⟨true, List.mem_map.mpr ⟨z, hz, by simp [hzk]⟩, rfl⟩
              rw [c]
              exact bad _ e3 h
            · have c : (ts.map fun z => decide (z ∈ ks)).any id = false := by
                rw [List.any_eq_false]
                intro b hb
                obtain ⟨z, hz, e⟩ := List.mem_map.mp hb
                rw [← e]
                simp [hno z hz]
              rw [c]
              generalize hH3 : upd H2 D' _ = H3
              rw [hH3] at e3
              have D3 := D.same e3
              have hk3 := e3.sqT hk
              have ht3 := e3.sqT ht
              obtain ⟨⟨dx, hd⟩, hc3, ⟨qv, hqv, rq⟩, ne3, lo3, bi3, fe3, bn3⟩ := id D3
              have ndc := D3.ndc
              have ndq := D3.ndq
              have nt : NoT [cl] H3 := noT_lst hc3 (fun _ h => nomatch h)
              refine ⟨_, rfl, _, _, dx, _, _, rfl, hd, T.cl_Disk, T.nQ, pf_queue _ _, ql, qv, rfl, SqL.of hqv, for_it (walk_enum (K := K) (a := ql) (xs := qv))
                (fun j σ H' => ExB [cl] H3 H' ∧ H' cl = some (.lst (fallN (fun i => decide ((i : Int) ∈ ks)) (fun i => decide ((i : Int) ∈ ts)) (.ref a.TORN) cs qs j)) ∧ ∃ u v x, σ = [some (.ref d), some (.ref ka), some (.ref ta), u, v, x, none])
                ⟨fun _ _ e _ => e, hc3, none, none, none, rfl⟩ (fun j σ H' _ hp => SqL.of (hp.1 _ _ hqv (by simp [ne3.symm]))) ?_ ?_⟩
              · rintro j y σ H' H4 hj ⟨ex, hc, u, v, x, rfl⟩ ⟨T', x', y', rfl, hT', rfl, ex', hy'⟩
                cases ex'
                have hjl : j < qs.length := by rw [← rq.1]; exact hj
                have hp : qs[j]? = some (qs[j]) := List.getElem?_eq_getElem hjl
                obtain ⟨t, q1, q2⟩ := rq.2 j _ hp
                have hy' : qv[j]? = some y' := hy'
                rw [q1] at hy'
                cases hy'
                have eN : Same H' (upd H' T' (.tup [.int (j : Nat), .ref t])) := Same.new hT'
                have ex4 : ExB [cl] H3 (upd H' T' (.tup [.int (j : Nat), .ref t])) := ex.trans (ExB.of eN)
                refine ⟨T', _, rfl, SqT.of upd_same, rfl, _, _, rfl, _, _, rfl, t, _, rfl, ex4.sqT nt q2, rfl, _, _, rfl, _, _, rfl, rfl, rfl, ?_⟩
                have hcT : upd H' T' (.tup [.int (j : Nat), .ref t]) cl = some (.lst _) := eN _ _ hc
                refine ⟨_, rfl, _, rfl, ka, _, rfl, .inr (ex4.sqT nt hk3), rfl, flat_ints ks, _, rfl, ?_⟩
                rw [if_neg Bool.false_ne_true, inV_int]
                have fin : ∀ (H5 : Hp) (c : List V), H5 = upd (upd H' T' (.tup [.int (j : Nat), .ref t])) cl (.lst c) → c = stepF (fun i => decide ((i : Int) ∈ ks)) (fun i => decide ((i : Int) ∈ ts)) (.ref a.TORN) j (fallN (fun i => decide ((i : Int) ∈ ks)) (fun i => decide ((i : Int) ∈ ts)) (.ref a.TORN) cs qs j) (qs[j]) →
                    ExB [cl] H3 H5 ∧ H5 cl = some (.lst (fallN (fun i => decide ((i : Int) ∈ ks)) (fun i => decide ((i : Int) ∈ ts)) (.ref a.TORN) cs qs (j + 1))) := fun H5 c e f => by
                  subst e
                  subst f
                  exact ⟨ex4.trans (ExB.put (by simp)), by rw [upd_same, fallN_more hp]⟩
                refine ite2 (fun ck => ?_) (fun ck => ?_)
                · have ck : (j : Int) ∈ ks := by simpa using ck
                  refine ⟨_, rfl, _, rfl, _, _, dx, _, _, rfl, ex4 _ _ hd (by simp [ndc]), T.cl_Disk, T.nC, pf_cells _ _, _, rfl, cl, _, _, _, rfl, rfl, hcT, ixN_nat (by rw [fallN_len]; exact bn3 _ (List.getElem_mem hjl)), ?_⟩
                  obtain ⟨f1, f2⟩ := fin _ _ rfl (by unfold stepF; rw [if_pos (by simpa using ck)])
                  exact ⟨f1, f2, _, _, _, rfl⟩
                · have ck : ¬ (j : Int) ∈ ks := by simpa using ck
                  refine ⟨_, rfl, _, rfl, ta, _, rfl, .inr (ex4.sqT nt ht3), rfl, flat_ints ts, _, rfl, ?_⟩
                  rw [if_neg Bool.false_ne_true, inV_int]
                  refine ite2 (fun ct => ?_) (fun ct => ?_)
                  · have ct : (j : Int) ∈ ts := by simpa using ct
                    refine ⟨_, rfl, _, _, dx, _, _, rfl, ex4 _ _ hd (by simp [ndc]), T.cl_Disk, T.nC, pf_cells _ _, _, rfl, cl, _, _, _, rfl, rfl, hcT, ixN_nat (by rw [fallN_len]; exact bn3 _ (List.getElem_mem hjl)), ?_⟩
                    obtain ⟨f1, f2⟩ := fin _ _ rfl (by unfold stepF; rw [if_neg (by simpa using ck), if_pos (by simpa using ct)])
                    exact ⟨f1, f2, _, _, _, rfl⟩
                  · have ct : ¬ (j : Int) ∈ ts := by simpa using ct
                    refine ⟨ex4, ?_, _, _, _, rfl⟩
                    rw [fallN_more hp]
                    unfold stepF
                    rw [if_neg (by simpa using ck), if_neg (by simpa using ct)]
                    exact hcT
              · rintro σ H' ⟨ex, hc, u, v, x, rfl⟩
                refine ⟨Nat.zero_le _, fun l hl => ?_⟩
                have hl3 : H3 l = none := ex.free hl (by intro z; rw [List.mem_singleton.mp z, hc] at hl; cases hl)
                have hl0 : H l = none := (ExB.of (S := []) e3).free hl3 (by simp)
                have hd' := ex _ _ hd (by simp [ndc])
                have ndl : d ≠ l := ne_of_none hd' hl
                have ncl : cl ≠ l := ne_of_none hc hl
                refine ⟨_, rfl, d, _, dx, _, rfl, (by rw [upd_ne ndl]; exact hd'), T.cl_Disk, T.nQ, pf_len _ _, ?_⟩
                refine h _ l hl0 ?_ ⟨⟨dx, by rw [upd_same, pf_put]⟩, ?_, ⟨[], ?_, QRep.nil⟩, ncl, ?_, ?_, Nat.zero_le _, fun _ h => nomatch h⟩
                · exact (((ExB.of e3).trans (ex.mono (by simp))).trans (ExB.new hl)).trans (ExB.put (by simp))
                · rw [upd_ne ndc.symm, upd_ne ncl, hc, rq.1]
                · rw [upd_ne ndl.symm, upd_same]
                · rw [fallN_len]; exact D.low
                · rw [fallN_len]; exact D.big
end
end K69

namespace K69
open PySem PySem.Spec PyProof.Rows L2
abbrev s__law_take : Stmt := top 14
theorem sc__law_take : FnScope ["box", "many", "digit", "raw"] ["box", "many"] (defScope s__law_take) := ⟨rfl, rfl, rfl, by decide +kernel, rfl, by decide +kernel, by decide +kernel⟩
abbrev s__law_pick : Stmt := top 15
theorem sc__law_pick : FnScope ["box", "some"] ["box", "some"] (defScope s__law_pick) := ⟨rfl, rfl, rfl, by decide +kernel, rfl, by decide +kernel, by decide +kernel⟩
abbrev s__law_same : Stmt := top 16
theorem sc__law_same : FnScope ["value", "due", "at"] ["value", "due"] (defScope s__law_same) := ⟨rfl, rfl, rfl, by decide +kernel, rfl, by decide +kernel, by decide +kernel⟩
abbrev s__law_part : Stmt := top 18
theorem sc__law_part : FnScope ["box", "lot", "many", "left", "x"] ["box", "lot", "many"] (defScope s__law_part) := ⟨rfl, rfl, rfl, by decide +kernel, rfl, by decide +kernel, by decide +kernel⟩
abbrev s__law_box : Stmt := top 19
theorem sc__law_box : FnScope ["script", "k", "cell"] ["script", "k"] (defScope s__law_box) := ⟨rfl, rfl, rfl, by decide +kernel, rfl, by decide +kernel, by decide +kernel⟩
/-- the box of the draws -/
def BoxAt (H : Hp) (b : Addr) : Prop := ∃ z s n : Int, H b = some (.lst [.int z, .int s, .int n])
theorem BoxAt.keep {H H1 : Hp} {b : Addr} {S : List Addr} (h : BoxAt H b) (e : ExB S H H1) (n : b ∉ S) : BoxAt H1 b := let ⟨z, s, m, q⟩ := h; ⟨z, s, m, e _ _ q n⟩
theorem BoxAt.noT {H : Hp} {b : Addr} (h : BoxAt H b) : NoT [b] H := let ⟨z, s, m, q⟩ := h; noT_lst q (fun _ h => nomatch h)
def spTake : Sp := fun vs H Q _ => ∃ (b : Addr) (m : Int), vs = [.ref b, .int m] ∧ BoxAt H b ∧ 0 < m ∧ m < 1000000 ∧ ∀ (H' : Hp) (i : Int), ExB [b] H H' → BoxAt H' b → 0 ≤ i → i < m → Q (.int i) H'
def spPick : Sp := fun vs H Q _ => ∃ (b l : Addr) (xs : List V), vs = [.ref b, .ref l] ∧ BoxAt H b ∧ H l = some (.lst xs) ∧ l ≠ b ∧ 0 < xs.length ∧ xs.length < 1000000 ∧ ∀ (H' : Hp) (x : V), ExB [b] H H' → BoxAt H' b → x ∈ xs → Q x H'
def spSame (K : PySem.W.Frag) (n : Nat) : Sp := fun vs H Q _ => ∃ v u : V, vs = [v, u] ∧ Eqd K H n v u ∧ ∀ H', Same H H' → Q (.bl true) H'
def spPart : Sp := fun vs H Q _ => ∃ (b l : Addr) (ns : List Int) (m : Nat), vs = [.ref b, .ref l, .int m] ∧ BoxAt H b ∧ H l = some (.lst (ns.map V.int)) ∧ m ≤ ns.length ∧ ns.length ≤ 1000 ∧
  ∀ (H' : Hp) (t : Addr) (zs : List Int), ExB [b] H H' → BoxAt H' b → H' t = some (.tup (zs.map V.int)) → (∀ z ∈ zs, z ∈ ns) → zs.length = m → Q (.ref t) H'
def spBox (K : PySem.W.Frag) : Sp := fun vs H Q _ => ∃ (l : Addr) (ns : List Int) (k : Nat), vs = [.ref l, .int k] ∧ SqL K H l (ns.map V.int) ∧ k < 3 ∧ ∀ (H' : Hp) (p : Addr), H p = none → Same H H' → BoxAt H' p → Q (.ref p) H'
section
variable {P : Program} {w : World} {K : PySem.W.Frag} {mg : Str → Option Value} {base : Heap} {a : Ad}
theorem fm {x m : Int} (h : 0 < m) : 0 ≤ x.fmod m ∧ x.fmod m < m := ⟨Int.fmod_nonneg_of_pos _ h, Int.fmod_lt_of_pos _ h⟩
theorem ok_take {f : Addr} {fd : FuncData} (F : Fun K "_law_take" "_law_take" s__law_take f fd) (T : Txt P K mg a) : FnOk P w K mg base CX0 1 f fd ["box", "many"] spTake := by
  refine F.ok sc__law_take (fun vs H Q E h => ?_) (fun cdv A outer s H vs Q E hr h => ?_)
  · obtain ⟨b, m, rfl, _⟩ := h
    rfl
  · obtain ⟨b, m, rfl, ⟨z, s, n, hb⟩, m0, m1, k⟩ := h
    refine ⟨_, (pss_cons (ps_if (pt_cmpR op_gt (pe_ix (ix_listK (K := K) rfl) (pv 0) pe_int (fun _ _ => rfl)) pe_int (nomark _)) (pss_cons (ps_set (i := 2) sc__law_take.nd rfl (Or.inl rfl) (pe_op op_modN (pe_callTy call_int1 (by rfl) T.z_int (by decide +kernel) (pa_cons (pe_ix (ix_listK (K := K) rfl) (pv 0) pe_int (fun _ _ => rfl)) pa_nil)) (pv 1)))
    (pss_cons (ps_asg (pe_op op_fdivN (pe_ix (ix_listK (K := K) rfl) (pv 0) pe_int (fun _ _ => rfl)) (pv 1)) (pg_sub (pv 0) pe_int set_list))
    (pss_one (ps_ret (pv 2))))) pss_nil)
    (pss_cons (ps_asg (pe_op op_add (pe_ix (ix_listK (K := K) rfl) (pv 0) pe_int (fun _ _ => rfl)) pe_int) (pg_sub (pv 0) pe_int set_list))
    (pss_cons (ps_set (i := 3) sc__law_take.nd rfl (Or.inl rfl) (pe_op op_modN (pe_callTy call_int1 (by rfl) T.z_int (by decide +kernel) (pa_cons (pe_op op_add (pe_op op_mul (pe_op op_add (pe_ix (ix_listK (K := K) rfl) (pv 0) pe_int (fun _ _ => rfl)) (pe_op op_mul pe_int (pe_ix (ix_listK (K := K) rfl) (pv 0) pe_int (fun _ _ => rfl)))) pe_int) pe_int) pa_nil)) pe_int))
    (pss_cons (ps_asg (pe_op op_add (pe_op op_modN (pe_callTy call_int1 (by rfl) T.z_int (by decide +kernel) (pa_cons (pe_op op_add (pe_op op_mul (pv 3) pe_int) pe_int) pa_nil)) pe_int) pe_int) (pg_sub (pv 0) pe_int set_list))
    (pss_one (ps_ret (pe_op op_modN (pe_callTy call_int1 (by rfl) T.z_int (by decide +kernel) (pa_cons (pe_op op_fdivN (pe_op op_add (pe_op op_mul (pv 3) pe_int) (pe_ix (ix_listK (K := K) rfl) (pv 0) pe_int (fun _ _ => rfl))) pe_int) pa_nil)) (pv 1)))))))), ?_⟩
    have i0 : ∀ x y z : V, atI [x, y, z] 0 = some x := fun _ _ _ => rfl
    have i1 : ∀ x y z : V, atI [x, y, z] 1 = some y := fun _ _ _ => rfl
    have i2 : ∀ x y z : V, atI [x, y, z] 2 = some z := fun _ _ _ => rfl
    refine ⟨_, rfl, b, _, _, _, rfl, rfl, SqL.of hb, i0 _ _ _, _, _, rfl, rfl, _, rfl, ?_⟩
    refine ite2 (fun c => ?_) (fun c => ?_)
    · have c : 0 < z := by simpa using c
      refine ⟨_, rfl, b, _, _, _, rfl, rfl, SqL.of hb, i0 _ _ _, .inl ⟨_, rfl, _, rfl, _, _, rfl, rfl, (by omega), ?_⟩⟩
      refine ⟨_, rfl, b, _, _, _, rfl, rfl, SqL.of hb, i0 _ _ _, _, rfl, _, _, rfl, rfl, ⟨by omega, by omega⟩, ?_⟩
      refine ⟨_, rfl, b, _, _, 0, rfl, rfl, hb, rfl, _, rfl, ?_⟩
      exact k _ _ (ExB.put (by simp)) ⟨_, _, _, upd_same⟩ (fm m0).1 (fm m0).2
    · refine ⟨_, rfl, b, _, _, _, rfl, rfl, SqL.of hb, i2 _ _ _, _, _, rfl, rfl, _, rfl, b, _, _, 2, rfl, rfl, hb, rfl, ?_⟩
      generalize hH : upd H b _ = H1
      have hb1 : H1 b = some (.lst [.int z, .int s, .int (n + 1)]) := by rw [← hH]; exact upd_same
      have e1 : ExB [b] H H1 := by rw [← hH]; exact ExB.put (by simp)
      refine ⟨_, rfl, b, _, _, _, rfl, rfl, SqL.of hb1, i1 _ _ _, _, rfl, b, _, _, _, rfl, rfl, SqL.of hb1, i2 _ _ _, _, _, rfl, rfl, .inl (by decide), _, _, rfl, rfl, _, _, rfl, rfl, .inr (by decide), _, _, rfl, rfl, .inl ⟨_, rfl, _, _, rfl, rfl, (by show (2147483563 : Int) ≠ 0; decide), ?_⟩⟩
      refine ⟨_, rfl, _, _, rfl, rfl, .inr (by decide), _, _, rfl, rfl, .inl ⟨_, rfl, _, _, rfl, rfl, (by show (2147483629 : Int) ≠ 0; decide), _, _, rfl, rfl, _, rfl, b, _, _, 1, rfl, rfl, hb1, rfl, ?_⟩⟩
      generalize hH2 : upd H1 b _ = H2
      have e2 : ExB [b] H H2 := by rw [← hH2]; exact e1.trans (ExB.put (by simp))
      obtain ⟨s2, hb2⟩ : ∃ s2, H2 b = some (.lst [.int z, .int s2, .int (n + 1)]) := ⟨_, by rw [← hH2]; exact upd_same⟩
      refine ⟨_, rfl, _, _, rfl, rfl, .inr (by decide), _, rfl, b, _, _, _, rfl, rfl, SqL.of hb2, i1 _ _ _, _, _, rfl, rfl, _, _, rfl, rfl, ⟨by decide, by decide⟩, .inl ⟨_, rfl, _, rfl, _, _, rfl, rfl, (by omega), ?_⟩⟩
      exact k _ _ e2 ⟨_, _, _, hb2⟩ (fm m0).1 (fm m0).2
theorem ok_pick {f : Addr} {fd fdt : FuncData} (F : Fun K "_law_pick" "_law_pick" s__law_pick f fd) (T : Txt P K mg a) (G__law_take : FnOk P w K mg base CX0 1 a.take fdt ["box", "many"] spTake) (b__law_take : Binds K fdt ["box", "many"] []) : FnOk P w K mg base CX0 2 f fd ["box", "some"] spPick := by
  refine F.ok sc__law_pick (fun vs H Q E h => ?_) (fun cdv A outer s H vs Q E hr h => ?_)
  · obtain ⟨b, l, xs, rfl, _⟩ := h
    rfl
  · obtain ⟨b, l, xs, rfl, hb, hl, ne, x0, x1, k⟩ := h
    refine ⟨_, (pss_one (ps_ret (pe_ix (ix_listK (K := K) rfl) (pv 1) (pe_call G__law_take (hr.mono (by decide)) rfl T.g__law_take T.k__law_take b__law_take .nil pass0 (pa_cons (pv 0) (pa_cons (pe_callB (lenK (K := K) rfl) (by rfl) T.z_len (by decide +kernel) (pa_cons (pv 1) pa_nil)) pa_nil))) (fun _ _ => rfl)))), ?_⟩
    refine ⟨_, rfl, _, rfl, _, rfl, l, xs, rfl, .inl (SqL.of hl), b, _, rfl, hb, (by omega), (by omega), fun H' i e hb' h0 h1 => ?_⟩
    obtain ⟨j, rfl⟩ : ∃ j : Nat, i = (j : Int) := ⟨i.toNat, by omega⟩
    have hj : j < xs.length := by omega
    exact ⟨l, xs, _, _, rfl, rfl, SqL.of (e _ _ hl (by simp [ne])), atI_at (List.getElem?_eq_getElem hj), k _ _ e hb' (List.getElem_mem hj)⟩
theorem Eqd.kd {K : PySem.W.Frag} {H : Hp} : ∀ {n : Nat} {v u : V}, Eqd K H n v u → Kd K H v ∧ Kd K H u
  | 0, v, u, ⟨e, f⟩ => by
    subst e
    have : Kd K H v := by
      cases v <;> first | exact .inl rfl | exact .inr (.inl ⟨_, rfl⟩) | exact .inr (.inr (.inl ⟨_, rfl⟩)) | exact .inr (.inr (.inr (.inl ⟨_, rfl⟩))) | exact f.elim
    exact ⟨this, this⟩
  | n + 1, v, u, Or.inl ⟨e, f⟩ => by
    subst e
    have : Kd K H v := by
      cases v <;> first | exact .inl rfl | exact .inr (.inl ⟨_, rfl⟩) | exact .inr (.inr (.inl ⟨_, rfl⟩)) | exact .inr (.inr (.inr (.inl ⟨_, rfl⟩))) | exact f.elim
    exact ⟨this, this⟩
  | n + 1, _, _, Or.inr ⟨a, b, xs, ys, e1, e2, h1, h2, _, _⟩ => by
    subst e1; subst e2
    exact ⟨Kd.of_tup h1, Kd.of_tup h2⟩
/-- isinstance(v, str), isinstance(v, tuple) of flat values -/
def instS : V → Bool
  | .str _ => true
  | _ => false
theorem kd_ty {K : PySem.W.Frag} {H : Hp} {v : V} (f : Flat v) : ∃ t, TyX K H v t ∧ PySem.W.kitOne K t (.type "str") = some (instS v) ∧ PySem.W.kitOne K t (.type "tuple") = some false := by
  cases v with
  | non => exact ⟨_, .base .non, kit_ty (show kitB "NoneType" "str" = some false by decide +kernel), kit_ty (show kitB "NoneType" "tuple" = some false by decide +kernel)⟩
  | bl b => exact ⟨_, .base (.bl b), kit_ty (show kitB "bool" "str" = some false by decide +kernel), kit_ty (show kitB "bool" "tuple" = some false by decide +kernel)⟩
  | int i => exact ⟨_, .base (.int i), kit_ty (show kitB "int" "str" = some false by decide +kernel), kit_ty (show kitB "int" "tuple" = some false by decide +kernel)⟩
  | str x => exact ⟨_, .base (.str x), kit_ty (show kitB "str" "str" = some true by decide +kernel), kit_ty (show kitB "str" "tuple" = some false by decide +kernel)⟩
  | byt _ => exact f.elim
  | flt _ => exact f.elim
  | ref _ => exact f.elim
  | ty _ => exact f.elim
/-- the reading of the flat answers, whatever stands behind -/
theorem ok_same0 {f : Addr} {fd : FuncData} (F : Fun K "_law_same" "_law_same" s__law_same f fd) (T : Txt P K mg a) : FnOk P w K mg base CX0 1 f fd ["value", "due"] (spSame K 0) := by
  refine F.ok sc__law_same (fun vs H Q E h => ?_) (fun cdv A outer s H vs Q E hr h => ?_)
  · obtain ⟨v, u, rfl, _⟩ := h
    rfl
  · obtain ⟨v, u, rfl, ⟨rfl, fl⟩, k⟩ := h
    refine ⟨_, (pss_cons (ps_if (PW.pt (pw_or (pt_cmpR op_isN (pv 1) pe_non (nomark _)) (pw_or (pt_cmpR op_isAnyB (pv 1) pe_bl (nomark _)) (pw_or1 (pt_cmpR op_isAnyB (pv 1) pe_bl (nomark _)))))) (pss_one (ps_ret (pe_ix (ix_listK (K := K) rfl) (pe_lst (pa_cons (pe_cmpR op_isN (pv 0) pe_non (nomark _)) (pa_cons (pe_cmpR op_isAnyB (pv 0) pe_bl (nomark _)) (pa_cons (pe_cmpR op_isAnyB (pv 0) pe_bl (nomark _)) pa_nil)))) (pe_bmK (K := K) rfl PySem.F.plainAttrs_list PySem.F.slot_list_index PySem.F.type_list_index (indexK (K := K) rfl) (pe_lst (pa_cons pe_non (pa_cons pe_bl (pa_cons pe_bl pa_nil)))) (pa_cons (pv 1) pa_nil)) (fun _ _ => rfl)))) pss_nil)
    (pss_cons (ps_if (pt_val (pe_callB (isiK (K := K) rfl) (by rfl) T.z_isinstance (by decide +kernel) (pa_cons (pv 1) (pa_cons (pe_bltn (v := .ty "str") (u := .type "str") (by rfl) T.z_str (by decide +kernel) rfl) pa_nil)))) (pss_one (ps_ret (pe_and (pe_callB (isiK (K := K) rfl) (by rfl) T.z_isinstance (by decide +kernel) (pa_cons (pv 0) (pa_cons (pe_bltn (v := .ty "str") (u := .type "str") (by rfl) T.z_str (by decide +kernel) rfl) pa_nil))) (pe_one (pe_cmpR op_eq (pv 0) (pv 1) (nomark _)))))) pss_nil)
    (pss_cons (ps_if (pt_val (pe_callB (isiK (K := K) rfl) (by rfl) T.z_isinstance (by decide +kernel) (pa_cons (pv 1) (pa_cons (pe_bltn (v := .ty "int") (u := .type "int") (by rfl) T.z_int (by decide +kernel) rfl) pa_nil)))) (pss_one (ps_ret (pe_and (pe_callB (isiK (K := K) rfl) (by rfl) T.z_isinstance (by decide +kernel) (pa_cons (pv 0) (pa_cons (pe_bltn (v := .ty "int") (u := .type "int") (by rfl) T.z_int (by decide +kernel) rfl) pa_nil))) (pe_and (pe_not (pe_callB (isiK (K := K) rfl) (by rfl) T.z_isinstance (by decide +kernel) (pa_cons (pv 0) (pa_cons (pe_bltn (v := .ty "bool") (u := .type "bool") (by rfl) T.z_bool (by decide +kernel) rfl) pa_nil)))) (pe_one (pe_cmpR op_eq (pv 0) (pv 1) (nomark _))))))) pss_nil)
    (pss_cons (ps_if (PW.pt (pw_or (pt_not (pt_val (pe_callB (isiK (K := K) rfl) (by rfl) T.z_isinstance (by decide +kernel) (pa_cons (pv 0) (pa_cons (pe_bltn (v := .ty "tuple") (u := .type "tuple") (by rfl) T.z_tuple (by decide +kernel) rfl) pa_nil))))) (pw_or1 (pt_cmpR op_ne (pe_callB (lenK (K := K) rfl) (by rfl) T.z_len (by decide +kernel) (pa_cons (pv 0) pa_nil)) (pe_callB (lenK (K := K) rfl) (by rfl) T.z_len (by decide +kernel) (pa_cons (pv 1) pa_nil)) (nomark _))))) (pss_one (ps_ret pe_bl)) pss_nil)
    (pss_one ps_never))))), ?_⟩
    have six : ∀ (x y : V), ([x, y, y] : List V).length ≤ sizeLine := fun _ _ => (by show 3 ≤ sizeLine; decide)
    cases v with
    | non =>
      refine ⟨_, rfl, rfl, _, rfl, ?_⟩
      refine ⟨_, rfl, rfl, _, rfl, _, rfl, _, rfl, _, rfl, (by show 3 ≤ sizeLine; decide), fun p hp => ?_⟩
      refine ⟨(by show 3 ≤ sizeLine; decide), fun p2 hp2 => ⟨.inl ⟨rfl, _, SqL.of upd_same⟩, _, rfl, p2, _, _, 0, .non, rfl, rfl, SqL.of upd_same, rfl, rfl, rfl, rfl, (fun m z hm _ => absurd hm (by omega)), p, _, _, _, rfl, rfl, SqL.of (by rw [upd_ne (ne_of_none upd_same hp2)]; exact upd_same), rfl, ?_⟩⟩
      exact k _ ((Same.new hp).trans (Same.new hp2))
    | bl b =>
      cases b with
      | true =>
        refine ⟨_, rfl, rfl, _, rfl, _, rfl, _, rfl, _, rfl, ?_⟩
        refine ⟨_, rfl, rfl, _, rfl, _, rfl, _, rfl, _, rfl, (by show 3 ≤ sizeLine; decide), fun p hp => ?_⟩
        refine ⟨(by show 3 ≤ sizeLine; decide), fun p2 hp2 => ⟨.inl ⟨rfl, _, SqL.of upd_same⟩, _, rfl, p2, _, _, 1, .bl true, rfl, rfl, SqL.of upd_same, rfl, rfl, rfl, rfl, (fun m z hm hz => by (have : m = 0 := by omega); subst this; cases hz; rfl), p, _, _, _, rfl, rfl, SqL.of (by rw [upd_ne (ne_of_none upd_same hp2)]; exact upd_same), rfl, ?_⟩⟩
        exact k _ ((Same.new hp).trans (Same.new hp2))
      | false =>
        refine ⟨_, rfl, rfl, _, rfl, _, rfl, _, rfl, _, rfl, _, rfl, _, rfl, _, rfl, ?_⟩
        refine ⟨_, rfl, rfl, _, rfl, _, rfl, _, rfl, _, rfl, (by show 3 ≤ sizeLine; decide), fun p hp => ?_⟩
        refine ⟨(by show 3 ≤ sizeLine; decide), fun p2 hp2 => ⟨.inl ⟨rfl, _, SqL.of upd_same⟩, _, rfl, p2, _, _, 2, .bl false, rfl, rfl, SqL.of upd_same, rfl, rfl, rfl, rfl, (fun m z hm hz => by rcases (show m = 0 ∨ m = 1 by omega) with rfl | rfl <;> (cases hz; rfl)), p, _, _, _, rfl, rfl, SqL.of (by rw [upd_ne (ne_of_none upd_same hp2)]; exact upd_same), rfl, ?_⟩⟩
        exact k _ ((Same.new hp).trans (Same.new hp2))
    | str x =>
      refine ⟨_, rfl, rfl, _, rfl, _, rfl, _, rfl, _, rfl, _, rfl, _, rfl, _, rfl, ?_⟩
      refine ⟨_, rfl, _, _, _, _, _, rfl, .ty _, .base (.str x), kit_ty (show kitB "str" "str" = some true by decide +kernel), _, rfl, ?_⟩
      refine ⟨_, rfl, _, _, _, _, _, rfl, .ty _, .base (.str x), kit_ty (show kitB "str" "str" = some true by decide +kernel), _, rfl, _, rfl, _, rfl, rfl, ?_⟩
      rw [decide_eq_true rfl]
      exact k _ (fun _ _ e => e)
    | int i =>
      refine ⟨_, rfl, rfl, _, rfl, _, rfl, _, rfl, _, rfl, _, rfl, _, rfl, _, rfl, ?_⟩
      refine ⟨_, rfl, _, _, _, _, _, rfl, .ty _, .base (.int i), kit_ty (show kitB "int" "str" = some false by decide +kernel), _, rfl, ?_⟩
      refine ⟨_, rfl, _, _, _, _, _, rfl, .ty _, .base (.int i), kit_ty (show kitB "int" "int" = some true by decide +kernel), _, rfl, ?_⟩
      refine ⟨_, rfl, _, _, _, _, _, rfl, .ty _, .base (.int i), kit_ty (show kitB "int" "int" = some true by decide +kernel), _, rfl, ?_⟩
      refine ⟨_, rfl, _, _, _, _, _, rfl, .ty _, .base (.int i), kit_ty (show kitB "int" "bool" = some false by decide +kernel), _, rfl, _, rfl, _, rfl, _, rfl, rfl, ?_⟩
      rw [decide_eq_true rfl]
      exact k _ (fun _ _ e => e)
    | byt _ => exact fl.elim
    | flt _ => exact fl.elim
    | ref _ => exact fl.elim
    | ty _ => exact fl.elim
theorem ok_same {fd : FuncData} (F : Fun K "_law_same" "_law_same" s__law_same a.same fd) (T : Txt P K mg a) (b__law_same : Binds K fd ["value", "due"] []) : ∀ n, FnOk P w K mg base CX0 (n + 1) a.same fd ["value", "due"] (spSame K n)
  | 0 => ok_same0 F T
  | n + 1 => by
    have G__law_same : FnOk P w K mg base CX0 (n + 1) a.same fd ["value", "due"] (spSame K n) := ok_same F T b__law_same n
    refine F.ok sc__law_same (fun vs H Q E h => ?_) (fun cdv A outer s H vs Q E hr h => ?_)
    · obtain ⟨v, u, rfl, _⟩ := h
      rfl
    have hle : n + 1 ≤ n + 1 := Nat.le_refl _
    obtain ⟨v, u, rfl, h, k⟩ := h
    refine ⟨_, (pss_cons (ps_if (PW.pt (pw_or (pt_cmpR op_isN (pv 1) pe_non (nomark _)) (pw_or (pt_cmpR op_isAnyB (pv 1) pe_bl (nomark _)) (pw_or1 (pt_cmpR op_isAnyB (pv 1) pe_bl (nomark _)))))) (pss_one (ps_ret (pe_ix (ix_listK (K := K) rfl) (pe_lst (pa_cons (pe_cmpR op_isN (pv 0) pe_non (nomark _)) (pa_cons (pe_cmpR op_isAnyB (pv 0) pe_bl (nomark _)) (pa_cons (pe_cmpR op_isAnyB (pv 0) pe_bl (nomark _)) pa_nil)))) (pe_bmK (K := K) rfl PySem.F.plainAttrs_list PySem.F.slot_list_index PySem.F.type_list_index (indexK (K := K) rfl) (pe_lst (pa_cons pe_non (pa_cons pe_bl (pa_cons pe_bl pa_nil)))) (pa_cons (pv 1) pa_nil)) (fun _ _ => rfl)))) pss_nil)
    (pss_cons (ps_if (pt_val (pe_callB (isiK (K := K) rfl) (by rfl) T.z_isinstance (by decide +kernel) (pa_cons (pv 1) (pa_cons (pe_bltn (v := .ty "str") (u := .type "str") (by rfl) T.z_str (by decide +kernel) rfl) pa_nil)))) (pss_one (ps_ret (pe_and (pe_callB (isiK (K := K) rfl) (by rfl) T.z_isinstance (by decide +kernel) (pa_cons (pv 0) (pa_cons (pe_bltn (v := .ty "str") (u := .type "str") (by rfl) T.z_str (by decide +kernel) rfl) pa_nil))) (pe_one (pe_cmpR op_eq (pv 0) (pv 1) (nomark _)))))) pss_nil)
    (pss_cons (ps_if (pt_val (pe_callB (isiK (K := K) rfl) (by rfl) T.z_isinstance (by decide +kernel) (pa_cons (pv 1) (pa_cons (pe_bltn (v := .ty "int") (u := .type "int") (by rfl) T.z_int (by decide +kernel) rfl) pa_nil)))) (pss_one (ps_ret (pe_and (pe_callB (isiK (K := K) rfl) (by rfl) T.z_isinstance (by decide +kernel) (pa_cons (pv 0) (pa_cons (pe_bltn (v := .ty "int") (u := .type "int") (by rfl) T.z_int (by decide +kernel) rfl) pa_nil))) (pe_and (pe_not (pe_callB (isiK (K := K) rfl) (by rfl) T.z_isinstance (by decide +kernel) (pa_cons (pv 0) (pa_cons (pe_bltn (v := .ty "bool") (u := .type "bool") (by rfl) T.z_bool (by decide +kernel) rfl) pa_nil)))) (pe_one (pe_cmpR op_eq (pv 0) (pv 1) (nomark _))))))) pss_nil)
    (pss_cons (ps_if (PW.pt (pw_or (pt_not (pt_val (pe_callB (isiK (K := K) rfl) (by rfl) T.z_isinstance (by decide +kernel) (pa_cons (pv 0) (pa_cons (pe_bltn (v := .ty "tuple") (u := .type "tuple") (by rfl) T.z_tuple (by decide +kernel) rfl) pa_nil))))) (pw_or1 (pt_cmpR op_ne (pe_callB (lenK (K := K) rfl) (by rfl) T.z_len (by decide +kernel) (pa_cons (pv 0) pa_nil)) (pe_callB (lenK (K := K) rfl) (by rfl) T.z_len (by decide +kernel) (pa_cons (pv 1) pa_nil)) (nomark _))))) (pss_one (ps_ret pe_bl)) pss_nil)
    (pss_one (ps_ret (pe_callB (allK (K := K) rfl rfl) (by rfl) T.z_all (by decide +kernel) (pa_cons (pe_lc (own := [("at", 2)]) (g := gName 2) (tt := tYes) (by rfl) sc__law_same.nd (pi_range1 rfl T.z_range (pa_cons (pe_callB (lenK (K := K) rfl) (by rfl) T.z_len (by decide +kernel) (pa_cons (pv 1) pa_nil)) pa_nil)) (blkOk_by (own := [("at", 2)]) (N := ["value", "due", "at"]) (sc := defScope s__law_same) (by decide +kernel)) (fun _ _ _ _ _ => (pg_name (i := 2) sc__law_same.nd rfl (Or.inl rfl))) (fun _ _ _ _ _ => pts_nil) (fun _ _ _ _ _ => (pe_call G__law_same (hr.mono hle) rfl T.g__law_same T.k__law_same b__law_same .nil pass0 (pa_cons (pe_ix (ix_tupK (K := K) rfl) (pv 0) (pv 2) (fun _ _ => rfl)) (pa_cons (pe_ix (ix_tupK (K := K) rfl) (pv 1) (pv 2) (fun _ _ => rfl)) pa_nil))))) pa_nil)))))))), ?_⟩
    rcases h with ⟨rfl, fl⟩ | ⟨p, q, xs, ys, rfl, rfl, hx, hy, ⟨hl, hsz⟩, hh⟩
    · have six : ∀ (x y : V), ([x, y, y] : List V).length ≤ sizeLine := fun _ _ => (by show 3 ≤ sizeLine; decide)
      cases v with
      | non =>
        refine ⟨_, rfl, rfl, _, rfl, ?_⟩
        refine ⟨_, rfl, rfl, _, rfl, _, rfl, _, rfl, _, rfl, (by show 3 ≤ sizeLine; decide), fun p hp => ?_⟩
        refine ⟨(by show 3 ≤ sizeLine; decide), fun p2 hp2 => ⟨.inl ⟨rfl, _, SqL.of upd_same⟩, _, rfl, p2, _, _, 0, .non, rfl, rfl, SqL.of upd_same, rfl, rfl, rfl, rfl, (fun m z hm _ => absurd hm (by omega)), p, _, _, _, rfl, rfl, SqL.of (by rw [upd_ne (ne_of_none upd_same hp2)]; exact upd_same), rfl, ?_⟩⟩
        exact k _ ((Same.new hp).trans (Same.new hp2))
      | bl b =>
        cases b with
        | true =>
          refine ⟨_, rfl, rfl, _, rfl, _, rfl, _, rfl, _, rfl, ?_⟩
          refine ⟨_, rfl, rfl, _, rfl, _, rfl, _, rfl, _, rfl, (by show 3 ≤ sizeLine; decide), fun p hp => ?_⟩
          refine ⟨(by show 3 ≤ sizeLine; decide), fun p2 hp2 => ⟨.inl ⟨rfl, _, SqL.of upd_same⟩, _, rfl, p2, _, _, 1, .bl true, rfl, rfl, SqL.of upd_same, rfl, rfl, rfl, rfl, (fun m z hm hz => by (have : m = 0 := by omega); subst this; cases hz; rfl), p, _, _, _, rfl, rfl, SqL.of (by rw [upd_ne (ne_of_none upd_same hp2)]; exact upd_same), rfl, ?_⟩⟩
          exact k _ ((Same.new hp).trans (Same.new hp2))
        | false =>
          refine ⟨_, rfl, rfl, _, rfl, _, rfl, _, rfl, _, rfl, _, rfl, _, rfl, _, rfl, ?_⟩
          refine ⟨_, rfl, rfl, _, rfl, _, rfl, _, rfl, _, rfl, (by show 3 ≤ sizeLine; decide), fun p hp => ?_⟩
          refine ⟨(by show 3 ≤ sizeLine; decide), fun p2 hp2 => ⟨.inl ⟨rfl, _, SqL.of upd_same⟩, _, rfl, p2, _, _, 2, .bl false, rfl, rfl, SqL.of upd_same, rfl, rfl, rfl, rfl, (fun m z hm hz => by rcases (show m = 0 ∨ m = 1 by omega) with rfl | rfl <;> (cases hz; rfl)), p, _, _, _, rfl, rfl, SqL.of (by rw [upd_ne (ne_of_none upd_same hp2)]; exact upd_same), rfl, ?_⟩⟩
          exact k _ ((Same.new hp).trans (Same.new hp2))
      | str x =>
        refine ⟨_, rfl, rfl, _, rfl, _, rfl, _, rfl, _, rfl, _, rfl, _, rfl, _, rfl, ?_⟩
        refine ⟨_, rfl, _, _, _, _, _, rfl, .ty _, .base (.str x), kit_ty (show kitB "str" "str" = some true by decide +kernel), _, rfl, ?_⟩
        refine ⟨_, rfl, _, _, _, _, _, rfl, .ty _, .base (.str x), kit_ty (show kitB "str" "str" = some true by decide +kernel), _, rfl, _, rfl, _, rfl, rfl, ?_⟩
        rw [decide_eq_true rfl]
        exact k _ (fun _ _ e => e)
      | int i =>
        refine ⟨_, rfl, rfl, _, rfl, _, rfl, _, rfl, _, rfl, _, rfl, _, rfl, _, rfl, ?_⟩
        refine ⟨_, rfl, _, _, _, _, _, rfl, .ty _, .base (.int i), kit_ty (show kitB "int" "str" = some false by decide +kernel), _, rfl, ?_⟩
        refine ⟨_, rfl, _, _, _, _, _, rfl, .ty _, .base (.int i), kit_ty (show kitB "int" "int" = some true by decide +kernel), _, rfl, ?_⟩
        refine ⟨_, rfl, _, _, _, _, _, rfl, .ty _, .base (.int i), kit_ty (show kitB "int" "int" = some true by decide +kernel), _, rfl, ?_⟩
        refine ⟨_, rfl, _, _, _, _, _, rfl, .ty _, .base (.int i), kit_ty (show kitB "int" "bool" = some false by decide +kernel), _, rfl, _, rfl, _, rfl, _, rfl, rfl, ?_⟩
        rw [decide_eq_true rfl]
        exact k _ (fun _ _ e => e)
      | byt _ => exact fl.elim
      | flt _ => exact fl.elim
      | ref _ => exact fl.elim
      | ty _ => exact fl.elim

    · refine ⟨_, rfl, rfl, _, rfl, _, rfl, _, rfl, _, rfl, _, rfl, _, rfl, _, rfl, ?_⟩
      refine ⟨_, rfl, _, _, _, _, _, rfl, .ty _, hy.ty, kit_ty (show kitB "tuple" "str" = some false by decide +kernel), _, rfl, ?_⟩
      refine ⟨_, rfl, _, _, _, _, _, rfl, .ty _, hy.ty, kit_ty (show kitB "tuple" "int" = some false by decide +kernel), _, rfl, ?_⟩
      refine ⟨_, rfl, _, _, _, _, _, rfl, .ty _, hx.ty, kit_ty (show kitB "tuple" "tuple" = some true by decide +kernel), _, rfl, ?_⟩
      refine ⟨_, rfl, p, xs, rfl, .inr hx, _, rfl, q, ys, rfl, .inr hy, rfl, _, rfl, ?_⟩
      rw [hl]
      refine iteNS rfl ?_
      have hyl : ys.length ≤ 100000 := hsz
      refine ⟨_, rfl, q, ys, rfl, .inr hy, _, rfl, (by omega), (by omega), fun D hD => lc_range (lo := 0) (n := (ys.length : Int).toNat) (fun i H' => Same H H' ∧ H' D = some (.lst (List.replicate i (.bl true)))) ⟨Same.new hD, upd_same⟩ ?_ ?_⟩
      · rintro i H' hi ⟨e, hD'⟩
        have hiy : i < ys.length := by omega
        have hix : i < xs.length := by omega
        refine ⟨rfl, _, rfl, _, rfl, p, _, _, _, rfl, rfl, e.sqT hx, (by rw [show (0 + (i : Int)) = (i : Int) by omega]; exact atI_at (List.getElem?_eq_getElem hix)), _, rfl, _, rfl, q, _, _, _, rfl, rfl, e.sqT hy, (by rw [show (0 + (i : Int)) = (i : Int) by omega]; exact atI_at (List.getElem?_eq_getElem hiy)), _, _, rfl, (hh i _ _ (List.getElem?_eq_getElem hix) (List.getElem?_eq_getElem hiy)).keep fun b zs h => e.sqT h, fun H2 e2 => ⟨_, e2 _ _ hD', ?_, ?_, ?_⟩⟩
        · rw [List.length_replicate]; exact Nat.lt_of_lt_of_le (by omega : i < 100000) (by decide)
        · intro b o hb
          rw [upd_ne (ne_of_none hb hD)]
          exact e2 _ _ (e _ _ hb)
        · rw [upd_same, List.replicate_succ']
      · rintro H' ⟨e, hD'⟩
        refine ⟨D, List.replicate (ys.length : Int).toNat true, rfl, SqL.of (by rw [List.map_replicate]; exact hD'), ?_⟩
        rw [show (List.replicate (ys.length : Int).toNat true).all id = true by rw [List.all_eq_true]; intro b hb; rw [(List.mem_replicate.mp hb).2]; rfl]
        exact k _ e
end
end K69

namespace K69
open PySem PySem.Spec PyProof.Rows L2
abbrev s__law_seen_at : Stmt := top 21
theorem sc__law_seen_at : FnScope ["own", "at", "found", "place", "row"] ["own", "at"] (defScope s__law_seen_at) := ⟨rfl, rfl, rfl, by decide +kernel, rfl, by decide +kernel, by decide +kernel⟩
abbrev s__law_fall : Stmt := top 22
theorem sc__law_fall : FnScope ["own", "kept", "torn", "place", "at", "row"] ["own", "kept", "torn"] (defScope s__law_fall) := ⟨rfl, rfl, rfl, by decide +kernel, rfl, by decide +kernel, by decide +kernel⟩
theorem Same.put {H H1 : Hp} {p : Addr} {o : HO} (e : Same H H1) (h : H p = none) : Same H (upd H1 p o) := fun a u ha => by
  rw [upd_ne (ne_of_none ha h)]; exact e _ _ ha
theorem ExB.putN {S : List Addr} {H H1 : Hp} {p : Addr} {o : HO} (e : ExB S H H1) (h : H p = none) : ExB S H (upd H1 p o) := fun a u ha n => by
  rw [upd_ne (ne_of_none ha h)]; exact e _ _ ha n
theorem int_at {ns : List Int} {i : Nat} {y : V} (h : (ns.map V.int)[i]? = some y) : ∃ z, ns[i]? = some z ∧ y = V.int z := by
  rw [List.getElem?_map] at h
  cases e : ns[i]? with
  | none => rw [e] at h; cases h
  | some z => rw [e] at h; exact ⟨z, rfl, (Option.some.inj h).symm⟩
/-- the law's own lists at o -/
structure OwnAt (K : PySem.W.Frag) (H : Hp) (o l0 l1 : Addr) (os : List V) (ws : List (Nat × V)) : Prop where
  obj : H o = some (.lst [.ref l0, .ref l1])
  cel : H l0 = some (.lst os)
  que : ∃ wv, H l1 = some (.lst wv) ∧ QRep K H wv ws
  n01 : l0 ≠ l1
  no0 : o ≠ l0
  no1 : o ≠ l1
  big : os.length ≤ 400
  few : ws.length ≤ 10000
  bnd : ∀ p ∈ ws, p.1 < os.length
theorem OwnAt.keep {K : PySem.W.Frag} {H H1 : Hp} {o l0 l1 : Addr} {os : List V} {ws : List (Nat × V)} {S : List Addr} (D : OwnAt K H o l0 l1 os ws) (e : ExB S H H1) (n : NoT S H) (h1 : o ∉ S) (h2 : l0 ∉ S) (h3 : l1 ∉ S) : OwnAt K H1 o l0 l1 os ws := by
  obtain ⟨a, b, ⟨qv, c, r⟩, x1, x2, x3, bi, fe, bn⟩ := D
  exact ⟨e _ _ a h1, e _ _ b h2, ⟨qv, e _ _ c h3, r.keep fun _ _ h => e.sqT n h⟩, x1, x2, x3, bi, fe, bn⟩
theorem OwnAt.same {K : PySem.W.Frag} {H H1 : Hp} {o l0 l1 : Addr} {os : List V} {ws : List (Nat × V)} (D : OwnAt K H o l0 l1 os ws) (e : Same H H1) : OwnAt K H1 o l0 l1 os ws :=
  D.keep (S := []) (ExB.of e) noT_nil (by simp) (by simp) (by simp)
def CellsEq (K : PySem.W.Frag) (H : Hp) (cs os : List V) : Prop := cs.length = os.length ∧ ∀ (i : Nat) (v u : V), cs[i]? = some v → os[i]? = some u → Eqd K H 3 v u
def QEq (K : PySem.W.Frag) (H : Hp) (qs ws : List (Nat × V)) : Prop := qs.length = ws.length ∧ ∀ (i : Nat) (p q : Nat × V), qs[i]? = some p → ws[i]? = some q → p.1 = q.1 ∧ Eqd K H 3 p.2 q.2
theorem CellsEq.keep {K : PySem.W.Frag} {H H1 : Hp} {cs os : List V} (k : ∀ a xs, SqT K H a xs → SqT K H1 a xs) (h : CellsEq K H cs os) : CellsEq K H1 cs os := ⟨h.1, fun i v u a b => (h.2 i v u a b).keep k⟩
theorem QEq.keep {K : PySem.W.Frag} {H H1 : Hp} {qs ws : List (Nat × V)} (k : ∀ a xs, SqT K H a xs → SqT K H1 a xs) (h : QEq K H qs ws) : QEq K H1 qs ws := ⟨h.1, fun i v u a b => ⟨(h.2 i v u a b).1, (h.2 i v u a b).2.keep k⟩⟩
theorem CellsEq.set {K : PySem.W.Frag} {H : Hp} {cs os : List V} {v u : V} (h : CellsEq K H cs os) (e : Eqd K H 3 v u) (i : Nat) : CellsEq K H (cs.set i v) (os.set i u) := by
  refine ⟨by simp [h.1], fun j x y hx hy => ?_⟩
  rw [List.getElem?_set] at hx hy
  by_cases c : i = j
  · rw [if_pos c] at hx hy
    split at hx
    · split at hy
      · cases hx; cases hy; exact e
      · cases hy
    · cases hx
  · rw [if_neg c] at hx hy
    exact h.2 j x y hx hy
theorem readV_eq {K : PySem.W.Frag} {H : Hp} {cs os : List V} (hc : CellsEq K H cs os) {qs ws : List (Nat × V)} (hq : QEq K H qs ws) {i : Nat} (hi : i < cs.length) : ∀ n, n ≤ qs.length → Eqd K H 3 (readV cs (qs.take n) i) (readV os (ws.take n) i)
  | 0, _ => by
    have h1 : cs[i]? = some (cs.getD i .non) := by rw [List.getD_eq_getElem?_getD, List.getElem?_eq_getElem hi]; rfl
    have h2 : os[i]? = some (os.getD i .non) := by rw [List.getD_eq_getElem?_getD, List.getElem?_eq_getElem (by rw [← hc.1]; exact hi)]; rfl
    simpa [readV] using hc.2 i _ _ h1 h2
  | n + 1, hn => by
    have h1 : qs[n]? = some (qs[n]) := List.getElem?_eq_getElem (by omega)
    have h2 : ws[n]? = some (ws[n]'(by have := hq.1; omega)) := List.getElem?_eq_getElem (by have := hq.1; omega)
    obtain ⟨e1, e2⟩ := hq.2 n _ _ h1 h2
    rw [readV_more h1, readV_more h2, ← e1]
    split
    · exact e2
    · exact readV_eq hc hq hi n (by omega)
def spSeen (K : PySem.W.Frag) : Sp := fun vs H Q _ => ∃ (o l0 l1 : Addr) (os : List V) (ws : List (Nat × V)) (i : Nat), vs = [.ref o, .int i] ∧ OwnAt K H o l0 l1 os ws ∧ i < os.length ∧ ∀ H', Same H H' → Q (readV os ws i) H'
/-- a list or a tuple of ints -/
def Ints (K : PySem.W.Frag) (H : Hp) (v : V) (ks : List Int) : Prop := ∃ a : Addr, v = .ref a ∧ (SqL K H a (ks.map V.int) ∨ SqT K H a (ks.map V.int))
theorem Same.sqL {K : PySem.W.Frag} {H H1 : Hp} (e : Same H H1) {a : Addr} {xs : List V} (h : SqL K H a xs) : SqL K H1 a xs := by
  rcases h with (h | ⟨o, h⟩) | h
  · exact .inl (.inl (e _ _ h))
  · exact .inl (.inr ⟨o, e _ _ h⟩)
  · exact .inr h
/-- what of a list's items stands though S changes -/
def spFall (K : PySem.W.Frag) (TN : Addr) : Sp := fun vs H Q _ => ∃ (o l0 l1 : Addr) (os cs : List V) (ws qs : List (Nat × V)) (k t : Addr) (ks ts : List Int), vs = [.ref o, .ref k, .ref t] ∧ OwnAt K H o l0 l1 os ws ∧ CellsEq K H cs os ∧ QEq K H qs ws ∧
  (H k = some (.lst (ks.map V.int)) ∨ H k = some (.tup (ks.map V.int))) ∧ (H t = some (.lst (ts.map V.int)) ∨ H t = some (.tup (ts.map V.int))) ∧ k ≠ l0 ∧ t ≠ l0 ∧
  ∀ (H' : Hp) (l : Addr) (os' : List V), H l = none → ExB [o, l0] H H' → OwnAt K H' o l0 l os' [] → CellsEq K H' (fallN (fun i => decide ((i : Int) ∈ ks)) (fun i => decide ((i : Int) ∈ ts)) (.ref TN) cs qs qs.length) os' → Q .non H'
section
variable {P : Program} {w : World} {K : PySem.W.Frag} {mg : Str → Option Value} {base : Heap} {a : Ad}
theorem ok_seen {f : Addr} {fd : FuncData} (F : Fun K "_law_seen_at" "_law_seen_at" s__law_seen_at f fd) (T : Txt P K mg a) : FnOk P w K mg base CX0 1 f fd ["own", "at"] (spSeen K) := by
  refine F.ok sc__law_seen_at (fun vs H Q E h => ?_) (fun cdv A outer s H vs Q E hr h => ?_)
  · obtain ⟨o, l0, l1, os, ws, i, rfl, _⟩ := h
    rfl
  · obtain ⟨o, l0, l1, os, ws, i, rfl, D, hi, k⟩ := h
    refine ⟨_, (pss_cons (ps_set (i := 2) sc__law_seen_at.nd rfl (Or.inl rfl) (pe_ix (ix_listK (K := K) rfl) (pe_ix (ix_listK (K := K) rfl) (pv 0) pe_int (fun _ _ => rfl)) (pv 1) (fun _ _ => rfl)))
    (pss_cons (ps_for PassesOwn.never rfl (piListK (K := K) rfl (pe_ix (ix_listK (K := K) rfl) (pv 0) pe_int (fun _ _ => rfl))) (pg_tup (by rfl) (pgs_cons (pg_name (i := 3) sc__law_seen_at.nd rfl (Or.inl rfl)) (pgs_cons (pg_name (i := 4) sc__law_seen_at.nd rfl (Or.inl rfl)) pgs_nil)))
      (pss_one (ps_if (pt_cmpR op_eq (pv 3) (pv 1) (nomark _)) (pss_one (ps_set (i := 2) sc__law_seen_at.nd rfl (Or.inl rfl) (pv 4))) pss_nil)))
    (pss_one (ps_ret (pv 2))))), ?_⟩
    obtain ⟨wv, hwv, rq⟩ := D.que
    have hci : os[i]? = some (os.getD i .non) := by rw [List.getD_eq_getElem?_getD, List.getElem?_eq_getElem hi]; rfl
    refine ⟨_, rfl, o, _, 0, _, rfl, rfl, SqL.of D.obj, rfl, _, rfl, l0, _, _, _, rfl, rfl, SqL.of D.cel, atI_at hci, ?_⟩
    refine ⟨_, rfl, o, _, 1, _, rfl, rfl, SqL.of D.obj, rfl, l1, rfl, ⟨_, SqL.of hwv⟩, for_list (K := K) (a := l1) (xs := wv)
        (fun j σ H' => H' = H ∧ ∃ u v, σ = [some (.ref o), some (.int i), some (readV os (ws.take j) i), u, v]) ⟨rfl, none, none, rfl⟩ (fun j σ H' _ hp => by rw [hp.1]; exact SqL.of hwv) ?_ ?_⟩
    · rintro j y σ H' hj ⟨rfl, u, v, rfl⟩
      have hjl : j < ws.length := by rw [← rq.1]; exact (List.getElem?_eq_some_iff.mp hj).1
      have hp : ws[j]? = some (ws[j]) := List.getElem?_eq_getElem hjl
      obtain ⟨t, e1, e2⟩ := rq.2 j _ hp
      rw [hj] at e1
      cases e1
      refine ⟨t, _, rfl, e2, rfl, _, _, rfl, _, _, rfl, rfl, ?_⟩
      refine ⟨_, rfl, _, rfl, rfl, _, rfl, ?_⟩
      refine ite2 (fun c => ?_) (fun c => ?_)
      · have c : (ws[j]).1 = i := by simp at c; omega
        refine ⟨_, rfl, rfl, some (.int (ws[j]).1), some (ws[j]).2, ?_⟩
        rw [readV_more hp, if_pos c]
        rfl
      · have c : ¬ (ws[j]).1 = i := by simp at c; omega
        refine ⟨rfl, some (.int (ws[j]).1), some (ws[j]).2, ?_⟩
        rw [readV_more hp, if_neg c]
        rfl
    · rintro σ H' ⟨rfl, u, v, rfl⟩
      refine ⟨_, rfl, ?_⟩
      rw [rq.1, List.take_length]
      exact k _ (fun _ _ e => e)
theorem ok_fall {f : Addr} {fd : FuncData} (F : Fun K "_law_fall" "_law_fall" s__law_fall f fd) (T : Txt P K mg a) : FnOk P w K mg base CX0 1 f fd ["own", "kept", "torn"] (spFall K a.TORN) := by
  refine F.ok sc__law_fall (fun vs H Q E h => ?_) (fun cdv A outer s H vs Q E hr h => ?_)
  · obtain ⟨o, l0, l1, os, cs, ws, qs, k, t, ks, ts, rfl, _⟩ := h
    rfl
  · obtain ⟨o, l0, l1, os, cs, ws, qs, k, t, ks, ts, rfl, D, hc, hq, hk, ht, nk, nt', q⟩ := h
    refine ⟨_, (pss_cons (ps_for PassesOwn.never rfl (pi_range1 rfl T.z_range (pa_cons (pe_callB (lenK (K := K) rfl) (by rfl) T.z_len (by decide +kernel) (pa_cons (pe_ix (ix_listK (K := K) rfl) (pv 0) pe_int (fun _ _ => rfl)) pa_nil)) pa_nil)) (pg_name (i := 3) sc__law_fall.nd rfl (Or.inl rfl))
      (pss_cons (ps_asg (pe_ix (ix_listK (K := K) rfl) (pe_ix (ix_listK (K := K) rfl) (pv 0) pe_int (fun _ _ => rfl)) (pv 3) (fun _ _ => rfl)) (pg_tup (by rfl) (pgs_cons (pg_name (i := 4) sc__law_fall.nd rfl (Or.inl rfl)) (pgs_cons (pg_name (i := 5) sc__law_fall.nd rfl (Or.inl rfl)) pgs_nil))))
    (pss_one (ps_if (pt_cmpR (inK (K := K) rfl) (pv 3) (pv 1) rfl) (pss_one (ps_asg (pv 5) (pg_sub (pe_ix (ix_listK (K := K) rfl) (pv 0) pe_int (fun _ _ => rfl)) (pv 4) set_list))) (pss_one (ps_if (pt_cmpR (inK (K := K) rfl) (pv 3) (pv 2) rfl) (pss_one (ps_asg (pe_tup (pa_cons pe_str pa_nil)) (pg_sub (pe_ix (ix_listK (K := K) rfl) (pv 0) pe_int (fun _ _ => rfl)) (pv 4) set_list))) pss_nil))))))
    (pss_one (ps_asg (pe_lst pa_nil) (pg_sub (pv 0) pe_int set_list)))), ?_⟩
    obtain ⟨wv, hwv, rq⟩ := D.que
    have few := D.few
    have nt : NoT [l0] H := noT_lst D.cel (fun _ h => nomatch h)
    refine ⟨_, rfl, o, _, 1, _, rfl, rfl, SqL.of D.obj, rfl, l1, _, rfl, .inl (SqL.of hwv), _, rfl, (by omega), (by rw [rq.1]; omega), for_range (lo := 0) (n := (wv.length : Int).toNat)
      (fun j σ H' => ExB [l0] H H' ∧ (∃ os', H' l0 = some (.lst os') ∧ CellsEq K H' (fallN (fun i => decide ((i : Int) ∈ ks)) (fun i => decide ((i : Int) ∈ ts)) (.ref a.TORN) cs qs j) os') ∧ ∃ x u v, σ = [some (.ref o), some (.ref k), some (.ref t), x, u, v])
      ⟨fun _ _ e _ => e, ⟨os, D.cel, hc⟩, none, none, none, rfl⟩ ?_ ?_⟩
    · rintro j σ H' hj ⟨ex, ⟨os', hc', ceq⟩, x, u, v, rfl⟩
      have hjl : j < ws.length := by rw [← rq.1]; omega
      have hjq : j < qs.length := by rw [hq.1]; exact hjl
      have hp : ws[j]? = some (ws[j]) := List.getElem?_eq_getElem hjl
      have hpq : qs[j]? = some (qs[j]) := List.getElem?_eq_getElem hjq
      obtain ⟨t1, q1, q2⟩ := rq.2 j _ hp
      obtain ⟨p1, p2⟩ := hq.2 j _ _ hpq hp
      have len' : os'.length = os.length := by rw [← ceq.1, fallN_len, hc.1]
      have e1 : H' l1 = some (.lst wv) := ex _ _ hwv (by simp [D.n01.symm])
      have eo : H' o = some (.lst [.ref l0, .ref l1]) := ex _ _ D.obj (by simp [D.no0])
      have hkk : SqL K H' k (ks.map V.int) ∨ SqT K H' k (ks.map V.int) := by
        rcases hk with h | h
        · exact .inl (SqL.of (ex _ _ h (by simp [nk])))
        · exact .inr (SqT.of (ex _ _ h (by simp [nk])))
      have htt : SqL K H' t (ts.map V.int) ∨ SqT K H' t (ts.map V.int) := by
        rcases ht with h | h
        · exact .inl (SqL.of (ex _ _ h (by simp [nt'])))
        · exact .inr (SqT.of (ex _ _ h (by simp [nt'])))
      have j0 : (0 + (j : Int)) = (j : Int) := by omega
      refine ⟨_, rfl, o, _, 1, _, rfl, rfl, SqL.of eo, rfl, _, rfl, l1, _, _, _, rfl, rfl, SqL.of e1, (by rw [j0]; exact atI_at q1), t1, _, rfl, ex.sqT nt q2, rfl, _, _, rfl, _, _, rfl, rfl, ?_⟩
      have nt2 : NoT [l0] H' := noT_lst hc' (fun _ h => nomatch h)
      have eqd' : Eqd K H' 3 (qs[j]).2 (ws[j]).2 := p2.keep fun b ys h => ex.sqT nt h
      have fin : ∀ (H5 : Hp) (c c' : List V), H5 = upd H' l0 (.lst c) → CellsEq K H' c' c → c' = fallN (fun i => decide ((i : Int) ∈ ks)) (fun i => decide ((i : Int) ∈ ts)) (.ref a.TORN) cs qs (j + 1) →
          ExB [l0] H H5 ∧ ∃ os', H5 l0 = some (.lst os') ∧ CellsEq K H5 (fallN (fun i => decide ((i : Int) ∈ ks)) (fun i => decide ((i : Int) ∈ ts)) (.ref a.TORN) cs qs (j + 1)) os' := fun H5 c c' e f g => by
        subst e
        rw [g] at f
        have e5 : ExB [l0] H' (upd H' l0 (.lst c)) := ExB.put (by simp)
        exact ⟨ex.trans e5, c, upd_same, f.keep fun b ys h => e5.sqT nt2 h⟩
      refine ⟨_, rfl, _, rfl, k, _, rfl, hkk, rfl, flat_ints ks, _, rfl, ?_⟩
      rw [if_neg Bool.false_ne_true, inV_int, j0]
      refine ite2 (fun ck => ?_) (fun ck => ?_)
      · have ck : (j : Int) ∈ ks := by simpa using ck
        refine ⟨_, rfl, _, rfl, o, _, 0, _, rfl, rfl, SqL.of eo, rfl, _, rfl, l0, _, _, _, rfl, rfl, hc', ixN_nat (by rw [len']; exact D.bnd _ (List.getElem_mem hjl)), ?_⟩
        obtain ⟨f1, f2⟩ := fin _ _ _ rfl (ceq.set eqd' (ws[j]).1) (by rw [fallN_more hpq]; unfold stepF; rw [if_pos (by simpa using ck), p1])
        exact ⟨f1, f2, _, _, _, rfl⟩
      · have ck : ¬ (j : Int) ∈ ks := by simpa using ck
        refine ⟨_, rfl, _, rfl, t, _, rfl, htt, rfl, flat_ints ts, _, rfl, ?_⟩
        rw [if_neg Bool.false_ne_true, inV_int]
        refine ite2 (fun ct => ?_) (fun ct => ?_)
        · have ct : (j : Int) ∈ ts := by simpa using ct
          refine ⟨(by show 1 ≤ sizeLine; decide), fun p hp => ?_⟩
          have eN : Same H' (upd H' p (.tup [.str "torn"])) := Same.new hp
          have eqt : Eqd K (upd H' p (.tup [.str "torn"])) 3 (.ref a.TORN) (.ref p) := Eqd.tup (T.torn _) (SqT.of upd_same) rfl (by show 1 ≤ 100000; decide) (fun i x y hx hy => by
            cases i with
            | zero => cases hx; cases hy; exact Eqd.flat (v := V.str "torn") (show Flat (V.str "torn") from True.intro)
            | succ i => simp at hx)
          have ceq2 := ceq.keep fun b ys h => eN.sqT h
          have nt3 : NoT [l0] (upd H' p (.tup [.str "torn"])) := noT_lst (eN _ _ hc') (fun _ h => nomatch h)
          refine ⟨_, rfl, o, _, 0, _, rfl, rfl, SqL.of (eN _ _ eo), rfl, _, rfl, l0, _, _, _, rfl, rfl, eN _ _ hc', ixN_nat (by rw [len']; exact D.bnd _ (List.getElem_mem hjl)), ?_⟩
          have e5 : ExB [l0] (upd H' p (.tup [.str "torn"])) (upd (upd H' p (.tup [.str "torn"])) l0 (.lst (os'.set (ws[j]).1 (.ref p)))) := ExB.put (by simp)
          refine ⟨(ex.trans (ExB.of eN)).trans e5, ⟨_, upd_same, ?_⟩, _, _, _, rfl⟩
          rw [fallN_more hpq]
          unfold stepF
          rw [if_neg (by simpa using ck), if_pos (by simpa using ct), p1]
          exact (ceq2.set eqt (ws[j]).1).keep fun b ys h => e5.sqT nt3 h
        · have ct : ¬ (j : Int) ∈ ts := by simpa using ct
          refine ⟨ex, ⟨os', hc', ?_⟩, _, _, _, rfl⟩
          rw [fallN_more hpq]
          unfold stepF
          rw [if_neg (by simpa using ck), if_neg (by simpa using ct)]
          exact ceq
    · rintro σ H' ⟨ex, ⟨os', hc', ceq⟩, x, u, v, rfl⟩
      refine ⟨Nat.zero_le _, fun l hl => ?_⟩
      have len' : os'.length = os.length := by rw [← ceq.1, fallN_len, hc.1]
      have eo : H' o = some (.lst [.ref l0, .ref l1]) := ex _ _ D.obj (by simp [D.no0])
      have hl0 : H l = none := ex.free hl (by intro z; rw [List.mem_singleton.mp z, hc'] at hl; cases hl)
      have nol : o ≠ l := ne_of_none eo hl
      have n0l : l0 ≠ l := ne_of_none hc' hl
      refine ⟨_, rfl, o, _, 1, 1, rfl, rfl, (by rw [upd_ne nol]; exact eo), rfl, ?_⟩
      have eN : Same H' (upd H' l (.lst [])) := Same.new hl
      have nt3 : NoT [o] (upd H' l (.lst [])) := noT_lst (eN _ _ eo) (fun _ h => nomatch h)
      have e5 : ExB [o] (upd H' l (.lst [])) (upd (upd H' l (.lst [])) o (.lst ([V.ref l0, .ref l1].set 1 (.ref l)))) := ExB.put (by simp)
      refine q _ l os' hl0 (((ex.mono (by simp)).trans (ExB.of eN)).trans (e5.mono (by simp))) ⟨upd_same, ?_, ⟨[], ?_, QRep.nil⟩, n0l, D.no0, nol, ?_, Nat.zero_le _, fun _ h => nomatch h⟩ ?_
      · rw [upd_ne D.no0.symm]; exact eN _ _ hc'
      · rw [upd_ne nol.symm, upd_same]
      · rw [len']; exact D.big
      · have z := (ceq.keep fun b ys h => eN.sqT h).keep fun b ys h => e5.sqT nt3 h
        have lq : (wv.length : Int).toNat = qs.length := by rw [rq.1, hq.1]; omega
        rw [← lq]
        exact z
end
end K69

namespace K69
open PySem PySem.Spec PyProof.Rows L2
section
variable {P : Program} {w : World} {K : PySem.W.Frag} {mg : Str → Option Value} {base : Heap} {a : Ad}
theorem seq_nat {n j : Nat} (hj : j < n) : seqIndex? (j : Int) n = some j := by
  unfold seqIndex?
  simp only []
  have h1 : ¬ ((j : Int) < 0) := by omega
  simp [h1]
  omega
theorem eraseIdx_map' {α β : Type} (f : α → β) : ∀ (l : List α) (i : Nat), (l.map f).eraseIdx i = (l.eraseIdx i).map f
  | [], _ => rfl
  | _ :: _, 0 => rfl
  | x :: r, i + 1 => by simp [List.eraseIdx_cons_succ, eraseIdx_map' f r i]
theorem ok_part {f : Addr} {fd fdt : FuncData} (F : Fun K "_law_part" "_law_part" s__law_part f fd) (T : Txt P K mg a) (G__law_take : FnOk P w K mg base CX0 1 a.take fdt ["box", "many"] spTake) (b__law_take : Binds K fdt ["box", "many"] []) : FnOk P w K mg base CX0 2 f fd ["box", "lot", "many"] spPart := by
  refine F.ok sc__law_part (fun vs H Q E h => ?_) (fun cdv A outer s H vs Q E hr h => ?_)
  · obtain ⟨b, l, ns, m, rfl, _⟩ := h
    rfl
  · obtain ⟨b, l, ns, m, rfl, hb, hl, hm, hn, k⟩ := h
    refine ⟨_, (pss_cons (ps_set (i := 3) sc__law_part.nd rfl (Or.inr rfl) (pe_callTy (listOfK (K := K) rfl) (by rfl) T.z_list (by decide +kernel) (pa_cons (pv 1) pa_nil)))
    (pss_one (ps_ret (pe_callTy (tupOfK (K := K) rfl) (by rfl) T.z_tuple (by decide +kernel) (pa_cons (pe_callB (sortedK (K := K) rfl) (by rfl) T.z_sorted (by decide +kernel) (pa_cons (pe_lc (own := [("x", 4)]) (g := gName 4) (tt := tYes) (by rfl) sc__law_part.nd (pi_range1 rfl T.z_range (pa_cons (pv 2) pa_nil)) (blkOk_by (own := [("x", 4)]) (N := ["box", "lot", "many", "left", "x"]) (sc := defScope s__law_part) (by decide +kernel)) (fun _ _ _ _ _ => (pg_name (i := 4) sc__law_part.nd rfl (Or.inl rfl))) (fun _ _ _ _ _ => pts_nil) (fun _ _ _ _ _ => (pe_bmK (K := K) rfl PySem.F.plainAttrs_list PySem.F.slot_list_pop PySem.F.type_list_pop mt_popAt (pv 3) (pa_cons (pe_call G__law_take (hr.mono (by decide)) rfl T.g__law_take T.k__law_take b__law_take .nil pass0 (pa_cons (pv 0) (pa_cons (pe_callB (lenK (K := K) rfl) (by rfl) T.z_len (by decide +kernel) (pa_cons (pv 3) pa_nil)) pa_nil))) pa_nil)))) pa_nil)) pa_nil))))), ?_⟩
    refine ⟨_, rfl, l, _, rfl, .inl (SqL.of hl), fun q hq => ?_⟩
    have hb1 : BoxAt (upd H q (.lst (ns.map V.int))) b := hb.keep (ExB.new hq : ExB [] _ _) (by simp)
    have nbq : q ≠ b := by
      obtain ⟨z, s', n', hbb⟩ := hb
      exact (ne_of_none hbb hq).symm
    refine ⟨_, rfl, _, rfl, (by omega), (by omega), fun D hD => lc_range (lo := 0) (n := (m : Int).toNat)
      (fun i H' => ExB [b] H H' ∧ BoxAt H' b ∧ ∃ rs ys : List Int, H' q = some (.lst (rs.map V.int)) ∧ H' D = some (.lst (ys.map V.int)) ∧ ys.length = i ∧ rs.length + i = ns.length ∧ (∀ z ∈ rs, z ∈ ns) ∧ (∀ z ∈ ys, z ∈ ns)) ?_ ?_ ?_⟩
    · have e1 : Same (upd H q (.lst (ns.map V.int))) (upd (upd H q (.lst (ns.map V.int))) D (.lst [])) := Same.new hD
      exact ⟨(ExB.new hq).trans (ExB.of e1), hb1.keep (ExB.of e1 : ExB [] _ _) (by simp), ns, [], e1 _ _ upd_same, upd_same, rfl, rfl, fun _ h => h, fun _ h => nomatch h⟩
    · rintro i H' hi ⟨ex, hbi, rs, ys, hq', hD', ly, lr, mr, my⟩
      have hqD : q ≠ D := ne_of_none upd_same hD
      have hqH : H q = none := hq
      have hDH : H D = none := by rw [upd_ne hqD.symm] at hD; exact hD
      have nbD : D ≠ b := by
        obtain ⟨z, s', n', hbb⟩ := hb
        exact (ne_of_none hbb hDH).symm
      refine ⟨rfl, _, rfl, .inl ⟨rfl, _, SqL.of hq'⟩, _, rfl, _, rfl, q, _, rfl, .inl (SqL.of hq'), b, _, rfl, hbi, (by rw [List.length_map]; omega), (by rw [List.length_map]; omega), fun H2 j e2 hb2 j0 j1 => ?_⟩
      rw [List.length_map] at j1
      obtain ⟨jn, rfl⟩ : ∃ jn : Nat, j = (jn : Int) := ⟨j.toNat, by omega⟩
      have hjn : jn < rs.length := by omega
      have e2q := e2 _ _ hq' (by simp [nbq])
      have e2D := e2 _ _ hD' (by simp [nbD])
      refine ⟨q, _, (jn : Int), jn, .int (rs[jn]), rfl, rfl, e2q, (by omega), (by omega), seq_nat (by rw [List.length_map]; exact hjn), (by rw [List.getElem?_map, List.getElem?_eq_getElem hjn]; rfl), _, (by rw [upd_ne hqD.symm]; exact e2D), ?_, ?_⟩
      · rw [List.length_map, ly]; exact Nat.lt_of_lt_of_le (by omega : i < 100000) (by decide)
      · refine ⟨ExB.putN (ExB.putN (ex.trans e2) hqH) hDH, ?_, rs.eraseIdx jn, ys ++ [rs[jn]], ?_, ?_, ?_, ?_, ?_, ?_⟩
        · obtain ⟨z, s', n', hbb⟩ := hb2
          exact ⟨z, s', n', by rw [upd_ne nbD.symm, upd_ne nbq.symm]; exact hbb⟩
        · rw [upd_ne hqD, upd_same]
          rw [eraseIdx_map']
        · rw [upd_same, List.map_append]; rfl
        · simp [ly]
        · rw [List.length_eraseIdx_of_lt hjn]; omega
        · exact fun z hz => mr z (List.mem_of_mem_eraseIdx hz)
        · intro z hz
          rcases List.mem_append.mp hz with hz | hz
          · exact my z hz
          · rw [List.mem_singleton.mp hz]; exact mr _ (List.getElem_mem hjn)
    · rintro H' ⟨ex, hbi, rs, ys, hq', hD', ly, lr, mr, my⟩
      refine ⟨D, ys, rfl, SqL.of hD', fun ns' p perm _ hp => ?_⟩
      refine ⟨p, _, rfl, .inl ⟨SqL.of upd_same, fun t ht => ?_⟩⟩
      have e1 : Same H' (upd H' p (.lst (ns'.map V.int))) := Same.new hp
      have e2 := Same.new (o := .tup (ns'.map V.int)) ht
      refine k _ t ns' (ex.trans (ExB.of (e1.trans e2))) (hbi.keep (ExB.of (e1.trans e2) : ExB [] _ _) (by simp)) upd_same (fun z hz => my z (perm.mem_iff.mp hz)) ?_
      rw [perm.length_eq, ly]; omega
theorem ok_box {f : Addr} {fd : FuncData} (F : Fun K "_law_box" "_law_box" s__law_box f fd) (T : Txt P K mg a) : FnOk P w K mg base CX0 1 f fd ["script", "k"] (spBox K) := by
  refine F.ok sc__law_box (fun vs H Q E h => ?_) (fun cdv A outer s H vs Q E hr h => ?_)
  · obtain ⟨l, ns, k, rfl, _⟩ := h
    rfl
  · obtain ⟨l, ns, k, rfl, hl, hk, q⟩ := h
    refine ⟨_, (pss_cons (ps_set (i := 2) sc__law_box.nd rfl (Or.inl rfl) (pe_op op_add (pe_op op_mul pe_int (pv 1)) pe_int))
    (pss_cons (ps_if (pt_cmpR op_lt (pv 1) (pe_callB (lenK (K := K) rfl) (by rfl) T.z_len (by decide +kernel) (pa_cons (pv 0) pa_nil)) (nomark _)) (pss_one (ps_set (i := 2) sc__law_box.nd rfl (Or.inl rfl) (pe_callB call_abs (by rfl) T.z_abs (by decide +kernel) (pa_cons (pe_ix (ix_listK (K := K) rfl) (pv 0) (pv 1) (fun _ _ => rfl)) pa_nil)))) (pss_one (ps_if (pt_cmpR op_gt (pe_callB (lenK (K := K) rfl) (by rfl) T.z_len (by decide +kernel) (pa_cons (pv 0) pa_nil)) pe_int (nomark _)) (pss_one (ps_set (i := 2) sc__law_box.nd rfl (Or.inl rfl) (pe_op op_add (pv 2) (pe_op op_mul (pe_op op_modN (pe_callTy call_int1 (by rfl) T.z_int (by decide +kernel) (pa_cons (pe_callB call_abs (by rfl) T.z_abs (by decide +kernel) (pa_cons (pe_ix (ix_listK (K := K) rfl) (pv 0) (pe_op op_modN (pe_callTy call_int1 (by rfl) T.z_int (by decide +kernel) (pa_cons (pv 1) pa_nil)) (pe_callB (lenK (K := K) rfl) (by rfl) T.z_len (by decide +kernel) (pa_cons (pv 0) pa_nil))) (fun _ _ => rfl)) pa_nil)) pa_nil)) pe_int) pe_int)))) pss_nil)))
    (pss_one (ps_ret (pe_lst (pa_cons (pe_ix (ix_listK (K := K) rfl) (pe_lst (pa_cons pe_int (pa_cons (pv 2) pa_nil))) (pe_callTy call_int1 (by rfl) T.z_int (by decide +kernel) (pa_cons (pe_cmpR op_ge (pv 2) (pe_op op_pow pe_int pe_int) (nomark _)) pa_nil)) (fun _ _ => rfl)) (pa_cons (pe_op op_add (pe_op op_modN (pe_callTy call_int1 (by rfl) T.z_int (by decide +kernel) (pa_cons (pe_op op_add (pe_op op_mul (pe_op op_modN (pe_callTy call_int1 (by rfl) T.z_int (by decide +kernel) (pa_cons (pv 2) pa_nil)) pe_int) pe_int) (pe_op op_mul pe_int (pv 1))) pa_nil)) pe_int) pe_int) (pa_cons pe_int pa_nil)))))))), ?_⟩
    have fin : ∀ (b : Bool) (x y : Int), atI [V.int x, V.int y] (if b = true then 1 else 0) = some (.int (if b = true then y else x)) := fun b _ _ => by cases b <;> rfl
    refine ⟨_, rfl, _, _, rfl, rfl, .inl (by decide), _, _, rfl, rfl, ?_⟩
    refine ⟨_, rfl, _, rfl, l, _, rfl, .inl hl, _, _, rfl, rfl, _, rfl, ?_⟩
    rw [List.length_map]
    refine ite2 (fun c => ?_) (fun c => ?_)
    · have c : k < ns.length := by simp at c; omega
      refine ⟨_, rfl, _, rfl, l, _, _, _, rfl, rfl, hl, atI_at (by rw [List.getElem?_map, List.getElem?_eq_getElem c]; rfl), _, rfl, ?_⟩
      refine ⟨_, rfl, (by show 2 ≤ sizeLine; decide), fun p hp => ⟨_, rfl, _, _, rfl, rfl, ⟨by decide, by decide, by decide⟩, _, _, rfl, rfl, .inr ⟨_, rfl, p, _, _, _, rfl, rfl, SqL.of upd_same, fin _ _ _, ?_⟩⟩⟩
      refine ⟨_, rfl, .inl ⟨_, rfl, _, _, rfl, rfl, (by show (2147483629 : Int) ≠ 0; decide), _, _, rfl, rfl, .inr (by decide), _, rfl, _, _, rfl, rfl, .inl (by decide), _, _, rfl, rfl, .inl ⟨_, rfl, _, _, rfl, rfl, (by show (2147483629 : Int) ≠ 0; decide), _, _, rfl, rfl, (by show 3 ≤ sizeLine; decide), fun p2 hp2 => ?_⟩⟩⟩
      have np : H p2 = none := by rw [upd_ne (ne_of_none upd_same hp2).symm] at hp2; exact hp2
      exact q _ _ np ((Same.new hp).trans (Same.new hp2)) ⟨_, _, _, upd_same⟩
    · refine ⟨_, rfl, l, _, rfl, .inl hl, _, _, rfl, rfl, _, rfl, ?_⟩
      rw [List.length_map]
      refine ite2 (fun c2 => ?_) (fun c2 => ?_)
      · have c2 : 0 < ns.length := by simp at c2; omega
        have hm : ((k : Int).fmod (ns.length : Int)).toNat < ns.length := by
          have z := fm (x := (k : Int)) (m := (ns.length : Int)) (by omega)
          omega
        have hm2 : (k : Int).fmod (((ns.map V.int).length : Nat) : Int) = ((((k : Int).fmod (ns.length : Int)).toNat : Nat) : Int) := by
          have z := fm (x := (k : Int)) (m := (ns.length : Int)) (by omega)
          rw [List.length_map]; omega
        refine ⟨_, rfl, _, rfl, _, rfl, .inl ⟨_, rfl, _, rfl, l, _, rfl, .inl hl, _, _, rfl, rfl, (by show (((ns.map V.int).length : Nat) : Int) ≠ 0; rw [List.length_map]; omega), l, _, _, _, rfl, rfl, hl, (by rw [hm2]; exact atI_at (by rw [List.getElem?_map, List.getElem?_eq_getElem hm]; rfl)), _, rfl, .inl ⟨_, rfl, _, _, rfl, rfl, (by show (2147483629 : Int) ≠ 0; decide), _, _, rfl, rfl, .inr (by decide), _, _, rfl, rfl, ?_⟩⟩⟩
        refine ⟨_, rfl, (by show 2 ≤ sizeLine; decide), fun p hp => ⟨_, rfl, _, _, rfl, rfl, ⟨by decide, by decide, by decide⟩, _, _, rfl, rfl, .inr ⟨_, rfl, p, _, _, _, rfl, rfl, SqL.of upd_same, fin _ _ _, ?_⟩⟩⟩
        refine ⟨_, rfl, .inl ⟨_, rfl, _, _, rfl, rfl, (by show (2147483629 : Int) ≠ 0; decide), _, _, rfl, rfl, .inr (by decide), _, rfl, _, _, rfl, rfl, .inl (by decide), _, _, rfl, rfl, .inl ⟨_, rfl, _, _, rfl, rfl, (by show (2147483629 : Int) ≠ 0; decide), _, _, rfl, rfl, (by show 3 ≤ sizeLine; decide), fun p2 hp2 => ?_⟩⟩⟩
        have np : H p2 = none := by rw [upd_ne (ne_of_none upd_same hp2).symm] at hp2; exact hp2
        exact q _ _ np ((Same.new hp).trans (Same.new hp2)) ⟨_, _, _, upd_same⟩
      · refine ⟨_, rfl, (by show 2 ≤ sizeLine; decide), fun p hp => ⟨_, rfl, _, _, rfl, rfl, ⟨by decide, by decide, by decide⟩, _, _, rfl, rfl, .inr ⟨_, rfl, p, _, _, _, rfl, rfl, SqL.of upd_same, fin _ _ _, ?_⟩⟩⟩
        refine ⟨_, rfl, .inl ⟨_, rfl, _, _, rfl, rfl, (by show (2147483629 : Int) ≠ 0; decide), _, _, rfl, rfl, .inr (by decide), _, rfl, _, _, rfl, rfl, .inl (by decide), _, _, rfl, rfl, .inl ⟨_, rfl, _, _, rfl, rfl, (by show (2147483629 : Int) ≠ 0; decide), _, _, rfl, rfl, (by show 3 ≤ sizeLine; decide), fun p2 hp2 => ?_⟩⟩⟩
        have np : H p2 = none := by rw [upd_ne (ne_of_none upd_same hp2).symm] at hp2; exact hp2
        exact q _ _ np ((Same.new hp).trans (Same.new hp2)) ⟨_, _, _, upd_same⟩
end
end K69

namespace K69
open PySem PySem.Spec PyProof.Rows L2
abbrev s__law_made : Stmt := top 20
theorem sc__law_made : FnScope ["many", "e"] ["many"] (defScope s__law_made) := ⟨rfl, rfl, rfl, by decide +kernel, rfl, by decide +kernel, by decide +kernel⟩
abbrev s__law_alike : Stmt := top 24
theorem sc__law_alike : FnScope ["box", "disk", "own", "many", "at"] ["box", "disk", "own"] (defScope s__law_alike) := ⟨rfl, rfl, rfl, by decide +kernel, rfl, by decide +kernel, by decide +kernel⟩
def spMade (K : PySem.W.Frag) (C : Addr) : Sp := fun vs H Q _ => ∃ m : V, vs = [m] ∧ Kd K H m ∧
  ((∃ n : Nat, m = .int n ∧ 4 ≤ n ∧ n ≤ 400 ∧ ∀ (H' : Hp) (t p cl ql : Addr), Same H H' → H' t = some (.tup [.str "told", .ref p]) → H p = none → H cl = none → H ql = none → DiskAt K C H' p cl ql (List.replicate n .non) [] → Q (.ref t) H') ∨
   ((numV m (.int 400) = false ∨ ∃ i : Int, m = .int i ∧ i < 4) ∧ ∀ (H' : Hp) (t : Addr), Same H H' → H' t = some (.tup [.str "refused", .str "slots", .bl true]) → Q (.ref t) H'))
/-- the box, the disk and the law's own lists, which tell the same -/
structure St (K : PySem.W.Frag) (C : Addr) (H : Hp) (b d o cl ql l0 l1 : Addr) (cs os : List V) (qs ws : List (Nat × V)) : Prop where
  box : BoxAt H b
  disk : DiskAt K C H d cl ql cs qs
  own : OwnAt K H o l0 l1 os ws
  ce : CellsEq K H cs os
  qe : QEq K H qs ws
  nd : [b, d, cl, ql, o, l0, l1].Nodup
theorem St.same {K : PySem.W.Frag} {C : Addr} {H H1 : Hp} {b d o cl ql l0 l1 : Addr} {cs os : List V} {qs ws : List (Nat × V)} (S : St K C H b d o cl ql l0 l1 cs os qs ws) (e : Same H H1) : St K C H1 b d o cl ql l0 l1 cs os qs ws :=
  ⟨S.box.keep (ExB.of e : ExB [] _ _) (by simp), S.disk.same e, S.own.same e, S.ce.keep fun _ _ h => e.sqT h, S.qe.keep fun _ _ h => e.sqT h, S.nd⟩
theorem St.boxed {K : PySem.W.Frag} {C : Addr} {H H1 : Hp} {b d o cl ql l0 l1 : Addr} {cs os : List V} {qs ws : List (Nat × V)} (S : St K C H b d o cl ql l0 l1 cs os qs ws) (e : ExB [b] H H1) (hb : BoxAt H1 b) : St K C H1 b d o cl ql l0 l1 cs os qs ws := by
  have nt := S.box.noT
  have nd := S.nd
  simp only [List.nodup_cons, List.mem_cons, not_or, List.not_mem_nil, not_false_eq_true, and_true] at nd
  obtain ⟨⟨n1, n2, n3, n4, n5, n6⟩, _⟩ := nd
  exact ⟨hb, S.disk.keep e nt (by simp [Ne.symm n1]) (by simp [Ne.symm n2]) (by simp [Ne.symm n3]), S.own.keep e nt (by simp [Ne.symm n4]) (by simp [Ne.symm n5]) (by simp [Ne.symm n6]), S.ce.keep fun _ _ h => e.sqT nt h, S.qe.keep fun _ _ h => e.sqT nt h, S.nd⟩
def spAlike (K : PySem.W.Frag) (C : Addr) : Sp := fun vs H Q _ => ∃ (b d o cl ql l0 l1 : Addr) (cs os : List V) (qs ws : List (Nat × V)), vs = [.ref b, .ref d, .ref o] ∧ St K C H b d o cl ql l0 l1 cs os qs ws ∧ ∀ H', ExB [b] H H' → BoxAt H' b → Q (.bl true) H'
section
variable {P : Program} {w : World} {K : PySem.W.Frag} {mg : Str → Option Value} {base : Heap} {a : Ad}
theorem ok_made {f : Addr} {fd fdi : FuncData} (F : Fun K "_law_made" "_law_made" s__law_made f fd) (T : Txt P K mg a) (G_Disk : FnOk P w K mg base (L2.CX P w) 4 a.init fdi ["self", "many"] (spInit K a.Disk a.InvalidNumber)) (b_Disk : Binds K fdi ["self", "many"] []) : FnOk P w K mg base CX0 8 f fd ["many"] (spMade K a.Disk) := by
  refine F.ok sc__law_made (fun vs H Q E h => ?_) (fun cdv A outer s H vs Q E hr h => ?_)
  · obtain ⟨m, rfl, _⟩ := h
    rfl
  · obtain ⟨m, rfl, km, h⟩ := h
    refine ⟨_, pss_one (ps_try_as (i := 1) (c := .ref a.InvalidNumber) (Wout := fun _ _ _ _ => False)
      (tb := fun W D σ H => ∃ Ech : XK, (∀ cls d σ' H', σ'.length = 2 → Ech cls d H' → W cls d σ' H') ∧ tRet (tTup (tCons (tC (.str "told")) (tCons (tMake a.Disk (spInit K a.Disk a.InvalidNumber) [] Ech (tCons (tVar 0) tNil)) tNil))) D σ H)
      rfl rfl sc__law_made.nd rfl rfl ⟨rfl, by decide, .inl T.C_InvalidNumber.gC⟩ takes0 (fun W pn xe tk _ => ?_)
      (fun a0 oe cls d pn hz hf => pss_one (ps_ret (pe_tup (pa_cons pe_str (pa_cons (pe_atSup T.C_InvalidNumber hz hf (pv 1)) (pa_cons
        (pe_and (pe_callB (call_isED T.EC hz hf) (by rfl) T.z_isinstance (by decide +kernel) (pa_cons (pv 1) (pa_cons (pe_globR rfl T.C_LiarsError) pa_nil)))
          (pe_one (pe_callB (call_isED T.EC hz hf) (by rfl) T.z_isinstance (by decide +kernel) (pa_cons (pv 1) (pa_cons (pe_bltn (v := .ty "ValueError") (u := .type "ValueError") (by rfl) T.z_ValueError (by decide +kernel) rfl) pa_nil))))) pa_nil))))))), ?_⟩
    · refine ⟨fun pins s' σ H' D I h' => ?_⟩
      obtain ⟨Ech, hW, h3⟩ := h'
      refine PSs.run ?_ pins s' σ H' D I h3
      exact (pss_one (ps_ret (pe_tup (pa_cons pe_str (pa_cons (pe_make T.M_Disk G_Disk (hr.mono (by decide)) rfl T.C_Disk b_Disk .nil (passes_call (LamX.takes_len tk) (fun cls d σ H e hl => hW cls d σ H hl e)) (pa_cons (pv 0) pa_nil)) pa_nil)))))
    · refine ⟨fun cls d H' => cls = .ref a.InvalidNumber ∧ ∃ dd : Addr, d = some dd ∧ H' dd = some (.xd [(("at" : Str), .str "slots")]) ∧ ∀ (H2 : Hp) (t : Addr), Same H' H2 → H2 t = some (.tup [.str "refused", .str "slots", .bl true]) → Q (.ref t) H2, fun cls d σ' H' hlen ⟨ec, dd, ed, hd, hq⟩ => ?_, ?_⟩
      · subst ec
        refine ⟨true, T.C_InvalidNumber.te, fun _ a0 ha0 => ?_, fun z => Bool.noConfusion z⟩
        refine ⟨.ref a0, (by rw [List.getElem?_set_self (by omega)]), rfl, rfl, dd, _, ed, hd, .ref a0, (by rw [List.getElem?_set_self (by omega)]), _, _, true, dd, _, rfl, rfl, ed, hd, (fun u r => r), T.kL, _, rfl, ?_⟩
        refine iteT ⟨.ref a0, (by rw [List.getElem?_set_self (by omega)]), _, _, true, dd, _, rfl, rfl, ed, hd, (fun u r => r), T.kV, (by show 3 ≤ sizeLine; decide), fun p hp => hq _ p (Same.new hp) upd_same⟩
      · refine ⟨_, rfl, fun x dx nx ndx nex => ?_⟩
        have e0 : Same H (upd (upd H dx (.own x)) x (.ins a.Disk dx [])) := fun b o e => by
          rw [upd_ne (ne_of_none e nx), upd_ne (ne_of_none e ndx)]
          exact e
        refine ⟨x, dx, m, rfl, upd_same, km.same e0, ?_⟩
        rcases h with ⟨n, rfl, h4, h400, k⟩ | ⟨hn, k⟩
        · refine .inl ⟨n, rfl, h4, h400, fun H' cl ql ex hcl hql D => ⟨rfl, (by show 2 ≤ sizeLine; decide), fun p hp => ?_⟩⟩
          have e1 : Same H H' := fun b o e => ex _ _ (e0 _ _ e) (by simp [ne_of_none e nx])
          have e2 := Same.new (o := .tup [V.str "told", .ref x]) hp
          exact k _ p x cl ql (e1.trans e2) upd_same nx (e0.free hcl) (e0.free hql) (D.same e2)
        · exact .inr ⟨hn, fun H' dd e1 hd => ⟨rfl, dd, rfl, hd, fun H2 t e2 ht => k _ t ((e0.trans e1).trans e2) ht⟩⟩
theorem ok_alike {f : Addr} {fd fds fdz fdw fdf fdr fdn fdp : FuncData} (F : Fun K "_law_alike" "_law_alike" s__law_alike f fd) (T : Txt P K mg a)
    (G__law_same : FnOk P w K mg base CX0 5 a.same fds ["value", "due"] (spSame K 4)) (b__law_same : Binds K fds ["value", "due"] [])
    (G_Disk_size : FnOk P w K mg base CX0 1 a.size fdz ["self"] (spSize K a.Disk)) (b_Disk_size : Binds K fdz ["self"] [])
    (G_Disk_waits : FnOk P w K mg base CX0 1 a.waits fdw ["self"] (spWaits K a.Disk)) (b_Disk_waits : Binds K fdw ["self"] [])
    (G_Disk_safe : FnOk P w K mg base CX0 1 a.safe fdf ["self"] (spSafe K a.Disk)) (b_Disk_safe : Binds K fdf ["self"] [])
    (G_Disk_read : FnOk P w K mg base (L2.CX P w) 4 a.read fdr ["self", "at"] (spRead K a.Disk a.Refused)) (b_Disk_read : Binds K fdr ["self", "at"] [])
    (G__law_seen_at : FnOk P w K mg base CX0 1 a.seen_at fdn ["own", "at"] (spSeen K)) (b__law_seen_at : Binds K fdn ["own", "at"] [])
    (G__law_part : FnOk P w K mg base CX0 2 a.part fdp ["box", "lot", "many"] spPart) (b__law_part : Binds K fdp ["box", "lot", "many"] []) : FnOk P w K mg base CX0 8 f fd ["box", "disk", "own"] (spAlike K a.Disk) := by
  refine F.ok sc__law_alike (fun vs H Q E h => ?_) (fun cdv A outer s H vs Q E hr h => ?_)
  · obtain ⟨b, d, o, cl, ql, l0, l1, cs, os, qs, ws, rfl, _⟩ := h
    rfl
  · obtain ⟨b, d, o, cl, ql, l0, l1, cs, os, qs, ws, rfl, S, k⟩ := h
    refine ⟨_, (pss_cons (ps_set (i := 3) sc__law_alike.nd rfl (Or.inl rfl) (pe_callB (lenK (K := K) rfl) (by rfl) T.z_len (by decide +kernel) (pa_cons (pe_ix (ix_listK (K := K) rfl) (pv 2) pe_int (fun _ _ => rfl)) pa_nil)))
    (pss_cons (ps_if (PW.pt (pw_or (pt_not (pt_val (pe_call G__law_same (hr.mono (by decide)) rfl T.g__law_same T.k__law_same b__law_same .nil pass0 (pa_cons (pe_tup (pa_cons (pe_meth0 (pv 1) T.cl_Disk T.m_Disk_size G_Disk_size (hr.mono (by decide)) b_Disk_size .nil pass0) (pa_cons (pe_meth0 (pv 1) T.cl_Disk T.m_Disk_waits G_Disk_waits (hr.mono (by decide)) b_Disk_waits .nil pass0) pa_nil))) (pa_cons (pe_tup (pa_cons (pv 3) (pa_cons (pe_callB (lenK (K := K) rfl) (by rfl) T.z_len (by decide +kernel) (pa_cons (pe_ix (ix_listK (K := K) rfl) (pv 2) pe_int (fun _ _ => rfl)) pa_nil)) pa_nil))) pa_nil))))) (pw_or1 (pt_not (pt_val (pe_call G__law_same (hr.mono (by decide)) rfl T.g__law_same T.k__law_same b__law_same .nil pass0 (pa_cons (pe_meth0 (pv 1) T.cl_Disk T.m_Disk_safe G_Disk_safe (hr.mono (by decide)) b_Disk_safe .nil pass0) (pa_cons (pe_callTy (tupOfK (K := K) rfl) (by rfl) T.z_tuple (by decide +kernel) (pa_cons (pe_ix (ix_listK (K := K) rfl) (pv 2) pe_int (fun _ _ => rfl)) pa_nil)) pa_nil)))))))) (pss_one (ps_ret pe_bl)) pss_nil)
    (pss_one (ps_ret (pe_callB (allK (K := K) rfl rfl) (by rfl) T.z_all (by decide +kernel) (pa_cons (pe_lc (own := [("at", 4)]) (g := gName 4) (tt := tYes) (by rfl) sc__law_alike.nd (piTupK (K := K) rfl (pe_call G__law_part (hr.mono (by decide)) rfl T.g__law_part T.k__law_part b__law_part .nil pass0 (pa_cons (pv 0) (pa_cons (pe_listRg rfl rfl T.z_list (prg_1 rfl T.z_range (pv 3))) (pa_cons (pe_callB (call_min2 rfl) (by rfl) T.z_min (by decide +kernel) (pa_cons (pv 3) (pa_cons pe_int pa_nil))) pa_nil))))) (blkOk_by (own := [("at", 4)]) (N := ["box", "disk", "own", "many", "at"]) (sc := defScope s__law_alike) (by decide +kernel)) (fun _ _ _ _ _ => (pg_name (i := 4) sc__law_alike.nd rfl (Or.inl rfl))) (fun _ _ _ _ _ => pts_nil) (fun _ _ _ _ _ => (pe_call G__law_same (hr.mono (by decide)) rfl T.g__law_same T.k__law_same b__law_same .nil pass0 (pa_cons (pe_meth (pv 1) T.cl_Disk T.m_Disk_read G_Disk_read (hr.mono (by decide)) b_Disk_read .nil passL (pa_cons (pv 4) pa_nil)) (pa_cons (pe_call G__law_seen_at (hr.mono (by decide)) rfl T.g__law_seen_at T.k__law_seen_at b__law_seen_at .nil pass0 (pa_cons (pv 2) (pa_cons (pv 4) pa_nil))) pa_nil))))) pa_nil)))))), ?_⟩
    obtain ⟨dx, hd⟩ := S.disk.obj
    have nos : ∀ m : Str, ¬ m = "queue" → ¬ m = "cells" → (pf cl ql).lookup m = none := fun m h1 h2 => pf_no _ _ h1 h2
    obtain ⟨wv, hwv, rq⟩ := S.own.que
    refine ⟨_, rfl, o, _, 0, _, rfl, rfl, SqL.of S.own.obj, rfl, l0, _, rfl, .inl (SqL.of S.own.cel), ?_⟩
    refine ⟨_, rfl, d, dx, _, rfl, hd, nos _ (by decide +kernel) (by decide +kernel), d, cl, ql, cs, qs, rfl, S.disk, ?_⟩
    refine ⟨_, rfl, d, dx, _, rfl, hd, nos _ (by decide +kernel) (by decide +kernel), d, cl, ql, cs, qs, rfl, S.disk, (by show 2 ≤ sizeLine; decide), fun p hp => ?_⟩
    have e1 := Same.new (o := .tup [V.int cs.length, .int qs.length]) hp
    refine ⟨_, rfl, _, rfl, o, _, 1, _, rfl, rfl, SqL.of (e1 _ _ S.own.obj), rfl, l1, _, rfl, .inl (SqL.of (e1 _ _ hwv)), (by show 2 ≤ sizeLine; decide), fun p2 hp2 => ?_⟩
    have e2 := Same.new (o := .tup [V.int os.length, .int wv.length]) hp2
    refine ⟨_, _, rfl, Eqd.tup (SqT.of (e2 _ _ upd_same)) (SqT.of upd_same) rfl (by show 2 ≤ 100000; decide) (fun i x y hx hy => ?_), fun H3 e3 => ⟨_, rfl, ?_⟩⟩
    · rcases i with _ | _ | i
      · cases hx; cases hy
        rw [S.ce.1]; exact Eqd.flat (v := V.int os.length) (show Flat (V.int _) from True.intro)
      · cases hx; cases hy
        rw [S.qe.1, rq.1]; exact Eqd.flat (v := V.int ws.length) (show Flat (V.int _) from True.intro)
      · simp at hx
    have e123 := (e1.trans e2).trans e3
    have S3 := S.same e123
    refine ⟨_, rfl, d, dx, _, rfl, e123 _ _ hd, nos _ (by decide +kernel) (by decide +kernel), d, cl, ql, cs, qs, rfl, S3.disk, fun t H4 e4 ht => ?_⟩
    have S4 := S3.same e4
    refine ⟨_, rfl, o, _, 0, _, rfl, rfl, SqL.of S4.own.obj, rfl, l0, _, rfl, .inl ⟨SqL.of S4.own.cel, fun t2 ht2 => ?_⟩⟩
    have e5 := Same.new (o := .tup os) ht2
    have S5 := S4.same e5
    refine ⟨_, _, rfl, Eqd.tup (SqT.of (e5 _ _ ht)) (SqT.of upd_same) S.ce.1 (Nat.le_trans S.own.big (by decide)) S5.ce.2, fun H6 e6 => ⟨_, rfl, ?_⟩⟩
    have S6 := S5.same e6
    have e06 := ((e123.trans e4).trans e5).trans e6
    have ol : os.length ≤ 400 := S.own.big
    refine ⟨_, rfl, _, rfl, _, rfl, RgOk.of_le (by omega) (by omega) (by omega) (by omega), fun q hq => ?_⟩
    have e7 := Same.new (o := .lst (rgV 0 os.length)) hq
    have S7 := S6.same e7
    have hmin : (if (12 : Int) < (os.length : Int) then (12 : Int) else os.length) = ((min os.length 12 : Nat) : Int) := by split <;> omega
    refine ⟨_, rfl, _, _, rfl, ?_⟩
    rw [hmin]
    refine ⟨b, q, (List.range os.length).map (fun i => (0 + (i : Nat) : Int)), min os.length 12, rfl, S7.box, ?_, (by simp; omega), (by simp; omega), fun H8 t3 zs e8 hb8 ht3 hz zlen => ?_⟩
    · rw [upd_same]; simp [rgV, List.map_map, Function.comp_def]
    have S8 := S7.boxed e8 hb8
    have e08 : ExB [b] H H8 := (ExB.of (e06.trans e7)).trans e8
    refine ⟨t3, rfl, ⟨_, SqT.of ht3⟩, fun D hD => lc_tup (K := K) (a := t3) (xs := zs.map V.int) (fun i H' => Same H8 H' ∧ H' D = some (.lst (List.replicate i (.bl true)))) ⟨Same.new hD, upd_same⟩ (fun i H' _ hp => SqT.of (hp.1 _ _ ht3)) ?_ ?_⟩
    · rintro i y H' hi ⟨ex, hD'⟩
      obtain ⟨z, hz1, rfl⟩ := int_at hi
      have hzm := hz z (List.mem_of_getElem? hz1)
      obtain ⟨zn, hzn, rfl⟩ := List.mem_map.mp hzm
      have hzl : zn < os.length := List.mem_range.mp hzn
      have zc : (0 + (zn : Int)) = (zn : Int) := by omega
      have S9 := S8.same ex
      obtain ⟨dx9, hd9⟩ := S9.disk.obj
      have il : i < zs.length := (List.getElem?_eq_some_iff.mp hz1).1
      rw [zc]
      refine ⟨rfl, _, rfl, d, dx9, _, rfl, hd9, nos _ (by decide +kernel) (by decide +kernel), _, rfl, d, cl, ql, cs, qs, .int zn, rfl, S9.disk, Kd.int _, .inl ⟨zn, rfl, by rw [S.ce.1]; exact hzl, fun H10 e10 => ?_⟩⟩
      have S10 := S9.same e10
      refine ⟨_, rfl, _, rfl, o, l0, l1, os, ws, zn, rfl, S10.own, hzl, fun H11 e11 => ?_⟩
      have S11 := S10.same e11
      have rr := readV_eq S11.ce S11.qe (show zn < cs.length by rw [S.ce.1]; exact hzl) qs.length (Nat.le_refl _)
      rw [List.take_length, S.qe.1, List.take_length] at rr
      refine ⟨_, _, rfl, rr.up, fun H12 e12 => ⟨_, e12 _ _ (e11 _ _ (e10 _ _ hD')), ?_, ?_, ?_⟩⟩
      · rw [List.length_replicate]; exact Nat.lt_of_lt_of_le (by omega : i < 100000) (by decide)
      · exact Same.put (((ex.trans e10).trans e11).trans e12) hD
      · rw [upd_same, List.replicate_succ']
    · rintro H' ⟨ex, hD'⟩
      refine ⟨D, List.replicate (zs.map V.int).length true, rfl, SqL.of (by rw [List.map_replicate]; exact hD'), ?_⟩
      rw [show (List.replicate (zs.map V.int).length true).all id = true by rw [List.all_eq_true]; intro b hb; rw [(List.mem_replicate.mp hb).2]; rfl]
      exact k _ (e08.trans (ExB.of ex)) (hb8.keep (ExB.of ex : ExB [] _ _) (by simp))
end
end K69

namespace K69
open PySem PySem.Spec PyProof.Rows L2
abbrev s__law_heard : Stmt := top 17
theorem sc__law_heard : FnScope ["work", "e"] ["work"] (defScope s__law_heard) := ⟨rfl, rfl, rfl, by decide +kernel, rfl, by decide +kernel, by decide +kernel⟩
abbrev s__law_wrong : Stmt := top 23
theorem sc__law_wrong : FnScope ["box", "disk", "own", "many", "waits", "slot", "row", "odd"] ["box", "disk", "own"] (defScope s__law_wrong) := ⟨rfl, rfl, rfl, by decide +kernel, rfl, by decide +kernel, by decide +kernel⟩
theorem BoxAt.keepW {H H1 : Hp} {b : Addr} {S : List Addr} (h : BoxAt H b) (e : ExW S H H1) (n : b ∉ S) : BoxAt H1 b := let ⟨z, s, m, q⟩ := h; ⟨z, s, m, e _ _ q n (fun _ z => nomatch z)⟩
theorem St.keepW {K : PySem.W.Frag} {C : Addr} {H H1 : Hp} {b d o cl ql l0 l1 : Addr} {cs os : List V} {qs ws : List (Nat × V)} (S : St K C H b d o cl ql l0 l1 cs os qs ws) (e : ExW [b] H H1) (hb : BoxAt H1 b) : St K C H1 b d o cl ql l0 l1 cs os qs ws := by
  have nt := S.box.noT
  have nd := S.nd
  simp only [List.nodup_cons, List.mem_cons, not_or, List.not_mem_nil, not_false_eq_true, and_true] at nd
  obtain ⟨⟨n1, n2, n3, n4, n5, n6⟩, _⟩ := nd
  have kt : ∀ x xs, SqT K H x xs → SqT K H1 x xs := fun x xs h => e.sqT nt h
  obtain ⟨⟨dx, d1⟩, d2, ⟨qv, d3, d4⟩, d5, d6, d7, d8, d9⟩ := S.disk
  obtain ⟨o1, o2, ⟨wv, o3, o4⟩, o5, o6, o7, o8, o9, o10⟩ := S.own
  have m : ∀ x, x ≠ b → x ∉ [b] := fun x h => by simp [h]
  exact ⟨hb, ⟨⟨dx, e _ _ d1 (m _ (Ne.symm n1)) (fun _ z => nomatch z)⟩, e _ _ d2 (m _ (Ne.symm n2)) (fun _ z => nomatch z), ⟨qv, e _ _ d3 (m _ (Ne.symm n3)) (fun _ z => nomatch z), d4.keep kt⟩, d5, d6, d7, d8, d9⟩,
    ⟨e _ _ o1 (m _ (Ne.symm n4)) (fun _ z => nomatch z), e _ _ o2 (m _ (Ne.symm n5)) (fun _ z => nomatch z), ⟨wv, e _ _ o3 (m _ (Ne.symm n6)) (fun _ z => nomatch z), o4.keep kt⟩, o5, o6, o7, o8, o9, o10⟩, S.ce.keep kt, S.qe.keep kt, S.nd⟩
theorem eq2 {K : PySem.W.Frag} {H : Hp} {p q : Addr} {x y : Str} (h1 : H p = some (.tup [.str x, .str y])) (h2 : H q = some (.tup [.str x, .str y])) : Eqd K H 4 (.ref p) (.ref q) :=
  Eqd.tup (SqT.of h1) (SqT.of h2) rfl (by show 2 ≤ 100000; decide) (fun i u v hu hv => by
    rcases i with _ | _ | i
    · cases hu; cases hv; exact Eqd.flat (v := V.str x) (show Flat (V.str _) from True.intro)
    · cases hu; cases hv; exact Eqd.flat (v := V.str y) (show Flat (V.str _) from True.intro)
    · simp at hu)
/-- values that are no slot -/
def SlotP (K : PySem.W.Frag) (H : Hp) (n : Nat) (v : V) : Prop := numV v (.int ((n : Int) - 1)) = false ∧ (Flat v ∨ ∃ t, v = .ref t ∧ SqT K H t [.int 0])
/-- values that are no row -/
def RowP (H : Hp) (b : Addr) (v : V) : Prop := Flat v ∨ ∃ l, v = .ref l ∧ l ≠ b ∧ H l = some (.lst [.int 0])
/-- values that are no lot of puts -/
def OddP (K : PySem.W.Frag) (H : Hp) (b : Addr) (n : Nat) (v : V) : Prop := RowP H b v ∨ ∃ (t : Addr) (ys : List V), v = .ref t ∧ SqT K H t ys ∧ (∀ y ∈ ys, Flat y) ∧ ys.length ≤ 100000 ∧ lotB ((n : Int) - 1) ys = false
theorem SlotP.keep {K : PySem.W.Frag} {H H1 : Hp} {b : Addr} {n : Nat} {v : V} (h : SlotP K H n v) (e : ExW [b] H H1) (nt : NoT [b] H) : SlotP K H1 n v := by
  obtain ⟨h1, h2 | ⟨t, h2, h3⟩⟩ := h
  · exact ⟨h1, .inl h2⟩
  · exact ⟨h1, .inr ⟨t, h2, e.sqT nt h3⟩⟩
theorem RowP.keep {H H1 : Hp} {b : Addr} {v : V} (h : RowP H b v) (e : ExW [b] H H1) : RowP H1 b v := by
  rcases h with h | ⟨l, h1, h2, h3⟩
  · exact .inl h
  · exact .inr ⟨l, h1, h2, e _ _ h3 (by simp [h2]) (fun _ z => nomatch z)⟩
theorem OddP.keep {K : PySem.W.Frag} {H H1 : Hp} {b : Addr} {n : Nat} {v : V} (h : OddP K H b n v) (e : ExW [b] H H1) (nt : NoT [b] H) : OddP K H1 b n v := by
  rcases h with h | ⟨t, ys, h1, h2, h3⟩
  · exact .inl (h.keep e)
  · exact .inr ⟨t, ys, h1, e.sqT nt h2, h3⟩
theorem kd_flat {K : PySem.W.Frag} {H : Hp} {v : V} (f : Flat v) : Kd K H v := (Eqd.kd (n := 0) (v := v) (u := v) ⟨rfl, f⟩).1
theorem SlotP.kd {K : PySem.W.Frag} {H : Hp} {n : Nat} {v : V} (h : SlotP K H n v) : Kd K H v := by
  obtain ⟨_, h | ⟨t, rfl, h⟩⟩ := h
  · exact kd_flat h
  · exact Kd.of_tup h
theorem RowP.kd {K : PySem.W.Frag} {H : Hp} {b : Addr} {v : V} (h : RowP H b v) : Kd K H v ∧ ∃ t, TyX K H v t ∧ PySem.W.kitOne K t (.type "tuple") = some false := by
  rcases h with h | ⟨l, rfl, _, h⟩
  · obtain ⟨t, h1, _, h3⟩ := kd_ty (K := K) (H := H) h
    exact ⟨kd_flat h, t, h1, h3⟩
  · exact ⟨.inr (.inr (.inr (.inr ⟨l, rfl, .inr (lst_ty h)⟩))), _, lst_ty h, kit_ty (show kitB "list" "tuple" = some false by decide +kernel)⟩
theorem OddP.lot {K : PySem.W.Frag} {H : Hp} {b : Addr} {n : Nat} {v : V} (h : OddP K H b n v) : LotP K H ((n : Int) - 1) v false := by
  rcases h with h | ⟨t, ys, h1, h2, h3, h4, h5⟩
  · exact .inr ⟨h.kd.2, rfl⟩
  · exact .inl ⟨t, ys, h1, h2, fun y hy => kd_flat (h3 y hy), h4, h5.symm⟩
def spWrong (K : PySem.W.Frag) (C : Addr) (LT : List (Addr × Str)) : Sp := fun vs H Q _ => ∃ (b d o cl ql l0 l1 : Addr) (cs os : List V) (qs ws : List (Nat × V)), vs = [.ref b, .ref d, .ref o] ∧ St K C H b d o cl ql l0 l1 cs os qs ws ∧ LamX.Tabs LT H ∧
  ∀ H', ExW [b] H H' → BoxAt H' b → LamX.Tabs LT H' → Q (.bl true) H'
section
variable {P : Program} {w : World} {K : PySem.W.Frag} {mg : Str → Option Value} {base : Heap} {a : Ad}
theorem ok_wrong {oc kV doc pm ct ocH dVH kVH docH pmH cdvH ctH : Value} {od an odH anH : Option Addr} {osl oslH : Array (Option Value)} {c Pt : Addr}
    (lk : K.lookup a.wrong = some ⟨oc, od, .func (PySem.W.fnOf "_law_wrong" "_law_wrong" (defArgs s__law_wrong) (defBody s__law_wrong) (defScope s__law_wrong) .none kV doc pm an (.ref c) ct), osl⟩) (hcd : PySem.W.codeIn K (.ref c) "_law_wrong" = true)
    (lkH : K.lookup a.heard = some ⟨ocH, odH, .func (PySem.W.fnOf "_law_heard" "_law_heard" (defArgs s__law_heard) (defBody s__law_heard) (defScope s__law_heard) dVH kVH docH pmH anH cdvH ctH), oslH⟩) (cgH : PySem.W.codeIn K cdvH "_law_heard" = true)
    (bH : Binds K (PySem.W.fnOf "_law_heard" "_law_heard" (defArgs s__law_heard) (defBody s__law_heard) (defScope s__law_heard) dVH kVH docH pmH anH cdvH ctH) ["work"] [])
    (T : Txt P K mg a) (TB : LamX.TabB base mg c Pt) {fds fdk fdt fdp fdr fdc : FuncData}
    (G__law_same : FnOk P w K mg base CX0 5 a.same fds ["value", "due"] (spSame K 4)) (b__law_same : Binds K fds ["value", "due"] [])
    (G__law_pick : FnOk P w K mg base CX0 2 a.pick fdk ["box", "some"] spPick) (b__law_pick : Binds K fdk ["box", "some"] [])
    (G__law_take : FnOk P w K mg base CX0 1 a.take fdt ["box", "many"] spTake) (b__law_take : Binds K fdt ["box", "many"] [])
    (G_Disk_put : FnOk P w K mg base (L2.CX P w) 4 a.put fdp ["self", "at", "row"] (spPut K a.Disk a.Refused)) (b_Disk_put : Binds K fdp ["self", "at", "row"] [])
    (G_Disk_read : FnOk P w K mg base (L2.CX P w) 4 a.read fdr ["self", "at"] (spRead K a.Disk a.Refused)) (b_Disk_read : Binds K fdr ["self", "at"] [])
    (G_Disk_cut : FnOk P w K mg base (L2.CX P w) 6 a.cut fdc ["self", "kept", "torn"] (spCut K a.Disk a.Refused a.TORN)) (b_Disk_cut : Binds K fdc ["self", "kept", "torn"] []) :
    FnOk P w K mg base CX0 9 a.wrong (PySem.W.fnOf "_law_wrong" "_law_wrong" (defArgs s__law_wrong) (defBody s__law_wrong) (defScope s__law_wrong) .none kV doc pm an (.ref c) ct) ["box", "disk", "own"] (spWrong K a.Disk [(Pt, (("_law_wrong" : Str) ++ ".<locals>.") ++ "<lambda>")]) := by
  generalize hLTd : [(Pt, (("_law_wrong" : Str) ++ ".<locals>.") ++ "<lambda>")] = LT
  have hLT : (Pt, (("_law_wrong" : Str) ++ ".<locals>.") ++ "<lambda>") ∈ LT := by rw [← hLTd]; exact List.mem_singleton.mpr rfl
  have huT : ∀ p ∈ LT, p.1 = Pt → p.2 = (("_law_wrong" : Str) ++ ".<locals>.") ++ "<lambda>" := by
    rw [← hLTd]
    intro p hp _
    rw [List.mem_singleton.mp hp]
  refine LamX.fn_okC lk hcd sc__law_wrong (fun vs H Q E h => ?_) (fun A outer s H vs Q E hr h => ?_)
  · obtain ⟨b, d, o, cl, ql, l0, l1, cs, os, qs, ws, rfl, _⟩ := h
    rfl
  · obtain ⟨b, d, o, cl, ql, l0, l1, cs, os, qs, ws, rfl, S, hT, k⟩ := h
    refine ⟨_, (pss_cons (ps_asg (pe_tup (pa_cons (pe_callB (lenK (K := K) rfl) (by rfl) T.z_len (by decide +kernel) (pa_cons (pe_ix (ix_listK (K := K) rfl) (pv 2) pe_int (fun _ _ => rfl)) pa_nil)) (pa_cons (pe_callB (lenK (K := K) rfl) (by rfl) T.z_len (by decide +kernel) (pa_cons (pe_ix (ix_listK (K := K) rfl) (pv 2) pe_int (fun _ _ => rfl)) pa_nil)) pa_nil))) (pg_tup (by rfl) (pgs_cons (pg_name (i := 3) sc__law_wrong.nd rfl (Or.inr rfl)) (pgs_cons (pg_name (i := 4) sc__law_wrong.nd rfl (Or.inr rfl)) pgs_nil))))
    (pss_cons (ps_set (i := 5) sc__law_wrong.nd rfl (Or.inr rfl) (pe_call G__law_pick (hr.mono (by decide)) rfl T.g__law_pick T.k__law_pick b__law_pick .nil pass0 (pa_cons (pv 0) (pa_cons (pe_lst (pa_cons (pe_un un_neg pe_int) (pa_cons (pv 3) (pa_cons pe_non (pa_cons pe_str (pa_cons pe_bl (pa_cons (pe_tup (pa_cons pe_int pa_nil)) (pa_cons (pe_op op_add (pv 3) pe_int) pa_nil)))))))) pa_nil))))
    (pss_cons (ps_set (i := 6) sc__law_wrong.nd rfl (Or.inr rfl) (pe_call G__law_pick (hr.mono (by decide)) rfl T.g__law_pick T.k__law_pick b__law_pick .nil pass0 (pa_cons (pv 0) (pa_cons (pe_lst (pa_cons pe_non (pa_cons pe_int (pa_cons (pe_lst (pa_cons pe_int pa_nil)) (pa_cons pe_str (pa_cons pe_bl pa_nil)))))) pa_nil))))
    (pss_cons (ps_set (i := 7) sc__law_wrong.nd rfl (Or.inr rfl) (pe_call G__law_pick (hr.mono (by decide)) rfl T.g__law_pick T.k__law_pick b__law_pick .nil pass0 (pa_cons (pv 0) (pa_cons (pe_lst (pa_cons pe_non (pa_cons pe_int (pa_cons (pe_lst (pa_cons pe_int pa_nil)) (pa_cons (pe_tup (pa_cons (pv 4) pa_nil)) (pa_cons (pe_tup (pa_cons (pe_un un_neg pe_int) pa_nil)) (pa_cons (pe_tup (pa_cons pe_bl pa_nil)) (pa_cons (pe_tup (pa_cons pe_int (pa_cons pe_int pa_nil))) (pa_cons (pe_tup (pa_cons pe_str pa_nil)) (pa_cons (pe_tupRg rfl rfl T.z_tuple (prg_1 rfl T.z_range (pe_op op_add (pv 4) pe_int))) pa_nil)))))))))) pa_nil))))
    (pss_cons (ps_if (pt_not (pt_val (pe_call G__law_same (hr.mono (by decide)) rfl T.g__law_same T.k__law_same b__law_same .nil pass0 (pa_cons (LamX.pe_lamcall (T := LT) (TT := LamX.TTold2 K a.Refused a.Refused "told" "refused") rfl T.g__law_heard T.k__law_heard lkH cgH bH sc__law_heard rfl (.inl rfl) (LamX.heard_gives T.C_Refused rfl T.C_Refused.gC (by decide) T.C_Refused.te sc__law_heard.nd rfl rfl (by decide) (by decide) (fun _ => rfl)) TB rfl hLT huT (hr.mono (by decide) : Room (6 + 2) _) (LamX.lamS_by (show LamX.lamSB (defScope s__law_wrong) _ = true by decide +kernel)) rfl (fun _ _ _ _ _ => rfl) (fun A outer s H E f c' hr => (pe_meth (pv 1) T.cl_Disk T.m_Disk_put G_Disk_put (hr.mono (by decide)) b_Disk_put .nil LamX.passLam (pa_cons (pv 5) (pa_cons (pe_call G__law_pick (hr.mono (by decide)) rfl T.g__law_pick T.k__law_pick b__law_pick .nil pass0 (pa_cons (pv 0) (pa_cons (pe_lst (pa_cons (pv 6) (pa_cons (pe_tup (pa_cons pe_int pa_nil)) pa_nil))) pa_nil))) pa_nil))))) (pa_cons (pe_tup (pa_cons pe_str (pa_cons pe_str pa_nil))) pa_nil))))) (pss_one (ps_ret pe_bl)) pss_nil)
    (pss_cons (ps_if (pt_not (pt_val (pe_call G__law_same (hr.mono (by decide)) rfl T.g__law_same T.k__law_same b__law_same .nil pass0 (pa_cons (LamX.pe_lamcall (T := LT) (TT := LamX.TTold2 K a.Refused a.Refused "told" "refused") rfl T.g__law_heard T.k__law_heard lkH cgH bH sc__law_heard rfl (.inl rfl) (LamX.heard_gives T.C_Refused rfl T.C_Refused.gC (by decide) T.C_Refused.te sc__law_heard.nd rfl rfl (by decide) (by decide) (fun _ => rfl)) TB rfl hLT huT (hr.mono (by decide) : Room (6 + 2) _) (LamX.lamS_by (show LamX.lamSB (defScope s__law_wrong) _ = true by decide +kernel)) rfl (fun _ _ _ _ _ => rfl) (fun A outer s H E f c' hr => (pe_meth (pv 1) T.cl_Disk T.m_Disk_put G_Disk_put (hr.mono (by decide)) b_Disk_put .nil LamX.passLam (pa_cons (pe_call G__law_take (hr.mono (by decide)) rfl T.g__law_take T.k__law_take b__law_take .nil pass0 (pa_cons (pv 0) (pa_cons (pv 3) pa_nil))) (pa_cons (pv 6) pa_nil))))) (pa_cons (pe_tup (pa_cons pe_str (pa_cons pe_str pa_nil))) pa_nil))))) (pss_one (ps_ret pe_bl)) pss_nil)
    (pss_cons (ps_if (pt_not (pt_val (pe_call G__law_same (hr.mono (by decide)) rfl T.g__law_same T.k__law_same b__law_same .nil pass0 (pa_cons (LamX.pe_lamcall (T := LT) (TT := LamX.TTold2 K a.Refused a.Refused "told" "refused") rfl T.g__law_heard T.k__law_heard lkH cgH bH sc__law_heard rfl (.inl rfl) (LamX.heard_gives T.C_Refused rfl T.C_Refused.gC (by decide) T.C_Refused.te sc__law_heard.nd rfl rfl (by decide) (by decide) (fun _ => rfl)) TB rfl hLT huT (hr.mono (by decide) : Room (6 + 2) _) (LamX.lamS_by (show LamX.lamSB (defScope s__law_wrong) _ = true by decide +kernel)) rfl (fun _ _ _ _ _ => rfl) (fun A outer s H E f c' hr => (pe_meth (pv 1) T.cl_Disk T.m_Disk_read G_Disk_read (hr.mono (by decide)) b_Disk_read .nil LamX.passLam (pa_cons (pv 5) pa_nil)))) (pa_cons (pe_tup (pa_cons pe_str (pa_cons pe_str pa_nil))) pa_nil))))) (pss_one (ps_ret pe_bl)) pss_nil)
    (pss_cons (ps_if (pt_not (pt_val (pe_call G__law_same (hr.mono (by decide)) rfl T.g__law_same T.k__law_same b__law_same .nil pass0 (pa_cons (LamX.pe_lamcall (T := LT) (TT := LamX.TTold2 K a.Refused a.Refused "told" "refused") rfl T.g__law_heard T.k__law_heard lkH cgH bH sc__law_heard rfl (.inl rfl) (LamX.heard_gives T.C_Refused rfl T.C_Refused.gC (by decide) T.C_Refused.te sc__law_heard.nd rfl rfl (by decide) (by decide) (fun _ => rfl)) TB rfl hLT huT (hr.mono (by decide) : Room (6 + 2) _) (LamX.lamS_by (show LamX.lamSB (defScope s__law_wrong) _ = true by decide +kernel)) rfl (fun _ _ _ _ _ => rfl) (fun A outer s H E f c' hr => (pe_meth (pv 1) T.cl_Disk T.m_Disk_cut G_Disk_cut (hr.mono (by decide)) b_Disk_cut .nil LamX.passLam (pa_cons (pv 7) (pa_cons (pe_tup pa_nil) pa_nil))))) (pa_cons (pe_tup (pa_cons pe_str (pa_cons pe_str pa_nil))) pa_nil))))) (pss_one (ps_ret pe_bl)) pss_nil)
    (pss_cons (ps_if (pt_not (pt_val (pe_call G__law_same (hr.mono (by decide)) rfl T.g__law_same T.k__law_same b__law_same .nil pass0 (pa_cons (LamX.pe_lamcall (T := LT) (TT := LamX.TTold2 K a.Refused a.Refused "told" "refused") rfl T.g__law_heard T.k__law_heard lkH cgH bH sc__law_heard rfl (.inl rfl) (LamX.heard_gives T.C_Refused rfl T.C_Refused.gC (by decide) T.C_Refused.te sc__law_heard.nd rfl rfl (by decide) (by decide) (fun _ => rfl)) TB rfl hLT huT (hr.mono (by decide) : Room (6 + 2) _) (LamX.lamS_by (show LamX.lamSB (defScope s__law_wrong) _ = true by decide +kernel)) rfl (fun _ _ _ _ _ => rfl) (fun A outer s H E f c' hr => (pe_meth (pv 1) T.cl_Disk T.m_Disk_cut G_Disk_cut (hr.mono (by decide)) b_Disk_cut .nil LamX.passLam (pa_cons (pe_tup pa_nil) (pa_cons (pv 7) pa_nil))))) (pa_cons (pe_tup (pa_cons pe_str (pa_cons pe_str pa_nil))) pa_nil))))) (pss_one (ps_ret pe_bl)) pss_nil)
    (pss_cons (ps_if (pt_cmpR op_eq (pv 4) pe_int (nomark _)) (pss_one (ps_ret pe_bl)) pss_nil)
    (pss_one (ps_ret (pe_call G__law_same (hr.mono (by decide)) rfl T.g__law_same T.k__law_same b__law_same .nil pass0 (pa_cons (LamX.pe_lamcall (T := LT) (TT := LamX.TTold2 K a.Refused a.Refused "told" "refused") rfl T.g__law_heard T.k__law_heard lkH cgH bH sc__law_heard rfl (.inl rfl) (LamX.heard_gives T.C_Refused rfl T.C_Refused.gC (by decide) T.C_Refused.te sc__law_heard.nd rfl rfl (by decide) (by decide) (fun _ => rfl)) TB rfl hLT huT (hr.mono (by decide) : Room (6 + 2) _) (LamX.lamS_by (show LamX.lamSB (defScope s__law_wrong) _ = true by decide +kernel)) rfl (fun _ _ _ _ _ => rfl) (fun A outer s H E f c' hr => (pe_meth (pv 1) T.cl_Disk T.m_Disk_cut G_Disk_cut (hr.mono (by decide)) b_Disk_cut .nil LamX.passLam (pa_cons (pe_tup (pa_cons (pe_op op_sub (pv 4) pe_int) pa_nil)) (pa_cons (pe_tup (pa_cons (pe_op op_sub (pv 4) pe_int) pa_nil)) pa_nil))))) (pa_cons (pe_tup (pa_cons pe_str (pa_cons pe_str pa_nil))) pa_nil))))))))))))))), ?_⟩
    obtain ⟨wv, hwv, rq⟩ := S.own.que
    have ol : os.length ≤ 400 := S.own.big
    have wl : ws.length ≤ 10000 := S.own.few
    have ntb : NoT [b] H := S.box.noT
    -- many, waits
    refine ⟨_, rfl, o, _, 0, _, rfl, rfl, SqL.of S.own.obj, rfl, l0, _, rfl, .inl (SqL.of S.own.cel), _, rfl, o, _, 1, _, rfl, rfl, SqL.of S.own.obj, rfl, l1, _, rfl, .inl (SqL.of hwv), (by show 2 ≤ sizeLine; decide), fun p hp => ⟨p, _, rfl, SqT.of upd_same, rfl, _, _, rfl, _, _, rfl, rfl, ?_⟩⟩
    have e1 := Same.new (o := .tup [V.int os.length, .int wv.length]) hp
    generalize upd H p (.tup [V.int os.length, .int wv.length]) = H1 at e1
    rw [rq.1, ← S.ce.1, ← S.qe.1]
    have S1 := S.same e1
    have T1 := LamX.Tabs.ext hT e1
    have csl := S.disk.big
    have csg := S.disk.low
    have qsl := S.disk.few
    have nosm : ∀ m : Str, ¬ m = "queue" → ¬ m = "cells" → (pf cl ql).lookup m = none := fun m h1 h2 => pf_no _ _ h1 h2
    -- slot
    refine ⟨_, rfl, _, rfl, _, rfl, (by show 1 ≤ sizeLine; decide), fun t ht => ⟨_, rfl, _, _, rfl, rfl, (by show 7 ≤ sizeLine; decide), fun l hl => ?_⟩⟩
    have ea := Same.new (o := .tup [V.int 0]) ht
    have eb := Same.new (o := .lst [V.int (-1), .int cs.length, .non, .str "0", .bl true, .ref t, .int ((cs.length : Int) + 400)]) hl
    have nlb : l ≠ b := by
      obtain ⟨z, s', n', hbb⟩ := S1.box
      exact (ne_of_none (ea _ _ hbb) hl).symm
    refine ⟨b, l, _, rfl, (S1.box.keep (ExB.of (ea.trans eb) : ExB [] _ _) (by simp)), upd_same, nlb, (by show 0 < 7; decide), (by show 7 < 1000000; decide), fun H2 sl e2 hb2 hsl => ?_⟩
    have e12 : ExB [b] H1 H2 := (ExB.of (ea.trans eb)).trans e2
    have S2 := (S1.same (ea.trans eb)).boxed e2 hb2
    have T2 : LamX.Tabs LT H2 := tabs_exB (LamX.Tabs.ext T1 (ea.trans eb)) e2 (fun x hx => by
      rw [List.mem_singleton.mp hx]
      obtain ⟨z, s', n', hbb⟩ := S1.box
      exact .inl ⟨_, (ea.trans eb) _ _ hbb⟩)
    have P2 : SlotP K H2 cs.length sl := by
      have ntb2 := (S1.same (ea.trans eb)).box.noT
      simp only [List.mem_cons, List.not_mem_nil, or_false] at hsl
      rcases hsl with rfl | rfl | rfl | rfl | rfl | rfl | rfl
      · exact ⟨by simp [numV], .inl True.intro⟩
      · exact ⟨by simp [numV]; omega, .inl True.intro⟩
      · exact ⟨rfl, .inl True.intro⟩
      · exact ⟨rfl, .inl True.intro⟩
      · exact ⟨rfl, .inl True.intro⟩
      · exact ⟨rfl, .inr ⟨t, rfl, e2.sqT ntb2 (SqT.of (eb _ _ upd_same))⟩⟩
      · exact ⟨by simp [numV]; omega, .inl True.intro⟩
    -- row
    refine ⟨_, rfl, (by show 1 ≤ sizeLine; decide), fun r hr0 => ⟨(by show 5 ≤ sizeLine; decide), fun l2 hl2 => ?_⟩⟩
    have ea2 := Same.new (o := .lst [V.int 0]) hr0
    have eb2 := Same.new (o := .lst [V.non, .int 0, .ref r, .str "row", .bl true]) hl2
    have nrb : r ≠ b := by
      obtain ⟨z, s', n', hbb⟩ := S2.box
      exact (ne_of_none hbb hr0).symm
    have nl2b : l2 ≠ b := by
      obtain ⟨z, s', n', hbb⟩ := S2.box
      exact (ne_of_none (ea2 _ _ hbb) hl2).symm
    refine ⟨b, l2, _, rfl, (S2.box.keep (ExB.of (ea2.trans eb2) : ExB [] _ _) (by simp)), upd_same, nl2b, (by show 0 < 5; decide), (by show 5 < 1000000; decide), fun H3 ro e3 hb3 hro => ?_⟩
    have S3 := (S2.same (ea2.trans eb2)).boxed e3 hb3
    have T3 : LamX.Tabs LT H3 := tabs_exB (LamX.Tabs.ext T2 (ea2.trans eb2)) e3 (fun x hx => by
      rw [List.mem_singleton.mp hx]
      obtain ⟨z, s', n', hbb⟩ := S2.box
      exact .inl ⟨_, (ea2.trans eb2) _ _ hbb⟩)
    have w23 : ExW [b] H2 H3 := (ExB.w (ExB.of (ea2.trans eb2))).trans e3.w
    have P3 : SlotP K H3 cs.length sl := P2.keep w23 S2.box.noT
    have R3 : RowP H3 b ro := by
      simp only [List.mem_cons, List.not_mem_nil, or_false] at hro
      rcases hro with rfl | rfl | rfl | rfl | rfl
      · exact .inl True.intro
      · exact .inl True.intro
      · exact .inr ⟨r, rfl, nrb, e3 _ _ (eb2 _ _ upd_same) (by simp [nrb])⟩
      · exact .inl True.intro
      · exact .inl True.intro
    -- odd
    refine ⟨_, rfl, (by show 1 ≤ sizeLine; decide), fun q0 hq0 => ⟨_, rfl, (by show 1 ≤ sizeLine; decide), fun q1 hq1 => ⟨_, rfl, (by show 1 ≤ sizeLine; decide), fun q2 hq2 => ⟨(by show 1 ≤ sizeLine; decide), fun q3 hq3 => ⟨(by show 2 ≤ sizeLine; decide), fun q4 hq4 => ⟨(by show 1 ≤ sizeLine; decide), fun q5 hq5 => ?_⟩⟩⟩⟩⟩⟩
    refine ⟨_, rfl, _, _, rfl, rfl, _, rfl, RgOk.of_le (by omega) (by omega) (by omega) (by omega), fun q6 hq6 => ⟨(by show 9 ≤ sizeLine; decide), fun l3 hl3 => ?_⟩⟩
    have s0 := Same.new (o := .lst [V.int 0]) hq0
    have s1 := Same.new (o := .tup [V.int qs.length]) hq1
    have s2 := Same.new (o := .tup [V.int (-1)]) hq2
    have s3 := Same.new (o := .tup [V.bl true]) hq3
    have s4 := Same.new (o := .tup [V.int 0, .int 0]) hq4
    have s5 := Same.new (o := .tup [V.str "0"]) hq5
    have s6 := Same.new (o := .tup (rgV 0 ((qs.length : Int) + 1))) hq6
    have s7 := Same.new (o := .lst [V.non, .int 0, .ref q0, .ref q1, .ref q2, .ref q3, .ref q4, .ref q5, .ref q6]) hl3
    have s17 := ((((((s1.trans s2).trans s3).trans s4).trans s5).trans s6).trans s7)
    have s07 := s0.trans s17
    have hq0b : q0 ≠ b := by
      obtain ⟨z, s', n', hbb⟩ := S3.box
      exact (ne_of_none hbb hq0).symm
    have nl3b : l3 ≠ b := by
      obtain ⟨z, s', n', hbb⟩ := S3.box
      exact (ne_of_none ((((((((s0.trans s1).trans s2).trans s3).trans s4).trans s5).trans s6)) _ _ hbb) hl3).symm
    refine ⟨b, l3, _, rfl, (S3.box.keep (ExB.of s07 : ExB [] _ _) (by simp)), upd_same, nl3b, (by show 0 < 9; decide), (by show 9 < 1000000; decide), fun H4 od e4 hb4 hod => ?_⟩
    have S4 := (S3.same s07).boxed e4 hb4
    have T4 : LamX.Tabs LT H4 := tabs_exB (LamX.Tabs.ext T3 s07) e4 (fun x hx => by
      rw [List.mem_singleton.mp hx]
      obtain ⟨z, s', n', hbb⟩ := S3.box
      exact .inl ⟨_, s07 _ _ hbb⟩)
    have w34 : ExW [b] H3 H4 := (ExB.w (ExB.of s07)).trans e4.w
    have P4 : SlotP K H4 cs.length sl := P3.keep w34 S3.box.noT
    have R4 : RowP H4 b ro := R3.keep w34
    have nt4 := (S3.same s07).box.noT
    have O4 : OddP K H4 b qs.length od := by
      simp only [List.mem_cons, List.not_mem_nil, or_false] at hod
      rcases hod with rfl | rfl | rfl | rfl | rfl | rfl | rfl | rfl | rfl
      · exact .inl (.inl True.intro)
      · exact .inl (.inl True.intro)
      · exact .inl (.inr ⟨q0, rfl, hq0b, e4 _ _ (s17 _ _ upd_same) (by simp [hq0b])⟩)
      · exact .inr ⟨q1, _, rfl, e4.sqT nt4 (SqT.of ((((((s2.trans s3).trans s4).trans s5).trans s6).trans s7) _ _ upd_same)), (by intro y hy; rw [List.mem_singleton.mp hy]; exact True.intro), (by show 1 ≤ 100000; decide), by simp [lotB, numV]; omega⟩
      · exact .inr ⟨q2, _, rfl, e4.sqT nt4 (SqT.of (((((s3.trans s4).trans s5).trans s6).trans s7) _ _ upd_same)), (by intro y hy; rw [List.mem_singleton.mp hy]; exact True.intro), (by show 1 ≤ 100000; decide), by simp [lotB, numV]⟩
      · exact .inr ⟨q3, _, rfl, e4.sqT nt4 (SqT.of ((((s4.trans s5).trans s6).trans s7) _ _ upd_same)), (by intro y hy; rw [List.mem_singleton.mp hy]; exact True.intro), (by show 1 ≤ 100000; decide), by simp [lotB, numV]⟩
      · exact .inr ⟨q4, _, rfl, e4.sqT nt4 (SqT.of (((s5.trans s6).trans s7) _ _ upd_same)), (by intro y hy; simp at hy; rw [hy]; exact True.intro), (by show 2 ≤ 100000; decide), by simp [lotB, ascI, toI]⟩
      · exact .inr ⟨q5, _, rfl, e4.sqT nt4 (SqT.of ((s6.trans s7) _ _ upd_same)), (by intro y hy; rw [List.mem_singleton.mp hy]; exact True.intro), (by show 1 ≤ 100000; decide), by simp [lotB, numV]⟩
      · refine .inr ⟨q6, _, rfl, e4.sqT nt4 (SqT.of (s7 _ _ upd_same)), ?_, ?_, ?_⟩
        · intro y hy
          obtain ⟨j, _, rfl⟩ := List.mem_map.mp hy
          exact True.intro
        · rw [rgV_length]; omega
        · have hz : ((rgV 0 ((qs.length : Int) + 1)).map fun y => numV y (.int ((qs.length : Int) - 1))).all id = false := by
            rw [List.all_eq_false]
            refine ⟨false, List.mem_map.mpr ⟨.int (qs.length : Int), ?_, by simp [numV]; omega⟩, by simp⟩
            refine List.mem_map.mpr ⟨qs.length, List.mem_range.mpr (by omega), by simp⟩
          unfold lotB
          rw [hz]; rfl
    have w04 : ExW [b] H H4 := (ExW.of e1).trans ((e12.w.trans w23).trans w34)
    -- check 1: put into no slot
    have two : ∀ x y : V, ([x, y] : List V).length ≤ sizeLine := fun _ _ => (by show 2 ≤ sizeLine; decide)
    refine ⟨T4, fun H5 eN5 T5 => ?_⟩
    have w5 : ExW [b] H4 H5 := ExW.ext eN5
    have S5 := S4.keepW w5 (S4.box.keepW (ExW.ext eN5 : ExW [] _ _) (by simp))
    have P5 := P4.keep w5 S4.box.noT
    have R5 := R4.keep w5
    have O5 := O4.keep w5 S4.box.noT
    obtain ⟨dx5, hd5⟩ := S5.disk.obj
    refine ⟨_, rfl, d, dx5, _, rfl, hd5, nosm _ (by decide +kernel) (by decide +kernel), _, rfl, _, rfl, _, rfl, (by show 1 ≤ sizeLine; decide), fun t5 ht5 => ⟨two _ _, fun l5 hl5 => ?_⟩⟩
    have u1 := Same.new (o := .tup [V.int 1]) ht5
    have u2 := Same.new (o := .lst [ro, .ref t5]) hl5
    have u12 := u1.trans u2
    have nl5b : l5 ≠ b := by
      obtain ⟨z, s', n', hbb⟩ := S5.box
      exact (ne_of_none (u1 _ _ hbb) hl5).symm
    have S5' := S5.same u12
    refine ⟨b, l5, _, rfl, S5'.box, upd_same, nl5b, (by show 0 < 2; decide), (by show 2 < 1000000; decide), fun H6 x6 e6 hb6 hx6 => ?_⟩
    have S6 := S5'.boxed e6 hb6
    have w6 : ExW [b] H5 H6 := (ExW.of u12).trans e6.w
    have T6 : LamX.Tabs LT H6 := tabs_exB (LamX.Tabs.ext T5 u12) e6 (fun x hx => by
      rw [List.mem_singleton.mp hx]
      obtain ⟨z, s', n', hbb⟩ := S5'.box
      exact .inl ⟨_, hbb⟩)
    have P6 := P5.keep w6 S5.box.noT
    have R6 := R5.keep w6
    have O6 := O5.keep w6 S5.box.noT
    have k6 : Kd K H6 x6 := by
      simp only [List.mem_cons, List.not_mem_nil, or_false] at hx6
      rcases hx6 with rfl | rfl
      · exact R6.kd.1
      · exact Kd.of_tup (e6.sqT S5'.box.noT (SqT.of (u2 _ _ upd_same)))
    refine ⟨d, cl, ql, cs, qs, sl, x6, rfl, S6.disk, P6.kd, k6, .inr (.inl ⟨P6.1, fun H7 dd e7 hdd => ⟨rfl, dd, _, rfl, hdd, fun p7 hp7 => ⟨two _ _, fun r7 hr7 => ?_⟩⟩⟩)⟩
    have e78 := e7.trans (Same.new (o := .tup [V.str "refused", .str "slot"]) hp7)
    have e79 := e78.trans (Same.new (o := .tup [V.str "refused", .str "slot"]) hr7)
    refine ⟨_, _, rfl, eq2 (Same.new hr7 _ _ upd_same) upd_same, fun H8 e8 => ⟨_, rfl, ?_⟩⟩
    have e68 := e79.trans e8
    have S8 := S6.same e68
    have T8 := LamX.Tabs.ext T6 e68
    have w8 : ExW [b] H6 H8 := ExW.of e68
    have P8 := P6.keep w8 S6.box.noT
    have R8 := R6.keep w8
    have O8 := O6.keep w8 S6.box.noT
    have w08 : ExW [b] H H8 := ((w04.trans w5).trans w6).trans w8
    -- check 2: put what is no row
    refine ⟨T8, fun G1 eG1 TG1 => ?_⟩
    have v1 : ExW [b] H8 G1 := ExW.ext eG1
    have SG1 := S8.keepW v1 (S8.box.keepW (ExW.ext eG1 : ExW [] _ _) (by simp))
    obtain ⟨dxG1, hdG1⟩ := SG1.disk.obj
    refine ⟨_, rfl, d, dxG1, _, rfl, hdG1, nosm _ (by decide +kernel) (by decide +kernel), _, rfl, _, rfl, b, _, rfl, SG1.box, (by omega), (by omega), fun G2 i2 eG2 hbG2 i20 i21 => ?_⟩
    obtain ⟨j2, rfl⟩ : ∃ j2 : Nat, i2 = (j2 : Int) := ⟨i2.toNat, by omega⟩
    have SG2 := SG1.boxed eG2 hbG2
    have v2 : ExW [b] H8 G2 := v1.trans eG2.w
    have TG2 : LamX.Tabs LT G2 := tabs_exB TG1 eG2 (fun x hx => by
      rw [List.mem_singleton.mp hx]
      obtain ⟨z, s', n', hbb⟩ := SG1.box
      exact .inl ⟨_, hbb⟩)
    have PG2 := P8.keep v2 S8.box.noT
    have RG2 := R8.keep v2
    have OG2 := O8.keep v2 S8.box.noT
    refine ⟨_, rfl, d, cl, ql, cs, qs, .int j2, ro, rfl, SG2.disk, Kd.int _, RG2.kd.1, .inr (.inr ⟨⟨j2, rfl, (show j2 < cs.length by omega)⟩, RG2.kd.2, fun G3 dd eG3 hdd => ⟨rfl, dd, _, rfl, hdd, fun p7 hp7 => ⟨two _ _, fun r7 hr7 => ?_⟩⟩⟩)⟩
    have eG4 := (eG3.trans (Same.new (o := .tup [V.str "refused", .str "row"]) hp7)).trans (Same.new (o := .tup [V.str "refused", .str "row"]) hr7)
    refine ⟨_, _, rfl, eq2 (Same.new hr7 _ _ upd_same) upd_same, fun G5 eG5 => ⟨_, rfl, ?_⟩⟩
    have eG25 := eG4.trans eG5
    have SG5 := SG2.same eG25
    have TG5 := LamX.Tabs.ext TG2 eG25
    have PG5 := PG2.keep (ExW.of eG25) SG2.box.noT
    have OG5 := OG2.keep (ExW.of eG25) SG2.box.noT
    have w0G : ExW [b] H G5 := (w08.trans v2).trans (ExW.of eG25)
    -- check 3: read no slot
    refine ⟨TG5, fun J1 eJ1 TJ1 => ?_⟩
    have y1 : ExW [b] G5 J1 := ExW.ext eJ1
    have SJ1 := SG5.keepW y1 (SG5.box.keepW (ExW.ext eJ1 : ExW [] _ _) (by simp))
    have PJ1 := PG5.keep y1 SG5.box.noT
    have OJ1 := OG5.keep y1 SG5.box.noT
    obtain ⟨dxJ1, hdJ1⟩ := SJ1.disk.obj
    refine ⟨_, rfl, d, dxJ1, _, rfl, hdJ1, nosm _ (by decide +kernel) (by decide +kernel), _, rfl, d, cl, ql, cs, qs, sl, rfl, SJ1.disk, PJ1.kd, .inr ⟨PJ1.1, fun J3 dd eJ3 hdd => ⟨rfl, dd, _, rfl, hdd, fun p7 hp7 => ⟨two _ _, fun r7 hr7 => ?_⟩⟩⟩⟩
    have eJ4 := (eJ3.trans (Same.new (o := .tup [V.str "refused", .str "slot"]) hp7)).trans (Same.new (o := .tup [V.str "refused", .str "slot"]) hr7)
    refine ⟨_, _, rfl, eq2 (Same.new hr7 _ _ upd_same) upd_same, fun J5 eJ5 => ⟨_, rfl, ?_⟩⟩
    have eJ15 := eJ4.trans eJ5
    have SJ5 := SJ1.same eJ15
    have TJ5 := LamX.Tabs.ext TJ1 eJ15
    have OJ5 := OJ1.keep (ExW.of eJ15) SJ1.box.noT
    have w0J : ExW [b] H J5 := (w0G.trans y1).trans (ExW.of eJ15)
    -- check 4: a cut that keeps what is no lot
    refine ⟨TJ5, fun L1 eL1 TL1 => ?_⟩
    have z1 : ExW [b] J5 L1 := ExW.ext eL1
    have SL1 := SJ5.keepW z1 (SJ5.box.keepW (ExW.ext eL1 : ExW [] _ _) (by simp))
    have OL1 := OJ5.keep z1 SJ5.box.noT
    obtain ⟨dxL1, hdL1⟩ := SL1.disk.obj
    refine ⟨_, rfl, d, dxL1, _, rfl, hdL1, nosm _ (by decide +kernel) (by decide +kernel), _, rfl, Nat.zero_le _, fun t6 ht6 => ?_⟩
    have eL2 := Same.new (o := .tup []) ht6
    refine ⟨d, cl, ql, cs, qs, od, .ref t6, false, _, rfl, SL1.disk.same eL2, OL1.lot.same eL2, .inl ⟨t6, [], rfl, SqT.of upd_same, fun _ h => (nomatch h), Nat.zero_le _, rfl⟩, .inl ⟨.inl rfl, fun L3 dd eL3 hdd => ⟨rfl, dd, _, rfl, hdd, fun p7 hp7 => ⟨two _ _, fun r7 hr7 => ?_⟩⟩⟩⟩
    have eL4 := ((eL2.trans eL3).trans (Same.new (o := .tup [V.str "refused", .str "puts"]) hp7)).trans (Same.new (o := .tup [V.str "refused", .str "puts"]) hr7)
    refine ⟨_, _, rfl, eq2 (Same.new hr7 _ _ upd_same) upd_same, fun L5 eL5 => ⟨_, rfl, ?_⟩⟩
    have eL15 := eL4.trans eL5
    have SL5 := SL1.same eL15
    have TL5 := LamX.Tabs.ext TL1 eL15
    have OL5 := OL1.keep (ExW.of eL15) SL1.box.noT
    have w0L : ExW [b] H L5 := (w0J.trans z1).trans (ExW.of eL15)
    -- check 5: a cut that tears what is no lot
    refine ⟨TL5, fun M1 eM1 TM1 => ?_⟩
    have x1 : ExW [b] L5 M1 := ExW.ext eM1
    have SM1 := SL5.keepW x1 (SL5.box.keepW (ExW.ext eM1 : ExW [] _ _) (by simp))
    have OM1 := OL5.keep x1 SL5.box.noT
    obtain ⟨dxM1, hdM1⟩ := SM1.disk.obj
    refine ⟨_, rfl, d, dxM1, _, rfl, hdM1, nosm _ (by decide +kernel) (by decide +kernel), Nat.zero_le _, fun t7 ht7 => ⟨_, rfl, ?_⟩⟩
    have eM2 := Same.new (o := .tup []) ht7
    refine ⟨d, cl, ql, cs, qs, .ref t7, od, _, false, rfl, SM1.disk.same eM2, .inl ⟨t7, [], rfl, SqT.of upd_same, fun _ h => (nomatch h), Nat.zero_le _, rfl⟩, OM1.lot.same eM2, .inl ⟨.inr rfl, fun M3 dd eM3 hdd => ⟨rfl, dd, _, rfl, hdd, fun p7 hp7 => ⟨two _ _, fun r7 hr7 => ?_⟩⟩⟩⟩
    have eM4 := ((eM2.trans eM3).trans (Same.new (o := .tup [V.str "refused", .str "puts"]) hp7)).trans (Same.new (o := .tup [V.str "refused", .str "puts"]) hr7)
    refine ⟨_, _, rfl, eq2 (Same.new hr7 _ _ upd_same) upd_same, fun M5 eM5 => ⟨_, rfl, ?_⟩⟩
    have eM15 := eM4.trans eM5
    have SM5 := SM1.same eM15
    have TM5 := LamX.Tabs.ext TM1 eM15
    have w0M : ExW [b] H M5 := (w0L.trans x1).trans (ExW.of eM15)
    -- check 6
    refine ⟨_, rfl, rfl, _, rfl, ?_⟩
    refine ite2 (fun c0 => k _ w0M SM5.box TM5) (fun c0 => ?_)
    have c0 : qs.length ≠ 0 := fun z => c0 (by rw [z]; simp)
    refine ⟨TM5, fun N1 eN1 TN1 => ?_⟩
    have n1 : ExW [b] M5 N1 := ExW.ext eN1
    have SN1 := SM5.keepW n1 (SM5.box.keepW (ExW.ext eN1 : ExW [] _ _) (by simp))
    obtain ⟨dxN1, hdN1⟩ := SN1.disk.obj
    refine ⟨_, rfl, d, dxN1, _, rfl, hdN1, nosm _ (by decide +kernel) (by decide +kernel), _, rfl, _, _, rfl, rfl, (by show 1 ≤ sizeLine; decide), fun t8 ht8 => ⟨_, rfl, _, _, rfl, rfl, (by show 1 ≤ sizeLine; decide), fun t9 ht9 => ?_⟩⟩
    have o1 := Same.new (o := .tup [V.int ((qs.length : Int) - 1)]) ht8
    have o2 := Same.new (o := .tup [V.int ((qs.length : Int) - 1)]) ht9
    have lot1 : lotB ((qs.length : Int) - 1) [V.int ((qs.length : Int) - 1)] = true := by simp [lotB, numV, ascI]; omega
    have kd1 : ∀ HH : Hp, ∀ y ∈ [V.int ((qs.length : Int) - 1)], Kd K HH y := fun HH y hy => by rw [List.mem_singleton.mp hy]; exact Kd.int _
    refine ⟨d, cl, ql, cs, qs, .ref t8, .ref t9, true, true, rfl, SN1.disk.same (o1.trans o2), .inl ⟨t8, _, rfl, SqT.of (o2 _ _ upd_same), kd1 _, (by show 1 ≤ 100000; decide), lot1.symm⟩, .inl ⟨t9, _, rfl, SqT.of upd_same, kd1 _, (by show 1 ≤ 100000; decide), lot1.symm⟩,
      .inr ⟨rfl, rfl, t8, t9, [(qs.length : Int) - 1], [(qs.length : Int) - 1], rfl, rfl, SqT.of (o2 _ _ upd_same), SqT.of upd_same, (by show 1 ≤ 100000; decide), .inl ⟨⟨_, List.mem_singleton.mpr rfl, List.mem_singleton.mpr rfl⟩, fun N3 dd eN3 hdd => ⟨rfl, dd, _, rfl, hdd, fun p7 hp7 => ⟨two _ _, fun r7 hr7 => ?_⟩⟩⟩⟩⟩
    have eN4 := (((o1.trans o2).trans eN3).trans (Same.new (o := .tup [V.str "refused", .str "puts"]) hp7)).trans (Same.new (o := .tup [V.str "refused", .str "puts"]) hr7)
    refine ⟨_, _, rfl, eq2 (Same.new hr7 _ _ upd_same) upd_same, fun N5 eN5 => ?_⟩
    have eN15 := eN4.trans eN5
    exact k _ ((w0M.trans n1).trans (ExW.of eN15)) (SN1.same eN15).box (LamX.Tabs.ext TN1 eN15)
end
end K69

namespace K69
open PySem PySem.Spec PyProof.Rows L2
abbrev s_law : Stmt := top 25
theorem sc_law : FnScope ["script", "k", "box", "many", "wrong", "got", "disk", "own", "turn", "kind", "more", "at", "row", "places", "kept", "torn"] ["script"] (defScope s_law) := ⟨rfl, rfl, rfl, by decide +kernel, rfl, by decide +kernel, by decide +kernel⟩
theorem fallN_all {tv tv' : V} {cs : List V} {qs : List (Nat × V)} {kp tp : Nat → Bool} : ∀ n, (∀ i, i < n → kp i = true) → fallN kp tp tv cs qs n = fallN (fun _ => true) (fun _ => false) tv' cs qs n
  | 0, _ => rfl
  | n + 1, h => by
    have ih := fallN_all (tv := tv) (tv' := tv') (cs := cs) (qs := qs) (kp := kp) (tp := tp) n fun i hi => h i (by omega)
    unfold fallN
    rw [ih]
    split
    · unfold stepF
      rw [if_pos (h n (by omega)), if_pos rfl]
    · rfl
/-- ascending places below n -/
def Asc (ks : List Int) (n : Nat) : Prop := ks.Pairwise (· < ·) ∧ ∀ z ∈ ks, 0 ≤ z ∧ z < n
theorem Asc.nil : Asc [] 0 := ⟨List.Pairwise.nil, fun _ h => nomatch h⟩
theorem Asc.up {ks : List Int} {n : Nat} (h : Asc ks n) : Asc ks (n + 1) := ⟨h.1, fun z hz => ⟨(h.2 z hz).1, by have := (h.2 z hz).2; omega⟩⟩
theorem Asc.more {ks : List Int} {n : Nat} (h : Asc ks n) : Asc (ks ++ [(n : Int)]) (n + 1) := by
  refine ⟨List.pairwise_append.mpr ⟨h.1, List.pairwise_singleton _ _, fun x hx y hy => ?_⟩, fun z hz => ?_⟩
  · rw [List.mem_singleton.mp hy]; exact (h.2 x hx).2
  · rcases List.mem_append.mp hz with hz | hz
    · exact h.up.2 z hz
    · rw [List.mem_singleton.mp hz]; omega
theorem asc_I : ∀ {ks : List Int}, ks.Pairwise (· < ·) → ascI ks = true
  | [], _ => rfl
  | [_], _ => rfl
  | a :: b :: r, h => by
    cases h with
    | cons h1 h2 =>
      show (decide (a < b) && ascI (b :: r)) = true
      rw [asc_I h2, decide_eq_true (h1 b List.mem_cons_self)]; rfl
theorem Asc.lot {ks : List Int} {n : Nat} (h : Asc ks n) : lotB ((n : Int) - 1) (ks.map V.int) = true := by
  have e1 : ((ks.map V.int).map fun y => numV y (.int ((n : Int) - 1))).all id = true := by
    rw [List.all_eq_true]
    intro b hb
    obtain ⟨y, hy, rfl⟩ := List.mem_map.mp hb
    obtain ⟨z, hz, rfl⟩ := List.mem_map.mp hy
    have := h.2 z hz
    simp [numV]; omega
  have e2 : (ks.map V.int).map toI = ks := by rw [List.map_map]; exact List.map_id _
  unfold lotB
  rw [e1, e2, asc_I h.1]; rfl
theorem Asc.len {ks : List Int} {n : Nat} (h : Asc ks n) : ks.length ≤ n := by
  have key : ∀ (l : List Int) (m : Int), l.Pairwise (· < ·) → (∀ z ∈ l, m ≤ z ∧ z < n) → (l.length : Int) ≤ (n : Int) - m ∨ l = [] := by
    intro l
    induction l with
    | nil => intro m _ _; exact .inr rfl
    | cons x r ih =>
      intro m hp hb
      cases hp with
      | cons h1 h2 =>
        have hx := hb x List.mem_cons_self
        rcases ih (x + 1) h2 (fun z hz => ⟨by have := h1 z hz; omega, (hb z (List.mem_cons_of_mem _ hz)).2⟩) with q | q
        · left; simp only [List.length_cons]; omega
        · left; subst q; simp only [List.length_cons, List.length_nil]; omega
  rcases key ks 0 h.1 h.2 with q | q
  · omega
  · subst q; simp
/-- nothing but a table stands there -/
def Nw (H0 : Hp) (x : Addr) : Prop := ∀ o, H0 x = some o → ∃ ps, o = .tbl ps
theorem Nw.of {H0 H : Hp} {x : Addr} (e : ExW [] H0 H) (h : H x = none) : Nw H0 x := fun o q => by
  by_cases ht : ∃ ps, o = .tbl ps
  · exact ht
  · have := e x o q (by simp) (fun ps z => ht ⟨ps, z⟩)
    rw [h] at this; cases this
theorem ExW.step {S : List Addr} {H0 H H1 : Hp} (e : ExW [] H0 H) (b : ExB S H H1) (n : ∀ x ∈ S, Nw H0 x) : ExW [] H0 H1 := fun x o h _ t =>
  b x o (e x o h (by simp) t) fun z => by obtain ⟨ps, q⟩ := n x z o h; exact t ps q
theorem ExW.stepW {S : List Addr} {H0 H H1 : Hp} (e : ExW [] H0 H) (b : ExW S H H1) (n : ∀ x ∈ S, Nw H0 x) : ExW [] H0 H1 := fun x o h _ t =>
  b x o (e x o h (by simp) t) (fun z => by obtain ⟨ps, q⟩ := n x z o h; exact t ps q) t
theorem ExW.sqL {K : PySem.W.Frag} {H H1 : Hp} (e : ExW [] H H1) {a : Addr} {xs : List V} (h : SqL K H a xs) : SqL K H1 a xs := by
  rcases h with (h | ⟨o, h⟩) | h
  · exact .inl (.inl (e _ _ h (by simp) (fun _ z => nomatch z)))
  · exact .inl (.inr ⟨o, e _ _ h (by simp) (fun _ z => nomatch z)⟩)
  · exact .inr h
def spLaw (K : PySem.W.Frag) (LT : List (Addr × Str)) : Sp := fun vs H Q _ => ∃ (l : Addr) (ns : List Int), vs = [.ref l] ∧ SqL K H l (ns.map V.int) ∧ LamX.Tabs LT H ∧ ∀ H', Q (.bl true) H'
/-- the whole state between two turns -/
structure Wst (K : PySem.W.Frag) (C : Addr) (LT : List (Addr × Str)) (H0 H : Hp) (b d o cl ql l0 l1 : Addr) (cs os : List V) (qs ws : List (Nat × V)) (n m : Nat) : Prop where
  ex : ExW [] H0 H
  tab : LamX.Tabs LT H
  st : St K C H b d o cl ql l0 l1 cs os qs ws
  len : cs.length = n
  few : qs.length ≤ m
  new : ∀ x ∈ [b, d, cl, ql, o, l0, l1], Nw H0 x
section
variable {K : PySem.W.Frag} {C : Addr} {LT : List (Addr × Str)} {H0 H H1 : Hp} {b d o cl ql l0 l1 : Addr} {cs os : List V} {qs ws : List (Nat × V)} {n m : Nat}
theorem Wst.same (w : Wst K C LT H0 H b d o cl ql l0 l1 cs os qs ws n m) (e : Same H H1) : Wst K C LT H0 H1 b d o cl ql l0 l1 cs os qs ws n m :=
  ⟨w.ex.trans (ExW.of e), w.tab.ext e, w.st.same e, w.len, w.few, w.new⟩
theorem Wst.boxed (w : Wst K C LT H0 H b d o cl ql l0 l1 cs os qs ws n m) (e : ExB [b] H H1) (hb : BoxAt H1 b) : Wst K C LT H0 H1 b d o cl ql l0 l1 cs os qs ws n m :=
  ⟨ExW.step w.ex e (fun x hx => w.new x (by rw [List.mem_singleton.mp hx]; simp)), tabs_exB w.tab e (fun x hx => by
    rw [List.mem_singleton.mp hx]
    obtain ⟨z, s', n', hbb⟩ := w.st.box
    exact .inl ⟨_, hbb⟩), w.st.boxed e hb, w.len, w.few, w.new⟩
theorem Wst.mono {m' : Nat} (w : Wst K C LT H0 H b d o cl ql l0 l1 cs os qs ws n m) (h : m ≤ m') : Wst K C LT H0 H b d o cl ql l0 l1 cs os qs ws n m' :=
  ⟨w.ex, w.tab, w.st, w.len, Nat.le_trans w.few h, w.new⟩
theorem Wst.wide (w : Wst K C LT H0 H b d o cl ql l0 l1 cs os qs ws n m) (e : ExW [b] H H1) (hb : BoxAt H1 b) (t : LamX.Tabs LT H1) : Wst K C LT H0 H1 b d o cl ql l0 l1 cs os qs ws n m :=
  ⟨ExW.stepW w.ex e (fun x hx => w.new x (by rw [List.mem_singleton.mp hx]; simp)), t, w.st.keepW e hb, w.len, w.few, w.new⟩
theorem nd7 {b d cl ql o l0 l1 : Addr} (h : [b, d, cl, ql, o, l0, l1].Nodup) : (b ≠ d ∧ b ≠ cl ∧ b ≠ ql ∧ b ≠ o ∧ b ≠ l0 ∧ b ≠ l1) ∧ (d ≠ cl ∧ d ≠ ql ∧ d ≠ o ∧ d ≠ l0 ∧ d ≠ l1) ∧ (cl ≠ ql ∧ cl ≠ o ∧ cl ≠ l0 ∧ cl ≠ l1) ∧ (ql ≠ o ∧ ql ≠ l0 ∧ ql ≠ l1) ∧ (o ≠ l0 ∧ o ≠ l1) ∧ l0 ≠ l1 := by
  simpa [List.nodup_cons, List.mem_cons, not_or] using h
/-- a put, here and there -/
theorem Wst.put {H5 H6 : Hp} {i : Nat} {r : V} {p : Addr} {wv : List V} (W : Wst K C LT H0 H5 b d o cl ql l0 l1 cs os qs ws n m) (e6 : ExB [ql] H5 H6) (D6 : DiskAt K C H6 d cl ql cs (qs ++ [(i, r)])) (hi : i < n) (he : Eqd K H5 3 r r) (hwv : H6 l1 = some (.lst wv)) (hp : H6 p = none) (hm : m < 1000) :
    Wst K C LT H0 (upd (upd H6 p (.tup [.int i, r])) l1 (.lst (wv ++ [.ref p]))) b d o cl ql l0 l1 cs os (qs ++ [(i, r)]) (ws ++ [(i, r)]) n (m + 1) := by
  obtain ⟨⟨bd, bc, bq, bo, b0, b1⟩, ⟨dc, dq, do', d0, d1⟩, ⟨cq, co, c0, c1⟩, ⟨qo, q0, q1⟩, ⟨o0, o1⟩, l01⟩ := nd7 W.st.nd
  obtain ⟨qv, hqv, rqv⟩ := W.st.disk.que
  have nt5 : NoT [ql] H5 := noT_lst hqv (fun _ h => nomatch h)
  have e7 := Same.new (o := .tup [.int i, r]) hp
  have nl1 : NoT [l1] (upd H6 p (.tup [.int i, r])) := noT_lst (e7 _ _ hwv) (fun _ h => nomatch h)
  have e8 : ExB [l1] (upd H6 p (.tup [.int i, r])) (upd (upd H6 p (.tup [.int i, r])) l1 (.lst (wv ++ [.ref p]))) := ExB.put (by simp)
  have kt : ∀ x xs, SqT K H5 x xs → SqT K (upd (upd H6 p (.tup [.int i, r])) l1 (.lst (wv ++ [.ref p]))) x xs := fun x xs h => e8.sqT nl1 (e7.sqT (e6.sqT nt5 h))
  have kt6 : ∀ x xs, SqT K H6 x xs → SqT K (upd (upd H6 p (.tup [.int i, r])) l1 (.lst (wv ++ [.ref p]))) x xs := fun x xs h => e8.sqT nl1 (e7.sqT h)
  obtain ⟨oo, ol0, ⟨wv5, hw5, rw5⟩, x1, x2, x3, x4, x5, x6⟩ := W.st.own
  have ew : wv5 = wv := by
    have z := e6 _ _ hw5 (by simp [q1.symm])
    rw [hwv] at z
    cases z; rfl
  subst ew
  have wl := W.st.qe.1
  refine ⟨ExW.step ((ExW.step W.ex e6 (fun x hx => W.new x (by rw [List.mem_singleton.mp hx]; simp))).trans (ExW.of e7)) e8 (fun x hx => W.new x (by rw [List.mem_singleton.mp hx]; simp)), ?_, ⟨?_, ?_, ?_, W.st.ce.keep kt, ?_, W.st.nd⟩, W.len, ?_, W.new⟩
  · exact tabs_exB ((tabs_exB W.tab e6 (fun x hx => by rw [List.mem_singleton.mp hx]; exact .inl ⟨_, hqv⟩)).ext e7) e8 (fun x hx => by rw [List.mem_singleton.mp hx]; exact .inl ⟨_, e7 _ _ hwv⟩)
  · exact ((W.st.box.keep e6 (by simp [bq])).keep (ExB.of e7 : ExB [] _ _) (by simp)).keep e8 (by simp [b1])
  · exact (D6.same e7).keep e8 nl1 (by simp [d1]) (by simp [c1]) (by simp [q1])
  · refine ⟨e8 _ _ (e7 _ _ (e6 _ _ oo (by simp [qo.symm]))) (by simp [o1]), e8 _ _ (e7 _ _ (e6 _ _ ol0 (by simp [q0.symm]))) (by simp [l01]), ⟨_, upd_same, ?_⟩, x1, x2, x3, x4, ?_, ?_⟩
    · exact (rw5.keep kt).app (e8.sqT nl1 (SqT.of upd_same))
    · rw [List.length_append]; show ws.length + 1 ≤ 10000; have := W.few; omega
    · intro q hq
      rcases List.mem_append.mp hq with hq | hq
      · exact x6 q hq
      · rw [List.mem_singleton.mp hq, ← W.st.ce.1, W.len]; exact hi
  · refine ⟨by rw [List.length_append, List.length_append, wl], fun j u v hu hv => ?_⟩
    by_cases c : j < qs.length
    · rw [List.getElem?_append_left c] at hu
      rw [List.getElem?_append_left (by omega)] at hv
      obtain ⟨z1, z2⟩ := W.st.qe.2 j u v hu hv
      exact ⟨z1, z2.keep kt⟩
    · rw [List.getElem?_append_right (by omega)] at hu hv
      have z : j - qs.length = 0 := by
        cases q : j - qs.length with
        | zero => rfl
        | succ k => rw [q] at hu; simp at hu
      rw [z] at hu
      rw [← wl, z] at hv
      cases hu; cases hv
      exact ⟨rfl, he.keep kt⟩
  · rw [List.length_append]; show qs.length + 1 ≤ m + 1; have := W.few; omega
/-- a fall, here and there -/
theorem Wst.fall {H2 H4 H5 : Hp} {lq l : Addr} {cs2 os2 : List V} {m' : Nat} (W : Wst K C LT H0 H b d o cl ql l0 l1 cs os qs ws n m) (hlq : H lq = none) (e2 : ExB [d, cl] H H2) (D2 : DiskAt K C H2 d cl lq cs2 []) (hl2 : cs2.length = n) (e4 : Same H2 H4) (hl : H4 l = none) (e5 : ExB [o, l0] H4 H5)
    (O5 : OwnAt K H5 o l0 l os2 []) (C5 : CellsEq K H5 cs2 os2) : Wst K C LT H0 H5 b d o cl lq l0 l cs2 os2 [] [] n m' := by
  obtain ⟨⟨bd, bc, bq, bo, b0, b1⟩, ⟨dc, dq, do', d0, d1⟩, ⟨cq, co, c0, c1⟩, ⟨qo, q0, q1⟩, ⟨o0, o1⟩, l01⟩ := nd7 W.st.nd
  obtain ⟨dx, hd⟩ := W.st.disk.obj
  have hc := W.st.disk.cel
  have tr4 : ∀ {x : Addr} {ob : HO}, H x = some ob → x ≠ d → x ≠ cl → H4 x = some ob := fun h h1 h2 => e4 _ _ (e2 _ _ h (by simp [h1, h2]))
  obtain ⟨z, s', n', hbb⟩ := W.st.box
  have hb4 := tr4 hbb bd bc
  have ho4 := tr4 W.st.own.obj do'.symm co.symm
  have h04 := tr4 W.st.own.cel d0.symm c0.symm
  obtain ⟨dx2, hd2⟩ := D2.obj
  obtain ⟨qv2, hq2, _⟩ := D2.que
  have hd4 := e4 _ _ hd2
  have hc4 := e4 _ _ D2.cel
  have hq4 := e4 _ _ hq2
  have lqb : b ≠ lq := ne_of_none hbb hlq
  have lqo : o ≠ lq := ne_of_none W.st.own.obj hlq
  have lq0 : l0 ≠ lq := ne_of_none W.st.own.cel hlq
  have n4 : NoT [o, l0] H4 := noT_lst ho4 (noT_lst h04 (fun _ h => nomatch h))
  have ex2 := ExW.step W.ex e2 (fun x hx => W.new x (by simp at hx; rcases hx with rfl | rfl <;> simp))
  have ex4 := ex2.trans (ExW.of e4)
  refine ⟨ExW.step ex4 e5 (fun x hx => W.new x (by simp at hx; rcases hx with rfl | rfl <;> simp)), ?_, ⟨⟨z, s', n', e5 _ _ hb4 (by simp [bo, b0])⟩, (D2.same e4).keep e5 n4 (by simp [do', d0]) (by simp [co, c0]) (by simp [lqo.symm, lq0.symm]), O5, C5, ⟨rfl, fun i u v hu hv => by simp at hu⟩, ?_⟩, hl2, Nat.zero_le _, ?_⟩
  · exact tabs_exB ((tabs_exB W.tab e2 (fun x hx => by simp at hx; rcases hx with rfl | rfl; exact .inr ⟨_, _, _, hd⟩; exact .inl ⟨_, hc⟩)).ext e4) e5 (fun x hx => by simp at hx; rcases hx with rfl | rfl; exact .inl ⟨_, ho4⟩; exact .inl ⟨_, h04⟩)
  · have f : ∀ {x : Addr} {ob : HO}, H4 x = some ob → x ≠ l := fun h => ne_of_none h hl
    simp [bd, bc, lqb, bo, b0, f hb4, dc, D2.ndq, do', d0, f hd4, D2.ne, co, c0, f hc4, lqo.symm, lq0.symm, f hq4, o0, f ho4, f h04]
  · intro x hx
    simp only [List.mem_cons, List.not_mem_nil, or_false] at hx
    rcases hx with rfl | rfl | rfl | rfl | rfl | rfl | rfl
    · exact W.new _ (by simp)
    · exact W.new _ (by simp)
    · exact W.new _ (by simp)
    · exact Nw.of W.ex hlq
    · exact W.new _ (by simp)
    · exact W.new _ (by simp)
    · exact Nw.of ex4 hl
theorem Wst.box (w : Wst K C LT H0 H b d o cl ql l0 l1 cs os qs ws n m) : BoxAt H b := w.st.box
end
section
variable {P : Program} {w : World} {K : PySem.W.Frag} {mg : Str → Option Value} {base : Heap} {a : Ad}
theorem ok_law {f : Addr} {fd fdt fdk fds fdb fdm fdf fdw fda fdp fdl fdc : FuncData} {LT : List (Addr × Str)} (F : Fun K "law" "law" s_law f fd) (T : Txt P K mg a)
    (G__law_take : FnOk P w K mg base CX0 1 a.take fdt ["box", "many"] spTake) (b__law_take : Binds K fdt ["box", "many"] [])
    (G__law_pick : FnOk P w K mg base CX0 2 a.pick fdk ["box", "some"] spPick) (b__law_pick : Binds K fdk ["box", "some"] [])
    (G__law_same : FnOk P w K mg base CX0 5 a.same fds ["value", "due"] (spSame K 4)) (b__law_same : Binds K fds ["value", "due"] [])
    (G__law_box : FnOk P w K mg base CX0 1 a.box fdb ["script", "k"] (spBox K)) (b__law_box : Binds K fdb ["script", "k"] [])
    (G__law_made : FnOk P w K mg base CX0 8 a.made fdm ["many"] (spMade K a.Disk)) (b__law_made : Binds K fdm ["many"] [])
    (G__law_fall : FnOk P w K mg base CX0 1 a.fall fdf ["own", "kept", "torn"] (spFall K a.TORN)) (b__law_fall : Binds K fdf ["own", "kept", "torn"] [])
    (G__law_wrong : FnOk P w K mg base CX0 9 a.wrong fdw ["box", "disk", "own"] (spWrong K a.Disk LT)) (b__law_wrong : Binds K fdw ["box", "disk", "own"] [])
    (G__law_alike : FnOk P w K mg base CX0 8 a.alike fda ["box", "disk", "own"] (spAlike K a.Disk)) (b__law_alike : Binds K fda ["box", "disk", "own"] [])
    (G_Disk_put : FnOk P w K mg base (L2.CX P w) 4 a.put fdp ["self", "at", "row"] (spPut K a.Disk a.Refused)) (b_Disk_put : Binds K fdp ["self", "at", "row"] [])
    (G_Disk_flush : FnOk P w K mg base CX0 1 a.flush fdl ["self"] (spFlush K a.Disk)) (b_Disk_flush : Binds K fdl ["self"] [])
    (G_Disk_cut : FnOk P w K mg base (L2.CX P w) 6 a.cut fdc ["self", "kept", "torn"] (spCut K a.Disk a.Refused a.TORN)) (b_Disk_cut : Binds K fdc ["self", "kept", "torn"] []) :
    FnOk P w K mg base CX0 12 f fd ["script"] (spLaw K LT) := by
  refine F.ok sc_law (fun vs H Q E h => ?_) (fun cdv A outer s H vs Q E hr h => ?_)
  · obtain ⟨l, ns, rfl, _⟩ := h
    rfl
  · obtain ⟨l, ns, rfl, hl, hT, k⟩ := h
    refine ⟨_, (pss_cons (ps_for PassesOwn.never rfl (pi_range1 rfl T.z_range (pa_cons pe_int pa_nil)) (pg_name (i := 1) sc_law.nd rfl (Or.inl rfl))
      (pss_cons (ps_set (i := 2) sc_law.nd rfl (Or.inr rfl) (pe_call G__law_box (hr.mono (by decide)) rfl T.g__law_box T.k__law_box b__law_box .nil pass0 (pa_cons (pv 0) (pa_cons (pv 1) pa_nil))))
    (pss_cons (ps_set (i := 3) sc_law.nd rfl (Or.inl rfl) (pe_call G__law_pick (hr.mono (by decide)) rfl T.g__law_pick T.k__law_pick b__law_pick .nil pass0 (pa_cons (pv 2) (pa_cons (pe_lst (pa_cons pe_int (pa_cons pe_int (pa_cons pe_int (pa_cons pe_int (pa_cons pe_int (pa_cons pe_int (pa_cons pe_int (pa_cons (pe_op op_add pe_int (pe_call G__law_take (hr.mono (by decide)) rfl T.g__law_take T.k__law_take b__law_take .nil pass0 (pa_cons (pv 2) (pa_cons pe_int pa_nil)))) pa_nil))))))))) pa_nil))))
    (pss_cons (ps_set (i := 4) sc_law.nd rfl (Or.inl rfl) (pe_call G__law_pick (hr.mono (by decide)) rfl T.g__law_pick T.k__law_pick b__law_pick .nil pass0 (pa_cons (pv 2) (pa_cons (pe_lst (pa_cons pe_int (pa_cons pe_int (pa_cons pe_int (pa_cons (pe_un un_neg pe_int) (pa_cons pe_non (pa_cons pe_str (pa_cons pe_bl (pa_cons (pe_lst (pa_cons pe_int pa_nil)) pa_nil))))))))) pa_nil))))
    (pss_cons (ps_if (pt_not (pt_val (pe_call G__law_same (hr.mono (by decide)) rfl T.g__law_same T.k__law_same b__law_same .nil pass0 (pa_cons (pe_call G__law_made (hr.mono (by decide)) rfl T.g__law_made T.k__law_made b__law_made .nil pass0 (pa_cons (pv 4) pa_nil)) (pa_cons (pe_tup (pa_cons pe_str (pa_cons pe_str (pa_cons pe_bl pa_nil)))) pa_nil))))) (pss_one (ps_ret pe_bl)) pss_nil)
    (pss_cons (ps_set (i := 5) sc_law.nd rfl (Or.inl rfl) (pe_call G__law_made (hr.mono (by decide)) rfl T.g__law_made T.k__law_made b__law_made .nil pass0 (pa_cons (pv 3) pa_nil)))
    (pss_cons (ps_if (pt_cmpR op_ne (pe_ix (ix_tupK (K := K) rfl) (pv 5) pe_int (fun _ _ => rfl)) pe_str (nomark _)) (pss_one (ps_ret pe_bl)) pss_nil)
    (pss_cons (ps_par (i := 6) (j := 7) (by rfl) sc_law.nd rfl rfl (by decide) rfl rfl (pa_cons (pe_ix (ix_tupK (K := K) rfl) (pv 5) pe_int (fun _ _ => rfl)) (pa_cons (pe_lst (pa_cons (pe_op op_rep (pe_lst (pa_cons pe_non pa_nil)) (pv 3)) (pa_cons (pe_lst pa_nil) pa_nil))) pa_nil)) (by rfl))
    (pss_one (ps_for PassesOwn.never rfl (pi_range1 rfl T.z_range (pa_cons pe_int pa_nil)) (pg_name (i := 8) sc_law.nd rfl (Or.inl rfl))
      (pss_cons (ps_set (i := 9) sc_law.nd rfl (Or.inl rfl) (pe_call G__law_take (hr.mono (by decide)) rfl T.g__law_take T.k__law_take b__law_take .nil pass0 (pa_cons (pv 2) (pa_cons pe_int pa_nil))))
    (C8.pss_cut (ps_if (pt_cmpR op_lt (pv 9) pe_int (nomark _)) (pss_one (ps_for PassesOwn.never rfl (pi_range1 rfl T.z_range (pa_cons (pe_op op_add pe_int (pe_call G__law_take (hr.mono (by decide)) rfl T.g__law_take T.k__law_take b__law_take .nil pass0 (pa_cons (pv 2) (pa_cons pe_int pa_nil)))) pa_nil)) (pg_name (i := 10) sc_law.nd rfl (Or.inl rfl))
      (pss_cons (ps_set (i := 11) sc_law.nd rfl (Or.inl rfl) (pe_call G__law_pick (hr.mono (by decide)) rfl T.g__law_pick T.k__law_pick b__law_pick .nil pass0 (pa_cons (pv 2) (pa_cons (pe_lst (pa_cons (pe_call G__law_take (hr.mono (by decide)) rfl T.g__law_take T.k__law_take b__law_take .nil pass0 (pa_cons (pv 2) (pa_cons (pv 3) pa_nil))) (pa_cons pe_int (pa_cons pe_int (pa_cons (pe_op op_sub (pv 3) pe_int) pa_nil))))) pa_nil))))
    (pss_cons (ps_set (i := 12) sc_law.nd rfl (Or.inl rfl) (pe_call G__law_pick (hr.mono (by decide)) rfl T.g__law_pick T.k__law_pick b__law_pick .nil pass0 (pa_cons (pv 2) (pa_cons (pe_lst (pa_cons (pe_tup pa_nil) (pa_cons (pe_tup (pa_cons (pv 8) (pa_cons (pv 10) pa_nil))) (pa_cons (pe_tup (pa_cons pe_str pa_nil)) (pa_cons (pe_tup (pa_cons pe_str (pa_cons (pe_tup (pa_cons (pv 8) pa_nil)) (pa_cons pe_non pa_nil)))) (pa_cons (pe_op (repTK (K := K) rfl) (pe_tup (pa_cons (pv 11) pa_nil)) pe_int) pa_nil)))))) pa_nil))))
    (pss_cons (ps_if (pt_cmpR op_notN (pe_meth (pv 6) T.cl_Disk T.m_Disk_put G_Disk_put (hr.mono (by decide)) b_Disk_put .nil passL (pa_cons (pv 11) (pa_cons (pv 12) pa_nil))) pe_non (nomark _)) (pss_one (ps_ret pe_bl)) pss_nil)
    (pss_one (ps_expr (pe_bmK (K := K) rfl PySem.F.plainAttrs_list PySem.F.slot_list_append PySem.F.type_list_append mt_append (pe_ix (ix_listK (K := K) rfl) (pv 7) pe_int (fun _ _ => rfl)) (pa_cons (pe_tup (pa_cons (pv 11) (pa_cons (pv 12) pa_nil))) pa_nil))))))))) (pss_one (ps_if (pt_cmpR op_eq (pv 9) pe_int (nomark _)) (pss_cons (ps_if (pt_cmpR op_notN (pe_meth0 (pv 6) T.cl_Disk T.m_Disk_flush G_Disk_flush (hr.mono (by decide)) b_Disk_flush .nil pass0) pe_non (nomark _)) (pss_one (ps_ret pe_bl)) pss_nil)
    (pss_one (ps_expr (pe_call G__law_fall (hr.mono (by decide)) rfl T.g__law_fall T.k__law_fall b__law_fall .nil pass0 (pa_cons (pv 7) (pa_cons (pe_listRg rfl rfl T.z_list (prg_1 rfl T.z_range (pe_callB (lenK (K := K) rfl) (by rfl) T.z_len (by decide +kernel) (pa_cons (pe_ix (ix_listK (K := K) rfl) (pv 7) pe_int (fun _ _ => rfl)) pa_nil)))) (pa_cons (pe_lst pa_nil) pa_nil))))))) (pss_one (ps_if (pt_cmpR op_eq (pv 9) pe_int (nomark _)) (pss_cons (ps_set (i := 13) sc_law.nd rfl (Or.inl rfl) (pe_listRg rfl rfl T.z_list (prg_1 rfl T.z_range (pe_callB (lenK (K := K) rfl) (by rfl) T.z_len (by decide +kernel) (pa_cons (pe_ix (ix_listK (K := K) rfl) (pv 7) pe_int (fun _ _ => rfl)) pa_nil)))))
    (pss_cons (ps_set (i := 14) sc_law.nd rfl (Or.inr rfl) (pe_callTy (tupOfK (K := K) rfl) (by rfl) T.z_tuple (by decide +kernel) (pa_cons (pe_lc (own := [("at", 11)]) (g := gName 11) (by rfl) sc_law.nd (piListK (K := K) rfl (pv 13)) (blkOk_by (own := [("at", 11)]) (N := ["script", "k", "box", "many", "wrong", "got", "disk", "own", "turn", "kind", "more", "at", "row", "places", "kept", "torn"]) (sc := defScope s_law) (by decide +kernel)) (fun _ _ _ _ _ => (pg_name (i := 11) sc_law.nd rfl (Or.inl rfl))) (fun _ _ _ _ _ => (pts_one (pt_cmpR op_gt (pe_call G__law_take (hr.mono (by decide)) rfl T.g__law_take T.k__law_take b__law_take .nil pass0 (pa_cons (pv 2) (pa_cons pe_int pa_nil))) pe_int (nomark _)))) (fun _ _ _ _ _ => (pv 11))) pa_nil)))
    (pss_cons (ps_set (i := 15) sc_law.nd rfl (Or.inl rfl) (pe_callTy (tupOfK (K := K) rfl) (by rfl) T.z_tuple (by decide +kernel) (pa_cons (pe_lc (own := [("at", 11)]) (g := gName 11) (by rfl) sc_law.nd (piListK (K := K) rfl (pv 13)) (blkOk_by (own := [("at", 11)]) (N := ["script", "k", "box", "many", "wrong", "got", "disk", "own", "turn", "kind", "more", "at", "row", "places", "kept", "torn"]) (sc := defScope s_law) (by decide +kernel)) (fun _ _ _ _ _ => (pg_name (i := 11) sc_law.nd rfl (Or.inl rfl))) (fun _ _ _ _ _ => (pts_one (PW.pt (pw_and (pt_cmpR (notInK (K := K) rfl) (pv 11) (pv 14) rfl) (pw_and1 (pt_cmpR op_gt (pe_call G__law_take (hr.mono (by decide)) rfl T.g__law_take T.k__law_take b__law_take .nil pass0 (pa_cons (pv 2) (pa_cons pe_int pa_nil))) pe_int (nomark _))))))) (fun _ _ _ _ _ => (pv 11))) pa_nil)))
    (pss_cons (ps_if (pt_cmpR op_notN (pe_meth (pv 6) T.cl_Disk T.m_Disk_cut G_Disk_cut (hr.mono (by decide)) b_Disk_cut .nil passL (pa_cons (pv 14) (pa_cons (pv 15) pa_nil))) pe_non (nomark _)) (pss_one (ps_ret pe_bl)) pss_nil)
    (pss_one (ps_expr (pe_call G__law_fall (hr.mono (by decide)) rfl T.g__law_fall T.k__law_fall b__law_fall .nil pass0 (pa_cons (pv 7) (pa_cons (pv 14) (pa_cons (pv 15) pa_nil)))))))))) (pss_one (ps_if (pt_not (pt_val (pe_call G__law_wrong (hr.mono (by decide)) rfl T.g__law_wrong T.k__law_wrong b__law_wrong .nil pass0 (pa_cons (pv 2) (pa_cons (pv 6) (pa_cons (pv 7) pa_nil)))))) (pss_one (ps_ret pe_bl)) pss_nil)))))))
    (pss_one (ps_if (pt_not (pt_val (pe_call G__law_alike (hr.mono (by decide)) rfl T.g__law_alike T.k__law_alike b__law_alike .nil pass0 (pa_cons (pv 2) (pa_cons (pv 6) (pa_cons (pv 7) pa_nil)))))) (pss_one (ps_ret pe_bl)) pss_nil))))))))))))))
    (pss_one (ps_ret pe_bl))), ?_⟩
    have nosm : ∀ (x y : Addr) (m : Str), ¬ m = "queue" → ¬ m = "cells" → (pf x y).lookup m = none := fun x y m h1 h2 => pf_no _ _ h1 h2
    refine ⟨3, rfl, (by decide), (by decide), for_range (lo := 0) (n := 3) (fun i σ H' => ExW [] H H' ∧ LamX.Tabs LT H' ∧ ∃ x1 x2 x3 x4 x5 x6 x7 x8 x9 x10 x11 x12 x13 x14 x15, σ = [some (.ref l), x1, x2, x3, x4, x5, x6, x7, x8, x9, x10, x11, x12, x13, x14, x15]) ⟨ExW.refl, hT, none, none, none, none, none, none, none, none, none, none, none, none, none, none, none, rfl⟩ ?_ ?_⟩
    · rintro i σ Ha hi ⟨ex0, T0, x1, x2, x3, x4, x5, x6, x7, x8, x9, x10, x11, x12, x13, x14, x15, rfl⟩
      rw [show (0 + (i : Int)) = (i : Int) by omega]
      -- box
      refine ⟨_, rfl, _, rfl, l, ns, i, rfl, ExW.sqL ex0 hl, hi, fun Hb b nb eb hb => ?_⟩
      have exb := ex0.trans (ExW.of eb)
      have Tb := LamX.Tabs.ext T0 eb
      have boxX : ∀ {Hx Hy : Hp}, BoxAt Hx b → Same Hx Hy → BoxAt Hy b := fun h e => h.keep (ExB.of e : ExB [] _ _) (by simp)
      have nbx : ∀ {Hx : Hp} {x : Addr}, BoxAt Hx b → Hx x = none → x ≠ b := fun ⟨z, s', n', hbb⟩ h => (ne_of_none hbb h).symm
      have tbx : ∀ {Hx Hy : Hp}, BoxAt Hx b → LamX.Tabs LT Hx → ExB [b] Hx Hy → LamX.Tabs LT Hy := fun ⟨z, s', n', hbb⟩ t e => tabs_exB t e (fun x hx => by
        rw [List.mem_singleton.mp hx]; exact .inl ⟨_, hbb⟩)
      have nbH : Nw H b := Nw.of ex0 nb
      -- many
      refine ⟨_, rfl, _, rfl, b, 397, rfl, hb, (by decide), (by decide), fun Hc i0 ec hbc i00 i01 => ⟨_, _, rfl, rfl, (by show 8 ≤ sizeLine; decide), fun la hla => ?_⟩⟩
      have ed := Same.new (o := .lst [V.int 4, .int 5, .int 6, .int 8, .int 64, .int 399, .int 400, .int (4 + i0)]) hla
      refine ⟨b, la, _, rfl, boxX hbc ed, upd_same, nbx hbc hla, (by show 0 < 8; decide), (by show 8 < 1000000; decide), fun He ma ee hbe hma => ?_⟩
      have exe := ExW.step (ExW.step exb ec (by simp [nbH]) |>.trans (ExW.of ed)) ee (by simp [nbH])
      have Te := tbx (boxX hbc ed) ((tbx hb Tb ec).ext ed) ee
      obtain ⟨n, rfl, n4, n400⟩ : ∃ n : Nat, ma = .int n ∧ 4 ≤ n ∧ n ≤ 400 := by
        simp only [List.mem_cons, List.not_mem_nil, or_false] at hma
        rcases hma with rfl | rfl | rfl | rfl | rfl | rfl | rfl | rfl
        · exact ⟨4, rfl, by omega, by omega⟩
        · exact ⟨5, rfl, by omega, by omega⟩
        · exact ⟨6, rfl, by omega, by omega⟩
        · exact ⟨8, rfl, by omega, by omega⟩
        · exact ⟨64, rfl, by omega, by omega⟩
        · exact ⟨399, rfl, by omega, by omega⟩
        · exact ⟨400, rfl, by omega, by omega⟩
        · exact ⟨(4 + i0).toNat, by rw [Int.toNat_of_nonneg (by omega)], by omega, by omega⟩
      -- wrong
      refine ⟨_, rfl, _, rfl, (by show 1 ≤ sizeLine; decide), fun lb hlb => ⟨(by show 8 ≤ sizeLine; decide), fun lc hlc => ?_⟩⟩
      have ef := Same.new (o := .lst [V.int 4]) hlb
      have eg := Same.new (o := .lst [V.int 3, .int 401, .int 0, .int (-4), .non, .str "8", .bl true, .ref lb]) hlc
      have efg := ef.trans eg
      refine ⟨b, lc, _, rfl, boxX hbe efg, upd_same, nbx (boxX hbe ef) hlc, (by show 0 < 8; decide), (by show 8 < 1000000; decide), fun Hf wr eh hbf hwr => ?_⟩
      have exf := ExW.step (exe.trans (ExW.of efg)) eh (by simp [nbH])
      have Tf := tbx (boxX hbe efg) (Te.ext efg) eh
      have nlb : lb ≠ b := nbx hbe hlb
      have kw : Kd K Hf wr ∧ (numV wr (.int 400) = false ∨ ∃ i : Int, wr = .int i ∧ i < 4) := by
        simp only [List.mem_cons, List.not_mem_nil, or_false] at hwr
        rcases hwr with rfl | rfl | rfl | rfl | rfl | rfl | rfl | rfl
        · exact ⟨Kd.int _, .inr ⟨3, rfl, by decide⟩⟩
        · exact ⟨Kd.int _, .inl (by simp [numV])⟩
        · exact ⟨Kd.int _, .inr ⟨0, rfl, by decide⟩⟩
        · exact ⟨Kd.int _, .inr ⟨-4, rfl, by decide⟩⟩
        · exact ⟨.inl rfl, .inl rfl⟩
        · exact ⟨kd_flat (v := .str "8") True.intro, .inl rfl⟩
        · exact ⟨kd_flat (v := .bl true) True.intro, .inl rfl⟩
        · exact ⟨.inr (.inr (.inr (.inr ⟨lb, rfl, .inr (lst_ty (eh _ _ (eg _ _ upd_same) (by simp [nlb])))⟩))), .inl rfl⟩
      -- the wrong one is refused
      refine ⟨_, rfl, _, rfl, kw.1, .inr ⟨kw.2, fun Hg t ei ht => ⟨(by show 3 ≤ sizeLine; decide), fun t2 ht2 => ?_⟩⟩⟩
      have ej := Same.new (o := .tup [V.str "refused", .str "slots", .bl true]) ht2
      refine ⟨_, _, rfl, Eqd.tup (SqT.of (ej _ _ ht)) (SqT.of upd_same) rfl (by show 3 ≤ 100000; decide) (fun i u v hu hv => by
        rcases i with _ | _ | _ | i
        · cases hu; cases hv; exact Eqd.flat (v := V.str "refused") (show Flat (V.str _) from True.intro)
        · cases hu; cases hv; exact Eqd.flat (v := V.str "slots") (show Flat (V.str _) from True.intro)
        · cases hu; cases hv; exact Eqd.flat (v := V.bl true) (show Flat (V.bl _) from True.intro)
        · simp at hu), fun Hh ek => ⟨_, rfl, ?_⟩⟩
      have efh := (ei.trans ej).trans ek
      have exh := exf.trans (ExW.of efh)
      have Th := Tf.ext efh
      have hbh := boxX hbf efh
      -- the disk
      refine ⟨_, rfl, .int n, rfl, Kd.int _, .inl ⟨n, rfl, n4, n400, fun Hi t3 d cl ql el ht3 nd ncl nql D => ?_⟩⟩
      have exi := exh.trans (ExW.of el)
      have Ti := Th.ext el
      have hbi := boxX hbh el
      refine ⟨_, rfl, t3, _, 0, _, rfl, rfl, SqT.of ht3, rfl, rfl, _, rfl, ?_⟩
      -- own
      refine ⟨_, rfl, t3, _, 1, _, rfl, rfl, SqT.of ht3, rfl, (by show 1 ≤ sizeLine; decide), fun m1 hm1 => ⟨_, rfl, m1, n, [.non], rfl, rfl, upd_same, (by omega), (by omega), ?_, fun l0 hl0 => ?_⟩⟩
      · rw [show ([V.non] : List V).length * (n : Int).toNat = n by simp]; exact Nat.le_trans n400 (by decide)
      rw [show (List.replicate (n : Int).toNat [V.non]).flatten = List.replicate n .non by simp]
      refine ⟨Nat.zero_le _, fun l1 hl1 => ⟨(by show 2 ≤ sizeLine; decide), fun o ho => ?_⟩⟩
      have e5 := Same.new (o := .lst [V.non]) hm1
      have e6 := Same.new (o := .lst (List.replicate n V.non)) hl0
      have e7 := Same.new (o := .lst ([] : List V)) hl1
      have e8 := Same.new (o := .lst [V.ref l0, .ref l1]) ho
      have e58 := ((e5.trans e6).trans e7).trans e8
      have D8 := D.same e58
      have hbo := boxX hbi e58
      obtain ⟨dxi, hdi⟩ := D.obj
      obtain ⟨qvi, hqi, _⟩ := D.que
      have w0 : Wst K a.Disk LT H (upd (upd (upd (upd Hi m1 (.lst [.non])) l0 (.lst (List.replicate n .non))) l1 (.lst [])) o (.lst [.ref l0, .ref l1])) b d o cl ql l0 l1 (List.replicate n .non) (List.replicate n .non) [] [] n (4 * 0) := by
        obtain ⟨z, s', n', hbb⟩ := hbi
        obtain ⟨z2, s2', n2', hbb2⟩ := hbh
        refine ⟨exi.trans (ExW.of e58), Ti.ext e58, ⟨hbo, D8, ⟨upd_same, (e7.trans e8) _ _ upd_same, ⟨[], e8 _ _ upd_same, QRep.nil⟩, ?_, ?_, ?_, by rw [List.length_replicate]; exact n400, Nat.zero_le _, fun _ h => nomatch h⟩,
          ⟨rfl, fun i u v hu hv => ?_⟩, ⟨rfl, fun i u v hu hv => by simp at hu⟩, ?_⟩, List.length_replicate, Nat.le_refl _, ?_⟩
        · exact ne_of_none upd_same hl1
        · exact (ne_of_none (e7 _ _ upd_same) ho).symm
        · exact (ne_of_none upd_same ho).symm
        · obtain ⟨_, rfl⟩ := List.getElem?_eq_some_iff.mp hu
          obtain ⟨_, rfl⟩ := List.getElem?_eq_some_iff.mp hv
          simp only [List.getElem_replicate]
          exact Eqd.flat (v := .non) True.intro
        · have t0 : ∀ {x : Addr} {ob : HO}, Hi x = some ob → x ≠ l0 ∧ x ≠ l1 ∧ x ≠ o := fun h => ⟨ne_of_none (e5 _ _ h) hl0, ne_of_none ((e5.trans e6) _ _ h) hl1, ne_of_none (((e5.trans e6).trans e7) _ _ h) ho⟩
          have b1 := t0 hbb
          have d1 := t0 hdi
          have c1 := t0 D.cel
          have q1 := t0 hqi
          have l01 : l0 ≠ l1 := ne_of_none upd_same hl1
          have l0o : l0 ≠ o := ne_of_none (e7 _ _ upd_same) ho
          have l1o : l1 ≠ o := ne_of_none upd_same ho
          have bd : b ≠ d := ne_of_none hbb2 nd
          have bc : b ≠ cl := ne_of_none hbb2 ncl
          have bq : b ≠ ql := ne_of_none hbb2 nql
          simp [bd, bc, bq, b1.1, b1.2.1, b1.2.2, D.ndc, D.ndq, d1.1, d1.2.1, d1.2.2, D.ne, c1.1, c1.2.1, c1.2.2, q1.1, q1.2.1, q1.2.2, l01, l0o.symm, l1o.symm]
        · intro x hx
          simp only [List.mem_cons, List.not_mem_nil, or_false] at hx
          rcases hx with rfl | rfl | rfl | rfl | rfl | rfl | rfl
          · exact nbH
          · exact Nw.of exh nd
          · exact Nw.of exh ncl
          · exact Nw.of exh nql
          · exact Nw.of (exi.trans (ExW.of ((e5.trans e6).trans e7))) ho
          · exact Nw.of (exi.trans (ExW.of e5)) hl0
          · exact Nw.of (exi.trans (ExW.of (e5.trans e6))) hl1
      refine ⟨_, _, rfl, ?_⟩
      -- the turns
      refine ⟨24, rfl, (by decide), (by decide), for_range (lo := 0) (n := 24) (fun tn σ H' => ∃ (cl ql l0 l1 : Addr) (cs os : List V) (qs ws : List (Nat × V)), Wst K a.Disk LT H H' b d o cl ql l0 l1 cs os qs ws n (4 * tn) ∧
        ∃ y1 y2 y3 y4 y5 y6 y7 y8 y9 y10 y11, σ = [some (.ref l), y1, some (.ref b), some (.int n), y2, y3, some (.ref d), some (.ref o), y4, y5, y6, y7, y8, y9, y10, y11]) ⟨cl, ql, l0, l1, _, _, _, _, w0, _, _, _, _, _, _, _, _, _, _, _, rfl⟩ ?_ ?_⟩
      · rintro tn σ1 Hj htn ⟨cl, ql, l0, l1, cs, os, qs, ws, W, y1, y2, y3, y4, y5, y6, y7, y8, y9, y10, y11, rfl⟩
        rw [show (0 + (tn : Int)) = (tn : Int) by omega]
        have htn24 : tn < 24 := htn
        -- kind
        refine ⟨_, rfl, b, 8, rfl, W.box, (by decide), (by decide), fun H1 kd e1 hb1 kd0 kd1 => ?_⟩
        have W1 := W.boxed e1 hb1
        refine ⟨fun σ' H' => ∃ (cl ql l0 l1 : Addr) (cs os : List V) (qs ws : List (Nat × V)), Wst K a.Disk LT H H' b d o cl ql l0 l1 cs os qs ws n (4 * (tn + 1)) ∧
          ∃ u1 u2 u3 u4 u5 u6 u7 u8 u9 u10 u11, σ' = [some (.ref l), u1, some (.ref b), some (.int n), u2, u3, some (.ref d), some (.ref o), u4, u5, u6, u7, u8, u9, u10, u11], ?_, ?_⟩
        · refine ⟨_, rfl, _, _, rfl, rfl, _, rfl, ?_⟩
          refine ite2 (fun ck => ?_) (fun ck => ?_)
          · -- puts
            refine ⟨_, rfl, b, 4, rfl, W1.box, (by decide), (by decide), fun H2 m4 e2 hb2 m0 m1 => ⟨_, _, rfl, rfl, _, rfl, (by omega), (by omega), for_range (lo := 0) (n := (1 + m4).toNat) (fun j σ' H' => ∃ (cl ql l0 l1 : Addr) (cs os : List V) (qs ws : List (Nat × V)), Wst K a.Disk LT H H' b d o cl ql l0 l1 cs os qs ws n (4 * tn + j) ∧
              ∃ u1 u2 u3 u5 u6 u7 u8 u9 u10 u11, σ' = [some (.ref l), u1, some (.ref b), some (.int n), u2, u3, some (.ref d), some (.ref o), some (.int tn), u5, u6, u7, u8, u9, u10, u11]) ⟨cl, ql, l0, l1, cs, os, qs, ws, W1.boxed e2 hb2, _, _, _, _, _, _, _, _, _, _, rfl⟩ ?_ ?_⟩⟩
            · rintro j σ2 Hk hj ⟨cl, ql, l0, l1, cs, os, qs, ws, W, u1, u2, u3, u5, u6, u7, u8, u9, u10, u11, rfl⟩
              rw [show (0 + (j : Int)) = (j : Int) by omega]
              have hj4 : j < 4 := by omega
              -- at
              refine ⟨_, rfl, _, rfl, _, rfl, b, n, rfl, W.box, (by omega), (by omega), fun H3 i3 e3 hb3 i30 i31 => ⟨_, rfl, _, _, rfl, rfl, (by show 4 ≤ sizeLine; decide), fun la hla => ?_⟩⟩
              have W3 := W.boxed e3 hb3
              have ea := Same.new (o := .lst [V.int i3, .int 0, .int 1, .int ((n : Int) - 1)]) hla
              have W3a := W3.same ea
              refine ⟨b, la, _, rfl, W3a.box, upd_same, nbx W3.box hla, (by show 0 < 4; decide), (by show 4 < 1000000; decide), fun H4 at4 e4 hb4 hat => ?_⟩
              have W4 := W3a.boxed e4 hb4
              obtain ⟨jn, rfl, jlt⟩ : ∃ jn : Nat, at4 = .int jn ∧ jn < n := by
                simp only [List.mem_cons, List.not_mem_nil, or_false] at hat
                rcases hat with rfl | rfl | rfl | rfl
                · exact ⟨i3.toNat, by rw [Int.toNat_of_nonneg (by omega)], by omega⟩
                · exact ⟨0, rfl, by omega⟩
                · exact ⟨1, rfl, by omega⟩
                · exact ⟨n - 1, by congr 1; omega, by omega⟩
              -- row
              refine ⟨_, rfl, Nat.zero_le _, fun t0 h0 => ⟨_, rfl, _, rfl, (by show 2 ≤ sizeLine; decide), fun t1 h1 => ⟨(by show 1 ≤ sizeLine; decide), fun t2 h2 => ⟨_, rfl, (by show 1 ≤ sizeLine; decide), fun t3 h3 => ⟨(by show 3 ≤ sizeLine; decide), fun t4 h4 => ⟨_, rfl, (by show 1 ≤ sizeLine; decide), fun t5 h5 => ?_⟩⟩⟩⟩⟩⟩
              refine ⟨t5, 3, _, rfl, rfl, SqT.of upd_same, (by simp), (by decide), (by decide), (by show 1 ≤ 1000; decide), fun t6 h6 => ⟨(by show 5 ≤ sizeLine; decide), fun lr hlr => ?_⟩⟩
              have s0 := Same.new (o := .tup []) h0
              have s1 := Same.new (o := .tup [V.int tn, .int j]) h1
              have s2 := Same.new (o := .tup [V.str "torn"]) h2
              have s3 := Same.new (o := .tup [V.int tn]) h3
              have s4 := Same.new (o := .tup [V.str "row", .ref t3, .non]) h4
              have s5 := Same.new (o := .tup [V.int jn]) h5
              have s6 := Same.new (o := .tup (List.replicate (3 : Int).toNat [V.int jn]).flatten) h6
              have s7 := Same.new (o := .lst [V.ref t0, .ref t1, .ref t2, .ref t4, .ref t6]) hlr
              have s67 := s6.trans s7
              have s57 := s5.trans s67
              have s47 := s4.trans s57
              have s37 := s3.trans s47
              have s27 := s2.trans s37
              have s17 := s1.trans s27
              have W4a := W4.same (s0.trans s17)
              have W4b := W4.same ((((((s0.trans s1).trans s2).trans s3).trans s4).trans s5).trans s6)
              refine ⟨b, lr, _, rfl, W4a.box, upd_same, nbx W4b.box hlr, (by show 0 < 5; decide), (by show 5 < 1000000; decide), fun H5 ro e5 hb5 hro => ?_⟩
              have W5 := W4a.boxed e5 hb5
              have ntb := W4a.st.box.noT
              obtain ⟨rt, rxs, rfl, hrS, hrE⟩ : ∃ (t : Addr) (xs : List V), ro = .ref t ∧ SqT K H5 t xs ∧ Eqd K H5 3 ro ro := by
                have fl : ∀ {t : Addr} {xs : List V}, SqT K H5 t xs → xs.length ≤ 100000 → (∀ y ∈ xs, Eqd K H5 2 y y) → Eqd K H5 3 (.ref t) (.ref t) := fun h hz hy => Eqd.tup h h rfl hz (fun i u v hu hv => by
                  rw [hu] at hv; cases hv; exact hy u (List.mem_of_getElem? hu))
                simp only [List.mem_cons, List.not_mem_nil, or_false] at hro
                rcases hro with rfl | rfl | rfl | rfl | rfl
                · have q := e5.sqT (K := K) ntb (SqT.of (s17 _ _ upd_same))
                  exact ⟨_, _, rfl, q, fl q (Nat.zero_le _) (fun _ h => nomatch h)⟩
                · have q := e5.sqT (K := K) ntb (SqT.of (s27 _ _ upd_same))
                  exact ⟨_, _, rfl, q, fl q (by show 2 ≤ 100000; decide) (fun y h => by simp at h; rcases h with rfl | rfl <;> exact Eqd.flat (show Flat (V.int _) from True.intro))⟩
                · have q := e5.sqT (K := K) ntb (SqT.of (s37 _ _ upd_same))
                  exact ⟨_, _, rfl, q, fl q (by show 1 ≤ 100000; decide) (fun y h => by simp at h; rw [h]; exact Eqd.flat (show Flat (V.str _) from True.intro))⟩
                · have q := e5.sqT (K := K) ntb (SqT.of (s57 _ _ upd_same))
                  have q3 := e5.sqT (K := K) ntb (SqT.of (s47 _ _ upd_same))
                  refine ⟨_, _, rfl, q, fl q (by show 3 ≤ 100000; decide) (fun y h => ?_)⟩
                  simp at h
                  rcases h with rfl | rfl | rfl
                  · exact Eqd.flat (show Flat (V.str _) from True.intro)
                  · exact Eqd.tup q3 q3 rfl (by show 1 ≤ 100000; decide) (fun i u v hu hv => by
                      rw [hu] at hv; cases hv
                      have hu2 := List.mem_of_getElem? hu
                      rw [List.mem_singleton.mp hu2]
                      exact Eqd.flat (show Flat (V.int _) from True.intro))
                  · exact Eqd.flat (show Flat V.non from True.intro)
                · have q := e5.sqT (K := K) ntb (SqT.of (s7 _ _ upd_same))
                  exact ⟨_, _, rfl, q, fl q (by show 3 ≤ 100000; decide) (fun y h => by
                    have h : y ∈ [V.int jn, .int jn, .int jn] := h
                    simp at h; rw [h]; exact Eqd.flat (show Flat (V.int _) from True.intro))⟩
              -- put
              obtain ⟨dx5, hd5⟩ := W5.st.disk.obj
              have few5 := W5.few
              refine ⟨_, rfl, d, dx5, _, rfl, hd5, nosm _ _ _ (by decide +kernel) (by decide +kernel), _, rfl, _, rfl, d, cl, ql, cs, qs, .int jn, .ref rt, rfl, W5.st.disk, Kd.int _, Kd.of_tup hrS, .inl ⟨jn, rt, rxs, rfl, (by rw [W5.len]; exact jlt), rfl, hrS, (by omega), fun H6 e6 D6 => ⟨rfl, _, rfl, ?_⟩⟩⟩
              obtain ⟨⟨bd, bc, bq, bo, b0, b1⟩, ⟨dc, dq, do', d0, d1⟩, ⟨cq, co, c0, c1⟩, ⟨qo, q0, q1⟩, ⟨o0, o1⟩, l01⟩ := nd7 W5.st.nd
              obtain ⟨wv, hwv, rqw⟩ := W5.st.own.que
              have ho6 := e6 _ _ W5.st.own.obj (by simp [qo.symm])
              have hw6 := e6 _ _ hwv (by simp [q1.symm])
              refine ⟨_, rfl, o, _, 1, _, rfl, rfl, SqL.of ho6, rfl, .inl ⟨rfl, _, SqL.of hw6⟩, _, rfl, _, rfl, (by show 2 ≤ sizeLine; decide), fun p hp => ?_⟩
              have hw7 := Same.new (o := .tup [V.int jn, .ref rt]) hp _ _ hw6
              have wl5 := W5.st.qe.1
              refine ⟨_, _, _, rfl, rfl, hw7, (by rw [rqw.1]; exact Nat.lt_of_lt_of_le (by omega : ws.length < 1000) (by decide)), ?_⟩
              exact ⟨cl, ql, l0, l1, cs, os, _, _, W5.put e6 D6 jlt hrE hw6 hp (by omega), _, _, _, _, _, _, _, _, _, _, rfl⟩
            · rintro σ2 Hk ⟨cl, ql, l0, l1, cs, os, qs, ws, W, u1, u2, u3, u5, u6, u7, u8, u9, u10, u11, rfl⟩
              exact ⟨cl, ql, l0, l1, cs, os, qs, ws, W.mono (by omega), _, _, _, _, _, _, _, _, _, _, _, rfl⟩
          · refine ⟨_, rfl, rfl, _, rfl, ?_⟩
            refine ite2 (fun c5 => ?_) (fun c5 => ?_)
            · -- flush
              obtain ⟨dx1, hd1⟩ := W1.st.disk.obj
              refine ⟨_, rfl, d, dx1, _, rfl, hd1, nosm _ _ _ (by decide +kernel) (by decide +kernel), d, cl, ql, cs, qs, rfl, W1.st.disk, fun H2 lq hlq e2 D2 => ⟨rfl, _, rfl, ?_⟩⟩
              obtain ⟨⟨bd, bc, bq, bo, b0, b1⟩, ⟨dc, dq, do', d0, d1⟩, ⟨cq, co, c0, c1⟩, ⟨qo, q0, q1⟩, ⟨o0, o1⟩, l01⟩ := nd7 W1.st.nd
              obtain ⟨wv, hwv, rqw⟩ := W1.st.own.que
              have nt1 : NoT [d, cl] H1 := noT_ins hd1 (noT_lst W1.st.disk.cel (fun _ h => nomatch h))
              have O2 := W1.st.own.keep e2 nt1 (by simp [do'.symm, co.symm]) (by simp [d0.symm, c0.symm]) (by simp [d1.symm, c1.symm])
              have C2 := W1.st.ce.keep (fun _ _ h => e2.sqT nt1 h)
              have Q2 := W1.st.qe.keep (fun _ _ h => e2.sqT nt1 h)
              have hw2 := e2 _ _ hwv (by simp [d1.symm, c1.symm])
              have wl1 := W1.st.qe.1
              have few1 := W1.few
              have wlv := rqw.1
              refine ⟨_, rfl, _, rfl, o, _, 1, _, rfl, rfl, SqL.of O2.obj, rfl, l1, _, rfl, .inl (SqL.of hw2), _, rfl, RgOk.of_le (by omega) (by omega) (by omega) (by omega), fun kk hkk => ⟨Nat.zero_le _, fun tt htt => ?_⟩⟩
              have s1 := Same.new (o := .lst (rgV 0 wv.length)) hkk
              have s2 := Same.new (o := .lst ([] : List V)) htt
              have s12 := s1.trans s2
              refine ⟨o, l0, l1, os, cs, ws, qs, kk, tt, (List.range wv.length).map (fun i => (0 + (i : Nat) : Int)), [], rfl, O2.same s12, C2.keep (fun _ _ h => s12.sqT h), Q2.keep (fun _ _ h => s12.sqT h), .inl (by rw [s2 _ _ upd_same]; simp [rgV, List.map_map, Function.comp_def]), .inl upd_same, (ne_of_none O2.cel hkk).symm, (ne_of_none (s1 _ _ O2.cel) htt).symm, fun H5 lw os2 hlw e5 O5 C5 => ?_⟩
              refine ⟨cl, lq, l0, lw, _, os2, [], [], W1.fall hlq e2 D2 (by rw [fallN_len, W1.len]) s12 hlw e5 O5 ?_, _, _, _, _, _, _, _, _, _, _, _, rfl⟩
              rw [fallN_all (tv' := .non) qs.length (fun i hi => by
                refine decide_eq_true (List.mem_map.mpr ⟨i, List.mem_range.mpr (by omega), by omega⟩))] at C5
              exact C5
            · refine ⟨_, rfl, rfl, _, rfl, ?_⟩
              refine ite2 (fun c6 => ?_) (fun c6 => ?_)
              · -- cut
                obtain ⟨wv, hwv, rqw⟩ := W1.st.own.que
                have few1 := W1.few
                have wl1 := W1.st.qe.1
                have wlv := rqw.1
                refine ⟨_, rfl, o, _, 1, _, rfl, rfl, SqL.of W1.st.own.obj, rfl, l1, _, rfl, .inl (SqL.of hwv), _, rfl, RgOk.of_le (by omega) (by omega) (by omega) (by omega), fun pl hpl => ?_⟩
                have W2 := W1.same (Same.new (o := .lst (rgV 0 wv.length)) hpl)
                have npb : pl ≠ b := nbx W1.box hpl
                have hpl2 : upd H1 pl (.lst (rgV 0 wv.length)) pl = some (.lst (rgV 0 wv.length)) := upd_same
                generalize upd H1 pl (.lst (rgV 0 wv.length)) = H2 at W2 hpl2
                have atR : ∀ (i : Nat) (x : V), (rgV 0 wv.length)[i]? = some x → x = .int i ∧ i < ws.length := fun i x h => by
                  unfold rgV at h
                  rw [List.getElem?_map] at h
                  have hi := (List.getElem?_eq_some_iff.mp (show (List.range ((wv.length : Int) - 0).toNat)[i]? = some i from by
                    cases q : (List.range ((wv.length : Int) - 0).toNat)[i]? with
                    | none => rw [q] at h; cases h
                    | some z =>
                      obtain ⟨q1, q2⟩ := List.getElem?_eq_some_iff.mp q
                      rw [List.getElem_range] at q2
                      rw [q2]))
                  obtain ⟨q1, _⟩ := hi
                  rw [List.getElem?_eq_getElem q1, List.getElem_range] at h
                  cases h
                  refine ⟨by show V.int (0 + (i : Int)) = V.int i; rw [show (0 + (i : Int)) = (i : Int) by omega], ?_⟩
                  rw [List.length_range] at q1
                  omega
                have rgl : (rgV 0 (wv.length : Int)).length = ws.length := by rw [rgV_length]; omega
                -- kept
                refine ⟨_, rfl, pl, rfl, ⟨_, SqL.of hpl2⟩, fun D hD => lc_list (K := K) (a := pl) (xs := rgV 0 wv.length) (fun i H' => ExB [b] H2 H' ∧ BoxAt H' b ∧ ∃ ks : List Int, H' D = some (.lst (ks.map V.int)) ∧ Asc ks i)
                  ⟨ExB.new hD, boxX W2.box (Same.new hD), [], upd_same, Asc.nil⟩ (fun i H' _ hp => SqL.of (hp.1 _ _ hpl2 (by simp [npb]))) ?_ ?_⟩
                · rintro i x H' hi ⟨e, hb', ks, hk, asc⟩
                  obtain ⟨rfl, hil⟩ := atR i x hi
                  have nDb : D ≠ b := nbx W2.box hD
                  refine ⟨rfl, _, rfl, b, 3, rfl, hb', (by decide), (by decide), fun H3 i3 e3 hb3 _ _ => ⟨_, _, rfl, rfl, _, rfl, ?_⟩⟩
                  have hk3 := e3 _ _ hk (by simp [nDb])
                  refine ite2 (fun _ => ?_) (fun _ => ?_)
                  · refine ⟨_, rfl, _, hk3, (by rw [List.length_map]; exact Nat.lt_of_lt_of_le (by have := asc.len; omega : ks.length < 1000) (by decide)), ExB.putN (e.trans e3) hD, ?_, ks ++ [(i : Int)], by rw [upd_same, List.map_append]; rfl, asc.more⟩
                    obtain ⟨z, s', n', hbb⟩ := hb3
                    exact ⟨z, s', n', by rw [upd_ne nDb.symm]; exact hbb⟩
                  · exact ⟨e.trans e3, hb3, ks, hk3, asc.up⟩
                rintro H3 ⟨e3, hb3, ks, hk3, ascK⟩
                rw [rgl] at ascK
                refine ⟨D, _, rfl, .inl ⟨SqL.of hk3, fun t1 ht1 => ?_⟩⟩
                have W3 := (W2.boxed e3 hb3).same (Same.new (o := .tup (ks.map V.int)) ht1)
                have hpl3 := Same.new (o := .tup (ks.map V.int)) ht1 _ _ (e3 _ _ hpl2 (by simp [npb]))
                have hkt : upd H3 t1 (.tup (ks.map V.int)) t1 = some (.tup (ks.map V.int)) := upd_same
                generalize upd H3 t1 (.tup (ks.map V.int)) = H4 at W3 hpl3 hkt
                -- torn
                refine ⟨_, rfl, pl, rfl, ⟨_, SqL.of hpl3⟩, fun D2 hD2 => lc_list (K := K) (a := pl) (xs := rgV 0 wv.length) (fun i H' => ExB [b] H4 H' ∧ BoxAt H' b ∧ ∃ ts : List Int, H' D2 = some (.lst (ts.map V.int)) ∧ Asc ts i ∧ ∀ z ∈ ts, z ∉ ks)
                  ⟨ExB.new hD2, boxX W3.box (Same.new hD2), [], upd_same, Asc.nil, fun _ h => nomatch h⟩ (fun i H' _ hp => SqL.of (hp.1 _ _ hpl3 (by simp [npb]))) ?_ ?_⟩
                · rintro i x H' hi ⟨e, hb', ts, hk, asc, hno⟩
                  obtain ⟨rfl, hil⟩ := atR i x hi
                  have nDb : D2 ≠ b := nbx W3.box hD2
                  have nt4 := W3.st.box.noT
                  refine ⟨rfl, _, rfl, _, rfl, t1, _, rfl, .inr (e.sqT nt4 (SqT.of hkt)), rfl, flat_ints ks, _, rfl, ?_⟩
                  rw [if_pos rfl, inV_int]
                  refine ite2 (fun cn => ?_) (fun cn => ?_)
                  · have cn : (i : Int) ∉ ks := by simpa using cn
                    refine ⟨_, rfl, b, 2, rfl, hb', (by decide), (by decide), fun H5 i5 e5 hb5 _ _ => ⟨_, _, rfl, rfl, _, rfl, ?_⟩⟩
                    have hk5 := e5 _ _ hk (by simp [nDb])
                    refine ite2 (fun _ => ?_) (fun _ => ?_)
                    · refine ⟨_, rfl, _, hk5, (by rw [List.length_map]; exact Nat.lt_of_lt_of_le (by have := asc.len; omega : ts.length < 1000) (by decide)), ExB.putN (e.trans e5) hD2, ?_, ts ++ [(i : Int)], by rw [upd_same, List.map_append]; rfl, asc.more, fun z hz => ?_⟩
                      · obtain ⟨z, s', n', hbb⟩ := hb5
                        exact ⟨z, s', n', by rw [upd_ne nDb.symm]; exact hbb⟩
                      · rcases List.mem_append.mp hz with hz | hz
                        · exact hno z hz
                        · rw [List.mem_singleton.mp hz]; exact cn
                    · exact ⟨e.trans e5, hb5, ts, hk5, asc.up, hno⟩
                  · exact ⟨e, hb', ts, hk, asc.up, hno⟩
                rintro H5 ⟨e5, hb5, ts, hk5, ascT, hno⟩
                rw [rgl] at ascT
                refine ⟨D2, _, rfl, .inl ⟨SqL.of hk5, fun t2 ht2 => ?_⟩⟩
                have W5 := (W3.boxed e5 hb5).same (Same.new (o := .tup (ts.map V.int)) ht2)
                have n1b : t1 ≠ b := by
                  obtain ⟨z, s', n', hbb⟩ := W3.box
                  exact (ne_of hbb hkt (fun z => nomatch z)).symm
                have hkt5 := Same.new (o := .tup (ts.map V.int)) ht2 _ _ (e5 _ _ hkt (by simp [n1b]))
                have htt : upd H5 t2 (.tup (ts.map V.int)) t2 = some (.tup (ts.map V.int)) := upd_same
                generalize upd H5 t2 (.tup (ts.map V.int)) = H6 at W5 hkt5 htt
                obtain ⟨dx6, hd6⟩ := W5.st.disk.obj
                have kints : ∀ (xs : List Int), ∀ y ∈ xs.map V.int, Kd K H6 y := fun xs y hy => by obtain ⟨z, _, rfl⟩ := List.mem_map.mp hy; exact Kd.int _
                have lk := ascK.len
                have lt := ascT.len
                have qle : ((ws.length : Nat) : Int) = ((qs.length : Nat) : Int) := by omega
                have lotK := ascK.lot
                have lotT := ascT.lot
                rw [qle] at lotK lotT
                refine ⟨_, rfl, d, dx6, _, rfl, hd6, nosm _ _ _ (by decide +kernel) (by decide +kernel), _, rfl, _, rfl, d, cl, ql, cs, qs, .ref t1, .ref t2, true, true, rfl, W5.st.disk,
                  .inl ⟨t1, _, rfl, SqT.of hkt5, kints ks, (by rw [List.length_map]; omega), lotK.symm⟩, .inl ⟨t2, _, rfl, SqT.of htt, kints ts, (by rw [List.length_map]; omega), lotT.symm⟩,
                  .inr ⟨rfl, rfl, t1, t2, ks, ts, rfl, rfl, SqT.of hkt5, SqT.of htt, (by omega), .inr ⟨hno, fun H7 lq hlq e7 D7 => ⟨rfl, _, rfl, ?_⟩⟩⟩⟩
                obtain ⟨⟨bd, bc, bq, bo, b0, b1⟩, ⟨dc, dq, do', d0, d1⟩, ⟨cq, co, c0, c1⟩, ⟨qo, q0, q1⟩, ⟨o0, o1⟩, l01⟩ := nd7 W5.st.nd
                have nt6 : NoT [d, cl] H6 := noT_ins hd6 (noT_lst W5.st.disk.cel (fun _ h => nomatch h))
                have O7 := W5.st.own.keep e7 nt6 (by simp [do'.symm, co.symm]) (by simp [d0.symm, c0.symm]) (by simp [d1.symm, c1.symm])
                have C7 := W5.st.ce.keep (fun _ _ h => e7.sqT nt6 h)
                have Q7 := W5.st.qe.keep (fun _ _ h => e7.sqT nt6 h)
                have t1d : t1 ≠ d := (ne_of hd6 hkt5 (fun z => nomatch z)).symm
                have t1c : t1 ≠ cl := (ne_of W5.st.disk.cel hkt5 (fun z => nomatch z)).symm
                have t2d : t2 ≠ d := (ne_of hd6 htt (fun z => nomatch z)).symm
                have t2c : t2 ≠ cl := (ne_of W5.st.disk.cel htt (fun z => nomatch z)).symm
                have hk7 := e7 _ _ hkt5 (by simp [t1d, t1c])
                have ht7 := e7 _ _ htt (by simp [t2d, t2c])
                refine ⟨_, rfl, _, rfl, _, rfl, o, l0, l1, os, cs, ws, qs, t1, t2, ks, ts, rfl, O7, C7, Q7, .inr hk7, .inr ht7, (ne_of O7.cel hk7 (fun z => nomatch z)).symm, (ne_of O7.cel ht7 (fun z => nomatch z)).symm, fun H8 lw os2 hlw e8 O8 C8 => ?_⟩
                exact ⟨cl, lq, l0, lw, _, os2, [], [], W5.fall hlq e7 D7 (by rw [fallN_len, W5.len]) (fun _ _ e => e) hlw e8 O8 C8, _, _, _, _, _, _, _, _, _, _, _, rfl⟩
              · -- wrong
                refine ⟨_, rfl, _, rfl, _, rfl, b, d, o, cl, ql, l0, l1, cs, os, qs, ws, rfl, W1.st, W1.tab, fun H2 e2 hb2 T2 => ⟨_, rfl, ?_⟩⟩
                exact ⟨cl, ql, l0, l1, cs, os, qs, ws, (W1.wide e2 hb2 T2).mono (by omega), _, _, _, _, _, _, _, _, _, _, _, rfl⟩
        · rintro σ2 Hk ⟨cl, ql, l0, l1, cs, os, qs, ws, W, u1, u2, u3, u4, u5, u6, u7, u8, u9, u10, u11, rfl⟩
          refine ⟨_, rfl, _, rfl, _, rfl, b, d, o, cl, ql, l0, l1, cs, os, qs, ws, rfl, W.st, fun H2 e2 hb2 => ⟨_, rfl, ?_⟩⟩
          exact ⟨cl, ql, l0, l1, cs, os, qs, ws, W.boxed e2 hb2, _, _, _, _, _, _, _, _, _, _, _, rfl⟩
      · rintro σ1 Hj ⟨cl, ql, l0, l1, cs, os, qs, ws, W, y1, y2, y3, y4, y5, y6, y7, y8, y9, y10, y11, rfl⟩
        exact ⟨W.ex, W.tab, _, _, _, _, _, _, _, _, _, _, _, _, _, _, _, rfl⟩
    · rintro σ H' ⟨_, _, _⟩
      exact k _
end
end K69

namespace K69
open PySem PySem.Spec PyProof.Rows L2
theorem all_mk {w : World} {K : PySem.W.Frag} {h : Heap} {mg : Str → Option Value} {fa : Addr} (X : K.In h) (G : h.Ns mainGlobals mg) (hfa : mg "law" = some (.ref fa))
    {a_is_integer a_is_number a_is_ascending a_take a_pick a_same a_heard a_part a_box a_made a_seen_at a_fall a_wrong a_alike a_law m_init m_size m_safe m_waits m_put m_read m_flush m_is_lot_of_puts m_cut : Addr} {oc_is_integer kV_is_integer dc_is_integer pm_is_integer ct_is_integer : Value} {od_is_integer an_is_integer : Option Addr} {sl_is_integer : Array (Option Value)} {cd_is_integer : Value}
    {oc_is_number kV_is_number dc_is_number pm_is_number ct_is_number : Value} {od_is_number an_is_number : Option Addr} {sl_is_number : Array (Option Value)} {cd_is_number : Value}
    {Td : Addr} {cT : Value} {dT : Option Addr} {nT : Nat} {sT : Array (Option Value)}
    {oc_is_ascending kV_is_ascending dc_is_ascending pm_is_ascending ct_is_ascending : Value} {od_is_ascending an_is_ascending : Option Addr} {sl_is_ascending : Array (Option Value)} {cd_is_ascending : Value}
    {oc__law_take kV__law_take dc__law_take pm__law_take ct__law_take : Value} {od__law_take an__law_take : Option Addr} {sl__law_take : Array (Option Value)} {cd__law_take : Value}
    {oc__law_pick kV__law_pick dc__law_pick pm__law_pick ct__law_pick : Value} {od__law_pick an__law_pick : Option Addr} {sl__law_pick : Array (Option Value)} {cd__law_pick : Value}
    {oc__law_same kV__law_same dc__law_same pm__law_same ct__law_same : Value} {od__law_same an__law_same : Option Addr} {sl__law_same : Array (Option Value)} {cd__law_same : Value}
    {oc__law_heard kV__law_heard dc__law_heard pm__law_heard ct__law_heard : Value} {od__law_heard an__law_heard : Option Addr} {sl__law_heard : Array (Option Value)} {cd__law_heard : Value}
    {oc__law_part kV__law_part dc__law_part pm__law_part ct__law_part : Value} {od__law_part an__law_part : Option Addr} {sl__law_part : Array (Option Value)} {cd__law_part : Value}
    {oc__law_box kV__law_box dc__law_box pm__law_box ct__law_box : Value} {od__law_box an__law_box : Option Addr} {sl__law_box : Array (Option Value)} {cd__law_box : Value}
    {oc__law_made kV__law_made dc__law_made pm__law_made ct__law_made : Value} {od__law_made an__law_made : Option Addr} {sl__law_made : Array (Option Value)} {cd__law_made : Value}
    {oc__law_seen_at kV__law_seen_at dc__law_seen_at pm__law_seen_at ct__law_seen_at : Value} {od__law_seen_at an__law_seen_at : Option Addr} {sl__law_seen_at : Array (Option Value)} {cd__law_seen_at : Value}
    {oc__law_fall kV__law_fall dc__law_fall pm__law_fall ct__law_fall : Value} {od__law_fall an__law_fall : Option Addr} {sl__law_fall : Array (Option Value)} {cd__law_fall : Value}
    {cW : Addr}
    {oc__law_wrong kV__law_wrong dc__law_wrong pm__law_wrong ct__law_wrong : Value} {od__law_wrong an__law_wrong : Option Addr} {sl__law_wrong : Array (Option Value)}
    {oc__law_alike kV__law_alike dc__law_alike pm__law_alike ct__law_alike : Value} {od__law_alike an__law_alike : Option Addr} {sl__law_alike : Array (Option Value)} {cd__law_alike : Value}
    {oc_law kV_law dc_law pm_law ct_law : Value} {od_law an_law : Option Addr} {sl_law : Array (Option Value)} {cd_law : Value}
    {oc_minit kV_minit dc_minit pm_minit ct_minit : Value} {od_minit an_minit : Option Addr} {sl_minit : Array (Option Value)} {cd_minit : Value}
    {oc_msize kV_msize dc_msize pm_msize ct_msize : Value} {od_msize an_msize : Option Addr} {sl_msize : Array (Option Value)} {cd_msize : Value}
    {oc_msafe kV_msafe dc_msafe pm_msafe ct_msafe : Value} {od_msafe an_msafe : Option Addr} {sl_msafe : Array (Option Value)} {cd_msafe : Value}
    {oc_mwaits kV_mwaits dc_mwaits pm_mwaits ct_mwaits : Value} {od_mwaits an_mwaits : Option Addr} {sl_mwaits : Array (Option Value)} {cd_mwaits : Value}
    {oc_mput kV_mput dc_mput pm_mput ct_mput : Value} {od_mput an_mput : Option Addr} {sl_mput : Array (Option Value)} {cd_mput : Value}
    {oc_mread kV_mread dc_mread pm_mread ct_mread : Value} {od_mread an_mread : Option Addr} {sl_mread : Array (Option Value)} {cd_mread : Value}
    {oc_mflush kV_mflush dc_mflush pm_mflush ct_mflush : Value} {od_mflush an_mflush : Option Addr} {sl_mflush : Array (Option Value)} {cd_mflush : Value}
    {oc_mis_lot_of_puts kV_mis_lot_of_puts dc_mis_lot_of_puts pm_mis_lot_of_puts ct_mis_lot_of_puts : Value} {od_mis_lot_of_puts an_mis_lot_of_puts : Option Addr} {sl_mis_lot_of_puts : Array (Option Value)} {cd_mis_lot_of_puts : Value}
    {oc_mcut kV_mcut dc_mcut pm_mcut ct_mcut : Value} {od_mcut an_mcut : Option Addr} {sl_mcut : Array (Option Value)} {cd_mcut : Value}
    {C CL : Addr}
    {CR fIR cdaR ccR NR : Addr} {nmR qR qnR fileR : Str} {bsR : List Value} {snR : List Str} {subR : List Value} {abR : Bool} {colR : Option Bool} {ddR odIR anIR cddR cldR : Option Addr} {m0R m1R m2R m3R m5R : Option Value} {ocIR dcIR pmIR ctIR cclR clR : Value} {slIR ccsR cslR : Array (Option Value)} {vsR : Array Value} {tfR : Tok} {p1R p2R q1R q2R q3R q4R q5R q6R q7R q8R q9R q10R : Pos}
    {CI fII cdaI ccI NI : Addr} {nmI qI qnI fileI : Str} {bsI : List Value} {snI : List Str} {subI : List Value} {abI : Bool} {colI : Option Bool} {ddI odII anII cddI cldI : Option Addr} {m0I m1I m2I m3I m5I : Option Value} {ocII dcII pmII ctII cclI clI : Value} {slII ccsI cslI : Array (Option Value)} {vsI : Array Value} {tfI : Tok} {p1I p2I q1I q2I q3I q4I q5I q6I q7I q8I q9I q10I : Pos}
    {tM tF tTk : Tok} {aT : Addr} {dTt : Option Addr} {nTt : Nat} {sTt : Array (Option Value)}
    {Pt : Addr}
    (g_is_integer : PySem.W.nsIn K mainGlobals "is_integer" = some (some (.ref a_is_integer)))
    (l_is_integer : K.lookup a_is_integer = some ⟨oc_is_integer, od_is_integer, .func (PySem.W.fnOf "is_integer" "is_integer" (defArgs s_is_integer) (defBody s_is_integer) (defScope s_is_integer) .none kV_is_integer dc_is_integer pm_is_integer an_is_integer (cd_is_integer) ct_is_integer), sl_is_integer⟩)
    (c_is_integer : PySem.W.codeIn K (cd_is_integer) "is_integer" = true)
    (k_is_integer : PySem.W.keepIn K (.ref a_is_integer) = true)
    (g_is_number : PySem.W.nsIn K mainGlobals "is_number" = some (some (.ref a_is_number)))
    (l_is_number : K.lookup a_is_number = some ⟨oc_is_number, od_is_number, .func (PySem.W.fnOf "is_number" "is_number" (defArgs s_is_number) (defBody s_is_number) (defScope s_is_number) (.ref Td) kV_is_number dc_is_number pm_is_number an_is_number (cd_is_number) ct_is_number), sl_is_number⟩)
    (c_is_number : PySem.W.codeIn K (cd_is_number) "is_number" = true)
    (k_is_number : PySem.W.keepIn K (.ref a_is_number) = true)
    (lTd : K.lookup Td = some ⟨cT, dT, .seq #[Value.none] nT, sT⟩)
    (g_is_ascending : PySem.W.nsIn K mainGlobals "is_ascending" = some (some (.ref a_is_ascending)))
    (l_is_ascending : K.lookup a_is_ascending = some ⟨oc_is_ascending, od_is_ascending, .func (PySem.W.fnOf "is_ascending" "is_ascending" (defArgs s_is_ascending) (defBody s_is_ascending) (defScope s_is_ascending) .none kV_is_ascending dc_is_ascending pm_is_ascending an_is_ascending (cd_is_ascending) ct_is_ascending), sl_is_ascending⟩)
    (c_is_ascending : PySem.W.codeIn K (cd_is_ascending) "is_ascending" = true)
    (k_is_ascending : PySem.W.keepIn K (.ref a_is_ascending) = true)
    (g__law_take : PySem.W.nsIn K mainGlobals "_law_take" = some (some (.ref a_take)))
    (l__law_take : K.lookup a_take = some ⟨oc__law_take, od__law_take, .func (PySem.W.fnOf "_law_take" "_law_take" (defArgs s__law_take) (defBody s__law_take) (defScope s__law_take) .none kV__law_take dc__law_take pm__law_take an__law_take (cd__law_take) ct__law_take), sl__law_take⟩)
    (c__law_take : PySem.W.codeIn K (cd__law_take) "_law_take" = true)
    (k__law_take : PySem.W.keepIn K (.ref a_take) = true)
    (g__law_pick : PySem.W.nsIn K mainGlobals "_law_pick" = some (some (.ref a_pick)))
    (l__law_pick : K.lookup a_pick = some ⟨oc__law_pick, od__law_pick, .func (PySem.W.fnOf "_law_pick" "_law_pick" (defArgs s__law_pick) (defBody s__law_pick) (defScope s__law_pick) .none kV__law_pick dc__law_pick pm__law_pick an__law_pick (cd__law_pick) ct__law_pick), sl__law_pick⟩)
    (c__law_pick : PySem.W.codeIn K (cd__law_pick) "_law_pick" = true)
    (k__law_pick : PySem.W.keepIn K (.ref a_pick) = true)
    (g__law_same : PySem.W.nsIn K mainGlobals "_law_same" = some (some (.ref a_same)))
    (l__law_same : K.lookup a_same = some ⟨oc__law_same, od__law_same, .func (PySem.W.fnOf "_law_same" "_law_same" (defArgs s__law_same) (defBody s__law_same) (defScope s__law_same) .none kV__law_same dc__law_same pm__law_same an__law_same (cd__law_same) ct__law_same), sl__law_same⟩)
    (c__law_same : PySem.W.codeIn K (cd__law_same) "_law_same" = true)
    (k__law_same : PySem.W.keepIn K (.ref a_same) = true)
    (g__law_heard : PySem.W.nsIn K mainGlobals "_law_heard" = some (some (.ref a_heard)))
    (l__law_heard : K.lookup a_heard = some ⟨oc__law_heard, od__law_heard, .func (PySem.W.fnOf "_law_heard" "_law_heard" (defArgs s__law_heard) (defBody s__law_heard) (defScope s__law_heard) .none kV__law_heard dc__law_heard pm__law_heard an__law_heard (cd__law_heard) ct__law_heard), sl__law_heard⟩)
    (c__law_heard : PySem.W.codeIn K (cd__law_heard) "_law_heard" = true)
    (k__law_heard : PySem.W.keepIn K (.ref a_heard) = true)
    (g__law_part : PySem.W.nsIn K mainGlobals "_law_part" = some (some (.ref a_part)))
    (l__law_part : K.lookup a_part = some ⟨oc__law_part, od__law_part, .func (PySem.W.fnOf "_law_part" "_law_part" (defArgs s__law_part) (defBody s__law_part) (defScope s__law_part) .none kV__law_part dc__law_part pm__law_part an__law_part (cd__law_part) ct__law_part), sl__law_part⟩)
    (c__law_part : PySem.W.codeIn K (cd__law_part) "_law_part" = true)
    (k__law_part : PySem.W.keepIn K (.ref a_part) = true)
    (g__law_box : PySem.W.nsIn K mainGlobals "_law_box" = some (some (.ref a_box)))
    (l__law_box : K.lookup a_box = some ⟨oc__law_box, od__law_box, .func (PySem.W.fnOf "_law_box" "_law_box" (defArgs s__law_box) (defBody s__law_box) (defScope s__law_box) .none kV__law_box dc__law_box pm__law_box an__law_box (cd__law_box) ct__law_box), sl__law_box⟩)
    (c__law_box : PySem.W.codeIn K (cd__law_box) "_law_box" = true)
    (k__law_box : PySem.W.keepIn K (.ref a_box) = true)
    (g__law_made : PySem.W.nsIn K mainGlobals "_law_made" = some (some (.ref a_made)))
    (l__law_made : K.lookup a_made = some ⟨oc__law_made, od__law_made, .func (PySem.W.fnOf "_law_made" "_law_made" (defArgs s__law_made) (defBody s__law_made) (defScope s__law_made) .none kV__law_made dc__law_made pm__law_made an__law_made (cd__law_made) ct__law_made), sl__law_made⟩)
    (c__law_made : PySem.W.codeIn K (cd__law_made) "_law_made" = true)
    (k__law_made : PySem.W.keepIn K (.ref a_made) = true)
    (g__law_seen_at : PySem.W.nsIn K mainGlobals "_law_seen_at" = some (some (.ref a_seen_at)))
    (l__law_seen_at : K.lookup a_seen_at = some ⟨oc__law_seen_at, od__law_seen_at, .func (PySem.W.fnOf "_law_seen_at" "_law_seen_at" (defArgs s__law_seen_at) (defBody s__law_seen_at) (defScope s__law_seen_at) .none kV__law_seen_at dc__law_seen_at pm__law_seen_at an__law_seen_at (cd__law_seen_at) ct__law_seen_at), sl__law_seen_at⟩)
    (c__law_seen_at : PySem.W.codeIn K (cd__law_seen_at) "_law_seen_at" = true)
    (k__law_seen_at : PySem.W.keepIn K (.ref a_seen_at) = true)
    (g__law_fall : PySem.W.nsIn K mainGlobals "_law_fall" = some (some (.ref a_fall)))
    (l__law_fall : K.lookup a_fall = some ⟨oc__law_fall, od__law_fall, .func (PySem.W.fnOf "_law_fall" "_law_fall" (defArgs s__law_fall) (defBody s__law_fall) (defScope s__law_fall) .none kV__law_fall dc__law_fall pm__law_fall an__law_fall (cd__law_fall) ct__law_fall), sl__law_fall⟩)
    (c__law_fall : PySem.W.codeIn K (cd__law_fall) "_law_fall" = true)
    (k__law_fall : PySem.W.keepIn K (.ref a_fall) = true)
    (g__law_wrong : PySem.W.nsIn K mainGlobals "_law_wrong" = some (some (.ref a_wrong)))
    (l__law_wrong : K.lookup a_wrong = some ⟨oc__law_wrong, od__law_wrong, .func (PySem.W.fnOf "_law_wrong" "_law_wrong" (defArgs s__law_wrong) (defBody s__law_wrong) (defScope s__law_wrong) .none kV__law_wrong dc__law_wrong pm__law_wrong an__law_wrong (.ref cW) ct__law_wrong), sl__law_wrong⟩)
    (c__law_wrong : PySem.W.codeIn K (.ref cW) "_law_wrong" = true)
    (k__law_wrong : PySem.W.keepIn K (.ref a_wrong) = true)
    (g__law_alike : PySem.W.nsIn K mainGlobals "_law_alike" = some (some (.ref a_alike)))
    (l__law_alike : K.lookup a_alike = some ⟨oc__law_alike, od__law_alike, .func (PySem.W.fnOf "_law_alike" "_law_alike" (defArgs s__law_alike) (defBody s__law_alike) (defScope s__law_alike) .none kV__law_alike dc__law_alike pm__law_alike an__law_alike (cd__law_alike) ct__law_alike), sl__law_alike⟩)
    (c__law_alike : PySem.W.codeIn K (cd__law_alike) "_law_alike" = true)
    (k__law_alike : PySem.W.keepIn K (.ref a_alike) = true)
    (g_law : PySem.W.nsIn K mainGlobals "law" = some (some (.ref a_law)))
    (l_law : K.lookup a_law = some ⟨oc_law, od_law, .func (PySem.W.fnOf "law" "law" (defArgs s_law) (defBody s_law) (defScope s_law) .none kV_law dc_law pm_law an_law (cd_law) ct_law), sl_law⟩)
    (c_law : PySem.W.codeIn K (cd_law) "law" = true)
    (k_law : PySem.W.keepIn K (.ref a_law) = true)
    (g_Disk : PySem.W.nsIn K mainGlobals "Disk" = some (some (.ref C)))
    (f_init : PySem.W.findIn K (.ref C) "__init__" = some (some (.ref m_init)))
    (i_init : PySem.W.isFn K (.ref m_init) = true)
    (l_minit : K.lookup m_init = some ⟨oc_minit, od_minit, .func (PySem.W.fnOf "__init__" "Disk.__init__" (defArgs s_Disk___init__) (defBody s_Disk___init__) (defScope s_Disk___init__) .none kV_minit dc_minit pm_minit an_minit (cd_minit) ct_minit), sl_minit⟩)
    (c_minit : PySem.W.codeIn K (cd_minit) "Disk.__init__" = true)
    (k_minit : PySem.W.keepIn K (.ref m_init) = true)
    (f_size : PySem.W.findIn K (.ref C) "size" = some (some (.ref m_size)))
    (i_size : PySem.W.isFn K (.ref m_size) = true)
    (l_msize : K.lookup m_size = some ⟨oc_msize, od_msize, .func (PySem.W.fnOf "size" "Disk.size" (defArgs s_Disk_size) (defBody s_Disk_size) (defScope s_Disk_size) .none kV_msize dc_msize pm_msize an_msize (cd_msize) ct_msize), sl_msize⟩)
    (c_msize : PySem.W.codeIn K (cd_msize) "Disk.size" = true)
    (k_msize : PySem.W.keepIn K (.ref m_size) = true)
    (f_safe : PySem.W.findIn K (.ref C) "safe" = some (some (.ref m_safe)))
    (i_safe : PySem.W.isFn K (.ref m_safe) = true)
    (l_msafe : K.lookup m_safe = some ⟨oc_msafe, od_msafe, .func (PySem.W.fnOf "safe" "Disk.safe" (defArgs s_Disk_safe) (defBody s_Disk_safe) (defScope s_Disk_safe) .none kV_msafe dc_msafe pm_msafe an_msafe (cd_msafe) ct_msafe), sl_msafe⟩)
    (c_msafe : PySem.W.codeIn K (cd_msafe) "Disk.safe" = true)
    (k_msafe : PySem.W.keepIn K (.ref m_safe) = true)
    (f_waits : PySem.W.findIn K (.ref C) "waits" = some (some (.ref m_waits)))
    (i_waits : PySem.W.isFn K (.ref m_waits) = true)
    (l_mwaits : K.lookup m_waits = some ⟨oc_mwaits, od_mwaits, .func (PySem.W.fnOf "waits" "Disk.waits" (defArgs s_Disk_waits) (defBody s_Disk_waits) (defScope s_Disk_waits) .none kV_mwaits dc_mwaits pm_mwaits an_mwaits (cd_mwaits) ct_mwaits), sl_mwaits⟩)
    (c_mwaits : PySem.W.codeIn K (cd_mwaits) "Disk.waits" = true)
    (k_mwaits : PySem.W.keepIn K (.ref m_waits) = true)
    (f_put : PySem.W.findIn K (.ref C) "put" = some (some (.ref m_put)))
    (i_put : PySem.W.isFn K (.ref m_put) = true)
    (l_mput : K.lookup m_put = some ⟨oc_mput, od_mput, .func (PySem.W.fnOf "put" "Disk.put" (defArgs s_Disk_put) (defBody s_Disk_put) (defScope s_Disk_put) .none kV_mput dc_mput pm_mput an_mput (cd_mput) ct_mput), sl_mput⟩)
    (c_mput : PySem.W.codeIn K (cd_mput) "Disk.put" = true)
    (k_mput : PySem.W.keepIn K (.ref m_put) = true)
    (f_read : PySem.W.findIn K (.ref C) "read" = some (some (.ref m_read)))
    (i_read : PySem.W.isFn K (.ref m_read) = true)
    (l_mread : K.lookup m_read = some ⟨oc_mread, od_mread, .func (PySem.W.fnOf "read" "Disk.read" (defArgs s_Disk_read) (defBody s_Disk_read) (defScope s_Disk_read) .none kV_mread dc_mread pm_mread an_mread (cd_mread) ct_mread), sl_mread⟩)
    (c_mread : PySem.W.codeIn K (cd_mread) "Disk.read" = true)
    (k_mread : PySem.W.keepIn K (.ref m_read) = true)
    (f_flush : PySem.W.findIn K (.ref C) "flush" = some (some (.ref m_flush)))
    (i_flush : PySem.W.isFn K (.ref m_flush) = true)
    (l_mflush : K.lookup m_flush = some ⟨oc_mflush, od_mflush, .func (PySem.W.fnOf "flush" "Disk.flush" (defArgs s_Disk_flush) (defBody s_Disk_flush) (defScope s_Disk_flush) .none kV_mflush dc_mflush pm_mflush an_mflush (cd_mflush) ct_mflush), sl_mflush⟩)
    (c_mflush : PySem.W.codeIn K (cd_mflush) "Disk.flush" = true)
    (k_mflush : PySem.W.keepIn K (.ref m_flush) = true)
    (f_is_lot_of_puts : PySem.W.findIn K (.ref C) "is_lot_of_puts" = some (some (.ref m_is_lot_of_puts)))
    (i_is_lot_of_puts : PySem.W.isFn K (.ref m_is_lot_of_puts) = true)
    (l_mis_lot_of_puts : K.lookup m_is_lot_of_puts = some ⟨oc_mis_lot_of_puts, od_mis_lot_of_puts, .func (PySem.W.fnOf "is_lot_of_puts" "Disk.is_lot_of_puts" (defArgs s_Disk_is_lot_of_puts) (defBody s_Disk_is_lot_of_puts) (defScope s_Disk_is_lot_of_puts) .none kV_mis_lot_of_puts dc_mis_lot_of_puts pm_mis_lot_of_puts an_mis_lot_of_puts (cd_mis_lot_of_puts) ct_mis_lot_of_puts), sl_mis_lot_of_puts⟩)
    (c_mis_lot_of_puts : PySem.W.codeIn K (cd_mis_lot_of_puts) "Disk.is_lot_of_puts" = true)
    (k_mis_lot_of_puts : PySem.W.keepIn K (.ref m_is_lot_of_puts) = true)
    (f_cut : PySem.W.findIn K (.ref C) "cut" = some (some (.ref m_cut)))
    (i_cut : PySem.W.isFn K (.ref m_cut) = true)
    (l_mcut : K.lookup m_cut = some ⟨oc_mcut, od_mcut, .func (PySem.W.fnOf "cut" "Disk.cut" (defArgs s_Disk_cut) (defBody s_Disk_cut) (defScope s_Disk_cut) .none kV_mcut dc_mcut pm_mcut an_mcut (cd_mcut) ct_mcut), sl_mcut⟩)
    (c_mcut : PySem.W.codeIn K (cd_mcut) "Disk.cut" = true)
    (k_mcut : PySem.W.keepIn K (.ref m_cut) = true)
    (pg : PySem.W.plainGet K C Str.empty = true)
    (hd : PySem.W.hasDictIn K C = true)
    (po : PySem.W.plainOver K C = true)
    (sa : PySem.W.findIn K (.ref C) "__setattr__" = some (some (.builtin "object.__setattr__")))
    (mk : PySem.W.makesIn K C = true)
    (kc : PySem.W.keepIn K (.ref C) = true)
    (nC : PySem.W.findIn K (.ref C) "cells" = some none)
    (nQ : PySem.W.findIn K (.ref C) "queue" = some none)
    (g_LiarsError : PySem.W.nsIn K mainGlobals "LiarsError" = some (some (.ref CL)))
    (g_Refused : PySem.W.nsIn K mainGlobals "Refused" = some (some (.ref CR)))
    (x_Refused : K.lookup CR = some (excClassObj nmR qR CR NR bsR [.ref CL, .type "ValueError", .type "Exception", .type "BaseException", .type "object"] true snR subR abR colR ddR m0R m1R m2R m3R m5R "ValueError.__new__"))
    (sa_Refused : PySem.W.findIn K (.ref CR) "__setattr__" = some (some (.builtin "object.__setattr__")))
    (ga_Refused : PySem.W.findIn K (.ref CR) "__getattribute__" = some (some (.builtin "BaseException.__getattribute__")))
    (gg_Refused : PySem.W.findIn K (.ref CR) "__getattr__" = some none)
    (na_Refused : PySem.W.findIn K (.ref CR) "at" = some none)
    (fi_Refused : PySem.W.findIn K (.ref CR) "__init__" = some (some (.ref fIR)))
    (ti_Refused : PySem.W.typeIn K (.ref fIR) = some (.type "function"))
    (kp_Refused : PySem.W.keepIn K (.ref CR) = true)
    (ex_Refused : PySem.W.subIn K (.ref CR) (.type "BaseException") = some true)
    (ve_Refused : PySem.W.subIn K (.ref CR) (.type "ValueError") = some true)
    (ty_Refused : PySem.W.typeIn K (.ref CR) = some (.type "type"))
    (hd_Refused : PySem.W.hasDictIn K CR = true)
    (lI_Refused : K.lookup fIR = some ⟨ocIR, odIR, .func (PySem.W.ksFn "__init__" qnR (PySem.SupX.iA p1R p2R) (PySem.SupX.iB q1R q2R q3R q4R q5R q6R q7R q8R q9R q10R) PySem.SupX.iS .none .none dcIR pmIR anIR (.ref cdaR) ctIR ccR), slIR⟩)
    (cI_Refused : PySem.W.codeIn K (.ref cdaR) qnR = true)
    (lc_Refused : K.lookup cdaR = some ⟨cclR, cddR, .fields vsR, ccsR⟩)
    (lx_Refused : K.lookup ccR = some ⟨clR, cldR, .cell (some (.ref CR)), cslR⟩)
    (al_Refused : PySem.W.alongIn K "__init__" [.ref CL, .type "ValueError", .type "Exception", .type "BaseException", .type "object"] = some (some (.builtin "ValueError.__init__")))
    (te_Refused : PySem.W.exmOne K (.ref CR) (.ref CR) = some true)
    (vf_Refused : vsR[2]? = some (.str fileR tfR))
    (fl_Refused : ((PySem.Challenge.pw_liarsapart_k69_whole_disks_cut_anywhere.main.file : Str) == fileR) = true)
    (po_Refused : (q3R.endLine == q5R.line) = true)
    (g_InvalidNumber : PySem.W.nsIn K mainGlobals "InvalidNumber" = some (some (.ref CI)))
    (x_InvalidNumber : K.lookup CI = some (excClassObj nmI qI CI NI bsI [.ref CL, .type "ValueError", .type "Exception", .type "BaseException", .type "object"] true snI subI abI colI ddI m0I m1I m2I m3I m5I "ValueError.__new__"))
    (sa_InvalidNumber : PySem.W.findIn K (.ref CI) "__setattr__" = some (some (.builtin "object.__setattr__")))
    (ga_InvalidNumber : PySem.W.findIn K (.ref CI) "__getattribute__" = some (some (.builtin "BaseException.__getattribute__")))
    (gg_InvalidNumber : PySem.W.findIn K (.ref CI) "__getattr__" = some none)
    (na_InvalidNumber : PySem.W.findIn K (.ref CI) "at" = some none)
    (fi_InvalidNumber : PySem.W.findIn K (.ref CI) "__init__" = some (some (.ref fII)))
    (ti_InvalidNumber : PySem.W.typeIn K (.ref fII) = some (.type "function"))
    (kp_InvalidNumber : PySem.W.keepIn K (.ref CI) = true)
    (ex_InvalidNumber : PySem.W.subIn K (.ref CI) (.type "BaseException") = some true)
    (ve_InvalidNumber : PySem.W.subIn K (.ref CI) (.type "ValueError") = some true)
    (ty_InvalidNumber : PySem.W.typeIn K (.ref CI) = some (.type "type"))
    (hd_InvalidNumber : PySem.W.hasDictIn K CI = true)
    (lI_InvalidNumber : K.lookup fII = some ⟨ocII, odII, .func (PySem.W.ksFn "__init__" qnI (PySem.SupX.iA p1I p2I) (PySem.SupX.iB q1I q2I q3I q4I q5I q6I q7I q8I q9I q10I) PySem.SupX.iS .none .none dcII pmII anII (.ref cdaI) ctII ccI), slII⟩)
    (cI_InvalidNumber : PySem.W.codeIn K (.ref cdaI) qnI = true)
    (lc_InvalidNumber : K.lookup cdaI = some ⟨cclI, cddI, .fields vsI, ccsI⟩)
    (lx_InvalidNumber : K.lookup ccI = some ⟨clI, cldI, .cell (some (.ref CI)), cslI⟩)
    (al_InvalidNumber : PySem.W.alongIn K "__init__" [.ref CL, .type "ValueError", .type "Exception", .type "BaseException", .type "object"] = some (some (.builtin "ValueError.__init__")))
    (te_InvalidNumber : PySem.W.exmOne K (.ref CI) (.ref CI) = some true)
    (vf_InvalidNumber : vsI[2]? = some (.str fileI tfI))
    (fl_InvalidNumber : ((PySem.Challenge.pw_liarsapart_k69_whole_disks_cut_anywhere.main.file : Str) == fileI) = true)
    (po_InvalidNumber : (q3I.endLine == q5I.line) = true)
    (tp : PySem.W.nsIn K cStatics "thirdparty.any" = some none)
    (hca : PySem.W.findIn K (.ref CI) "__class__" = some (some (.builtin "object.__class__")))
    (hcn : PySem.W.specialIn K (.builtin "object.__class__") "__get__" = some (some (.builtin "getset_descriptor.__get__")))
    (hct : PySem.W.takesIn K (.builtin "object.__class__") = some true)
    (hcm : PySem.W.mroIn K CI (.type "object") = some true)
    (kL : PySem.W.kitOne K (.ref CI) (.ref CL) = some true)
    (kV : PySem.W.kitOne K (.ref CI) (.type "ValueError") = some true)
    (z_isinstance : PySem.W.nsIn K mainGlobals "isinstance" = some none)
    (z_int : PySem.W.nsIn K mainGlobals "int" = some none)
    (z_bool : PySem.W.nsIn K mainGlobals "bool" = some none)
    (z_str : PySem.W.nsIn K mainGlobals "str" = some none)
    (z_tuple : PySem.W.nsIn K mainGlobals "tuple" = some none)
    (z_list : PySem.W.nsIn K mainGlobals "list" = some none)
    (z_all : PySem.W.nsIn K mainGlobals "all" = some none)
    (z_any : PySem.W.nsIn K mainGlobals "any" = some none)
    (z_abs : PySem.W.nsIn K mainGlobals "abs" = some none)
    (z_min : PySem.W.nsIn K mainGlobals "min" = some none)
    (z_sorted : PySem.W.nsIn K mainGlobals "sorted" = some none)
    (z_enumerate : PySem.W.nsIn K mainGlobals "enumerate" = some none)
    (z_range : PySem.W.nsIn K mainGlobals "range" = some none)
    (z_len : PySem.W.nsIn K mainGlobals "len" = some none)
    (z_ValueError : PySem.W.nsIn K mainGlobals "ValueError" = some none)
    (z_super : PySem.W.nsIn K mainGlobals "super" = some none)
    (cM : PySem.W.nsIn K mainGlobals "MOST_SLOTS_OF_DISK" = some (some (.int 400 tM)))
    (cF : PySem.W.nsIn K mainGlobals "FEWEST_SLOTS" = some (some (.int 4 tF)))
    (cT : PySem.W.nsIn K mainGlobals "TORN" = some (some (.ref aT)))
    (lT : K.lookup aT = some ⟨.type "tuple", dTt, .seq #[Value.str "torn" tTk] nTt, sTt⟩)
    (hts : ∀ Q ∈ [Pt], h.get? Q = some (PySem.W.tabObj #[]))
    (lP : K.lookup Pt = none)
    (hh : PySem.W.codeHdIn K cW Pt = true) :
    LamX.LawAtS PySem.Challenge.rw_liarsapart_k69_whole_disks_cut_anywhere w K CX0 12 63 "script" mg fa h := by
  have e := hfa.symm.trans (PySem.W.mg_of X G g_law)
  cases e
  let ad : Ad := { is_integer := a_is_integer, is_number := a_is_number, is_ascending := a_is_ascending, Disk := C, Refused := CR, InvalidNumber := CI, LiarsError := CL, iRefused := fIR, iInvalidNumber := fII, TORN := aT, init := m_init, size := m_size, safe := m_safe, waits := m_waits, put := m_put, read := m_read, flush := m_flush, is_lot_of_puts := m_is_lot_of_puts, cut := m_cut, take := a_take, pick := a_pick, same := a_same, heard := a_heard, part := a_part, box := a_box, made := a_made, seen_at := a_seen_at, fall := a_fall, wrong := a_wrong, alike := a_alike }
  have SR : PySem.SupX.SupTxt PySem.Challenge.pw_liarsapart_k69_whole_disks_cut_anywhere K mg "Refused" CR fIR :=
    { gC := PySem.W.mg_of X G g_Refused, cls := ⟨_, _, _, _, _, _, _, _, _, _, _, _, _, _, _, x_Refused, rfl, al_Refused⟩, sa := sa_Refused, ga := ga_Refused, gg := gg_Refused, noN := na_Refused, iC := fi_Refused, tC := ti_Refused, kC := kp_Refused, exC := ex_Refused, vE := ve_Refused, tyC := ty_Refused, hdC := hd_Refused, te := te_Refused, tp := tp, sup0 := PySem.W.mg_none_of X G z_super, top := by decide +kernel,
      fn := ⟨_, _, _, _, _, _, _, _, _, _, _, _, _, _, _, _, _, _, _, _, _, _, _, _, _, _, _, _, _, _, _, lI_Refused, cI_Refused, lc_Refused, vf_Refused, fl_Refused, po_Refused, lx_Refused⟩ }
  have SI : PySem.SupX.SupTxt PySem.Challenge.pw_liarsapart_k69_whole_disks_cut_anywhere K mg "InvalidNumber" CI fII :=
    { gC := PySem.W.mg_of X G g_InvalidNumber, cls := ⟨_, _, _, _, _, _, _, _, _, _, _, _, _, _, _, x_InvalidNumber, rfl, al_InvalidNumber⟩, sa := sa_InvalidNumber, ga := ga_InvalidNumber, gg := gg_InvalidNumber, noN := na_InvalidNumber, iC := fi_InvalidNumber, tC := ti_InvalidNumber, kC := kp_InvalidNumber, exC := ex_InvalidNumber, vE := ve_InvalidNumber, tyC := ty_InvalidNumber, hdC := hd_InvalidNumber, te := te_InvalidNumber, tp := tp, sup0 := PySem.W.mg_none_of X G z_super, top := by decide +kernel,
      fn := ⟨_, _, _, _, _, _, _, _, _, _, _, _, _, _, _, _, _, _, _, _, _, _, _, _, _, _, _, _, _, _, _, lI_InvalidNumber, cI_InvalidNumber, lc_InvalidNumber, vf_InvalidNumber, fl_InvalidNumber, po_InvalidNumber, lx_InvalidNumber⟩ }
  have T : Txt PySem.Challenge.pw_liarsapart_k69_whole_disks_cut_anywhere K mg ad :=
    { z_isinstance := PySem.W.mg_none_of X G z_isinstance, z_int := PySem.W.mg_none_of X G z_int, z_bool := PySem.W.mg_none_of X G z_bool, z_str := PySem.W.mg_none_of X G z_str, z_tuple := PySem.W.mg_none_of X G z_tuple, z_list := PySem.W.mg_none_of X G z_list, z_all := PySem.W.mg_none_of X G z_all, z_any := PySem.W.mg_none_of X G z_any, z_abs := PySem.W.mg_none_of X G z_abs, z_min := PySem.W.mg_none_of X G z_min, z_sorted := PySem.W.mg_none_of X G z_sorted, z_enumerate := PySem.W.mg_none_of X G z_enumerate, z_range := PySem.W.mg_none_of X G z_range, z_len := PySem.W.mg_none_of X G z_len, z_ValueError := PySem.W.mg_none_of X G z_ValueError,
      g_is_integer := PySem.W.mg_of X G g_is_integer, k_is_integer := k_is_integer,
      g_is_number := PySem.W.mg_of X G g_is_number, k_is_number := k_is_number,
      g_is_ascending := PySem.W.mg_of X G g_is_ascending, k_is_ascending := k_is_ascending,
      g__law_take := PySem.W.mg_of X G g__law_take, k__law_take := k__law_take,
      g__law_pick := PySem.W.mg_of X G g__law_pick, k__law_pick := k__law_pick,
      g__law_same := PySem.W.mg_of X G g__law_same, k__law_same := k__law_same,
      g__law_heard := PySem.W.mg_of X G g__law_heard, k__law_heard := k__law_heard,
      g__law_part := PySem.W.mg_of X G g__law_part, k__law_part := k__law_part,
      g__law_box := PySem.W.mg_of X G g__law_box, k__law_box := k__law_box,
      g__law_made := PySem.W.mg_of X G g__law_made, k__law_made := k__law_made,
      g__law_seen_at := PySem.W.mg_of X G g__law_seen_at, k__law_seen_at := k__law_seen_at,
      g__law_fall := PySem.W.mg_of X G g__law_fall, k__law_fall := k__law_fall,
      g__law_wrong := PySem.W.mg_of X G g__law_wrong, k__law_wrong := k__law_wrong,
      g__law_alike := PySem.W.mg_of X G g__law_alike, k__law_alike := k__law_alike,
      c_MOST_SLOTS_OF_DISK := ⟨_, PySem.W.mg_of X G cM⟩, c_FEWEST_SLOTS := ⟨_, PySem.W.mg_of X G cF⟩, c_TORN := PySem.W.mg_of X G cT,
      torn := fun H => .inr ⟨_, _, _, lT, rfl, rfl, (by show 1 ≤ sizeLine; decide), .cons ⟨_, rfl⟩ .nil⟩,
      C_Refused := SR, C_InvalidNumber := SI, C_LiarsError := PySem.W.mg_of X G g_LiarsError, C_Disk := PySem.W.mg_of X G g_Disk, cl_Disk := ⟨pg, hd, po, sa⟩,
      EC := ⟨ga_InvalidNumber, gg_InvalidNumber, ex_InvalidNumber, hd_InvalidNumber, hca, hcn, hct, hcm⟩, kL := kL, kV := kV, M_Disk := ⟨mk, f_init, i_init, kc⟩,
      m_Disk_size := ⟨f_size, i_size, k_msize⟩, m_Disk_safe := ⟨f_safe, i_safe, k_msafe⟩, m_Disk_waits := ⟨f_waits, i_waits, k_mwaits⟩, m_Disk_put := ⟨f_put, i_put, k_mput⟩, m_Disk_read := ⟨f_read, i_read, k_mread⟩, m_Disk_flush := ⟨f_flush, i_flush, k_mflush⟩, m_Disk_is_lot_of_puts := ⟨f_is_lot_of_puts, i_is_lot_of_puts, k_mis_lot_of_puts⟩, m_Disk_cut := ⟨f_cut, i_cut, k_mcut⟩, nC := nC, nQ := nQ }
  have F_is_integer := fun_mk (st := s_is_integer) l_is_integer c_is_integer k_is_integer
  have b_is_integer := F_is_integer.binds (ps := ["value"]) fun _ _ _ _ _ _ us hl => match us, hl with | [_], _ => rfl
  have F_is_ascending := fun_mk (st := s_is_ascending) l_is_ascending c_is_ascending k_is_ascending
  have b_is_ascending := F_is_ascending.binds (ps := ["row"]) fun _ _ _ _ _ _ us hl => match us, hl with | [_], _ => rfl
  have F__law_take := fun_mk (st := s__law_take) l__law_take c__law_take k__law_take
  have b__law_take := F__law_take.binds (ps := ["box", "many"]) fun _ _ _ _ _ _ us hl => match us, hl with | [_, _], _ => rfl
  have F__law_pick := fun_mk (st := s__law_pick) l__law_pick c__law_pick k__law_pick
  have b__law_pick := F__law_pick.binds (ps := ["box", "some"]) fun _ _ _ _ _ _ us hl => match us, hl with | [_, _], _ => rfl
  have F__law_same := fun_mk (st := s__law_same) l__law_same c__law_same k__law_same
  have b__law_same := F__law_same.binds (ps := ["value", "due"]) fun _ _ _ _ _ _ us hl => match us, hl with | [_, _], _ => rfl
  have F__law_part := fun_mk (st := s__law_part) l__law_part c__law_part k__law_part
  have b__law_part := F__law_part.binds (ps := ["box", "lot", "many"]) fun _ _ _ _ _ _ us hl => match us, hl with | [_, _, _], _ => rfl
  have F__law_box := fun_mk (st := s__law_box) l__law_box c__law_box k__law_box
  have b__law_box := F__law_box.binds (ps := ["script", "k"]) fun _ _ _ _ _ _ us hl => match us, hl with | [_, _], _ => rfl
  have F__law_made := fun_mk (st := s__law_made) l__law_made c__law_made k__law_made
  have b__law_made := F__law_made.binds (ps := ["many"]) fun _ _ _ _ _ _ us hl => match us, hl with | [_], _ => rfl
  have F__law_seen_at := fun_mk (st := s__law_seen_at) l__law_seen_at c__law_seen_at k__law_seen_at
  have b__law_seen_at := F__law_seen_at.binds (ps := ["own", "at"]) fun _ _ _ _ _ _ us hl => match us, hl with | [_, _], _ => rfl
  have F__law_fall := fun_mk (st := s__law_fall) l__law_fall c__law_fall k__law_fall
  have b__law_fall := F__law_fall.binds (ps := ["own", "kept", "torn"]) fun _ _ _ _ _ _ us hl => match us, hl with | [_, _, _], _ => rfl
  have F__law_alike := fun_mk (st := s__law_alike) l__law_alike c__law_alike k__law_alike
  have b__law_alike := F__law_alike.binds (ps := ["box", "disk", "own"]) fun _ _ _ _ _ _ us hl => match us, hl with | [_, _, _], _ => rfl
  have F_law := fun_mk (st := s_law) l_law c_law k_law
  have b_law := F_law.binds (ps := ["script"]) fun _ _ _ _ _ _ us hl => match us, hl with | [_], _ => rfl
  have F__law_heard := fun_mk (st := s__law_heard) l__law_heard c__law_heard k__law_heard
  have b__law_heard := F__law_heard.binds (ps := ["work"]) fun _ _ _ _ _ _ us hl => match us, hl with | [_], _ => rfl
  have F__law_wrong := fun_mk (st := s__law_wrong) l__law_wrong c__law_wrong k__law_wrong
  have b__law_wrong := F__law_wrong.binds (ps := ["box", "disk", "own"]) fun _ _ _ _ _ _ us hl => match us, hl with | [_, _, _], _ => rfl
  have F_init := fun_mk (st := s_Disk___init__) l_minit c_minit k_minit
  have bm_init := F_init.binds (ps := ["self", "many"]) fun _ _ _ _ _ _ us hl => match us, hl with | [_, _], _ => rfl
  have F_size := fun_mk (st := s_Disk_size) l_msize c_msize k_msize
  have bm_size := F_size.binds (ps := ["self"]) fun _ _ _ _ _ _ us hl => match us, hl with | [_], _ => rfl
  have F_safe := fun_mk (st := s_Disk_safe) l_msafe c_msafe k_msafe
  have bm_safe := F_safe.binds (ps := ["self"]) fun _ _ _ _ _ _ us hl => match us, hl with | [_], _ => rfl
  have F_waits := fun_mk (st := s_Disk_waits) l_mwaits c_mwaits k_mwaits
  have bm_waits := F_waits.binds (ps := ["self"]) fun _ _ _ _ _ _ us hl => match us, hl with | [_], _ => rfl
  have F_put := fun_mk (st := s_Disk_put) l_mput c_mput k_mput
  have bm_put := F_put.binds (ps := ["self", "at", "row"]) fun _ _ _ _ _ _ us hl => match us, hl with | [_, _, _], _ => rfl
  have F_read := fun_mk (st := s_Disk_read) l_mread c_mread k_mread
  have bm_read := F_read.binds (ps := ["self", "at"]) fun _ _ _ _ _ _ us hl => match us, hl with | [_, _], _ => rfl
  have F_flush := fun_mk (st := s_Disk_flush) l_mflush c_mflush k_mflush
  have bm_flush := F_flush.binds (ps := ["self"]) fun _ _ _ _ _ _ us hl => match us, hl with | [_], _ => rfl
  have F_is_lot_of_puts := fun_mk (st := s_Disk_is_lot_of_puts) l_mis_lot_of_puts c_mis_lot_of_puts k_mis_lot_of_puts
  have bm_is_lot_of_puts := F_is_lot_of_puts.binds (ps := ["self", "value"]) fun _ _ _ _ _ _ us hl => match us, hl with | [_, _], _ => rfl
  have F_cut := fun_mk (st := s_Disk_cut) l_mcut c_mcut k_mcut
  have bm_cut := F_cut.binds (ps := ["self", "kept", "torn"]) fun _ _ _ _ _ _ us hl => match us, hl with | [_, _, _], _ => rfl
  have F_is_number : FunD K "is_number" "is_number" (defArgs s_is_number) (defBody s_is_number) (defScope s_is_number) [.non] [] a_is_number _ :=
    ⟨⟨_, _, _, _, _, _, _, _, _, _, rfl, l_is_number, c_is_number, .inr ⟨by simp, Td, _, [Value.none], _, rfl, lTd, rfl, .cons rfl .nil⟩, .inl rfl⟩, k_is_number⟩
  obtain ⟨dsn, rdsn, b_is_number⟩ := F_is_number.binds1 (ps := ["value", "most"]) 2 1 (by simp) rfl (fun T kV doc pm an cdv ct us its h1 h2 => match us, its, h1, h2 with | [_, _], [_], _, _ => ⟨_, rfl, rfl⟩)
  cases rdsn
  refine ⟨PySem.W.fnOf "law" "law" (defArgs s_law) (defBody s_law) (defScope s_law) .none kV_law dc_law pm_law an_law cd_law ct_law, [(cW, Pt)], spLaw K [(Pt, (("_law_wrong" : Str) ++ ".<locals>.") ++ "<lambda>")], ?_, ?_, ?_, fun s u => .of_eq rfl, fun H x ns _ _ hT hS => ⟨x, ns, rfl, hS, ?_, fun _ => rfl⟩, fun base KX GX TX => ?_⟩
  · intro p hp
    rw [List.mem_singleton.mp hp]
    exact hts Pt (by simp)
  · intro p hp
    rw [List.mem_singleton.mp hp]
    exact lP
  · intro p hp
    rw [List.mem_singleton.mp hp]
    exact PySem.W.codeHd_of_K X hh
  · intro p hp
    rw [List.mem_singleton.mp hp]
    exact LamX.TabS.nil (hT _ (List.mem_singleton.mpr rfl))
  · have TB : LamX.TabB base mg cW Pt := TX _ (List.mem_singleton.mpr rfl)
    have G_is_number := ok_is_number (P := PySem.Challenge.pw_liarsapart_k69_whole_disks_cut_anywhere) (w := w) (base := base) F_is_number T F_is_integer b_is_integer
    have G_is_ascending := ok_is_ascending (w := w) (base := base) F_is_ascending T
    have G_init := ok_init (w := w) (base := base) F_init T G_is_number b_is_number
    have G_size := ok_size (w := w) (base := base) F_size T
    have G_safe := ok_safe (w := w) (base := base) F_safe T
    have G_waits := ok_waits (w := w) (base := base) F_waits T
    have G_put := ok_put (w := w) (base := base) F_put T G_is_number b_is_number
    have G_read := ok_read (w := w) (base := base) F_read T G_is_number b_is_number
    have G_flush := ok_flush (w := w) (base := base) F_flush T
    have G_lot := ok_lot (w := w) (base := base) F_is_lot_of_puts T G_is_number b_is_number G_is_ascending b_is_ascending
    have G_cut := ok_cut (w := w) (base := base) F_cut T G_lot bm_is_lot_of_puts
    have G_take := ok_take (w := w) (base := base) F__law_take T
    have G_pick := ok_pick (w := w) (base := base) F__law_pick T G_take b__law_take
    have G_same := ok_same (w := w) (base := base) F__law_same T b__law_same 4
    have G_part := ok_part (w := w) (base := base) F__law_part T G_take b__law_take
    have G_box := ok_box (w := w) (base := base) F__law_box T
    have G_made := ok_made (w := w) (base := base) F__law_made T G_init bm_init
    have G_seen := ok_seen (w := w) (base := base) F__law_seen_at T
    have G_fall := ok_fall (w := w) (base := base) F__law_fall T
    have G_alike := ok_alike (w := w) (base := base) F__law_alike T G_same b__law_same G_size bm_size G_waits bm_waits G_safe bm_safe G_read bm_read G_seen b__law_seen_at G_part b__law_part
    have G_wrong := ok_wrong (a := ad) (w := w) (base := base) l__law_wrong c__law_wrong l__law_heard c__law_heard b__law_heard T TB G_same b__law_same G_pick b__law_pick G_take b__law_take G_put bm_put G_read bm_read G_cut bm_cut
    exact ok_law F_law T G_take b__law_take G_pick b__law_pick G_same b__law_same G_box b__law_box G_made b__law_made G_fall b__law_fall G_wrong b__law_wrong G_alike b__law_alike G_put bm_put G_flush bm_flush G_cut bm_cut
end K69

open PySem PySem.W PyProof.Rows
set_option maxRecDepth 100000 in
set_option maxHeartbeats 0 in
theorem PySem.Challenge.cw_liarsapart_k69_whole_disks_cut_anywhere_holds : PySem.Challenge.rw_liarsapart_k69_whole_disks_cut_anywhere.Holds := by
  w_on; o_law; k_head; (case hw => w_witness2)
  k_fill
  refine LamX.walk_ofTs (l := PySem.Challenge.rw_liarsapart_k69_whole_disks_cut_anywhere) (n := 63) (k := 12) (x := "script") (CX := fun _ => L2.CX0) rfl (by decide) rfl ⟨rfl, by decide, by decide⟩ (fun w h Y => PySem.W.km_in_of Y) ?F (fun _ _ _ _ _ z => z)
  case F =>
    intro w mg fa h Y KX G hmg
    refine' K69.all_mk KX G hmg ?g_is_integer ?l_is_integer ?c_is_integer ?k_is_integer ?g_is_number ?l_is_number ?c_is_number ?k_is_number ?lTd ?g_is_ascending ?l_is_ascending ?c_is_ascending ?k_is_ascending ?g__law_take ?l__law_take ?c__law_take ?k__law_take ?g__law_pick ?l__law_pick ?c__law_pick ?k__law_pick ?g__law_same ?l__law_same ?c__law_same ?k__law_same ?g__law_heard ?l__law_heard ?c__law_heard ?k__law_heard ?g__law_part ?l__law_part ?c__law_part ?k__law_part ?g__law_box ?l__law_box ?c__law_box ?k__law_box ?g__law_made ?l__law_made ?c__law_made ?k__law_made ?g__law_seen_at ?l__law_seen_at ?c__law_seen_at ?k__law_seen_at ?g__law_fall ?l__law_fall ?c__law_fall ?k__law_fall ?g__law_wrong ?l__law_wrong ?c__law_wrong ?k__law_wrong ?g__law_alike ?l__law_alike ?c__law_alike ?k__law_alike ?g_law ?l_law ?c_law ?k_law ?g_Disk ?f_init ?i_init ?l_minit ?c_minit ?k_minit ?f_size ?i_size ?l_msize ?c_msize ?k_msize ?f_safe ?i_safe ?l_msafe ?c_msafe ?k_msafe ?f_waits ?i_waits ?l_mwaits ?c_mwaits ?k_mwaits ?f_put ?i_put ?l_mput ?c_mput ?k_mput ?f_read ?i_read ?l_mread ?c_mread ?k_mread ?f_flush ?i_flush ?l_mflush ?c_mflush ?k_mflush ?f_is_lot_of_puts ?i_is_lot_of_puts ?l_mis_lot_of_puts ?c_mis_lot_of_puts ?k_mis_lot_of_puts ?f_cut ?i_cut ?l_mcut ?c_mcut ?k_mcut ?pg ?hd ?po ?sa ?mk ?kc ?nC ?nQ ?g_LiarsError ?g_Refused ?x_Refused ?sa_Refused ?ga_Refused ?gg_Refused ?na_Refused ?fi_Refused ?ti_Refused ?kp_Refused ?ex_Refused ?ve_Refused ?ty_Refused ?hd_Refused ?lI_Refused ?cI_Refused ?lc_Refused ?lx_Refused ?al_Refused ?te_Refused ?vf_Refused ?fl_Refused ?po_Refused ?g_InvalidNumber ?x_InvalidNumber ?sa_InvalidNumber ?ga_InvalidNumber ?gg_InvalidNumber ?na_InvalidNumber ?fi_InvalidNumber ?ti_InvalidNumber ?kp_InvalidNumber ?ex_InvalidNumber ?ve_InvalidNumber ?ty_InvalidNumber ?hd_InvalidNumber ?lI_InvalidNumber ?cI_InvalidNumber ?lc_InvalidNumber ?lx_InvalidNumber ?al_InvalidNumber ?te_InvalidNumber ?vf_InvalidNumber ?fl_InvalidNumber ?po_InvalidNumber ?tp ?hca ?hcn ?hct ?hcm ?kL ?kV ?z_isinstance ?z_int ?z_bool ?z_str ?z_tuple ?z_list ?z_all ?z_any ?z_abs ?z_min ?z_sorted ?z_enumerate ?z_range ?z_len ?z_ValueError ?z_super ?cM ?cF ?cT ?lT ?hts ?lP ?hh
    (case g_is_integer => k_is)
    (case l_is_integer => k_is)
    (case c_is_integer => k_is)
    (case k_is_integer => k_is)
    (case g_is_number => k_is)
    (case l_is_number => k_is)
    (case c_is_number => k_is)
    (case k_is_number => k_is)
    (case lTd => k_is)
    (case g_is_ascending => k_is)
    (case l_is_ascending => k_is)
    (case c_is_ascending => k_is)
    (case k_is_ascending => k_is)
    (case g__law_take => k_is)
    (case l__law_take => k_is)
    (case c__law_take => k_is)
    (case k__law_take => k_is)
    (case g__law_pick => k_is)
    (case l__law_pick => k_is)
    (case c__law_pick => k_is)
    (case k__law_pick => k_is)
    (case g__law_same => k_is)
    (case l__law_same => k_is)
    (case c__law_same => k_is)
    (case k__law_same => k_is)
    (case g__law_heard => k_is)
    (case l__law_heard => k_is)
    (case c__law_heard => k_is)
    (case k__law_heard => k_is)
    (case g__law_part => k_is)
    (case l__law_part => k_is)
    (case c__law_part => k_is)
    (case k__law_part => k_is)
    (case g__law_box => k_is)
    (case l__law_box => k_is)
    (case c__law_box => k_is)
    (case k__law_box => k_is)
    (case g__law_made => k_is)
    (case l__law_made => k_is)
    (case c__law_made => k_is)
    (case k__law_made => k_is)
    (case g__law_seen_at => k_is)
    (case l__law_seen_at => k_is)
    (case c__law_seen_at => k_is)
    (case k__law_seen_at => k_is)
    (case g__law_fall => k_is)
    (case l__law_fall => k_is)
    (case c__law_fall => k_is)
    (case k__law_fall => k_is)
    (case g__law_wrong => k_is)
    (case l__law_wrong => k_is)
    (case c__law_wrong => k_is)
    (case k__law_wrong => k_is)
    (case g__law_alike => k_is)
    (case l__law_alike => k_is)
    (case c__law_alike => k_is)
    (case k__law_alike => k_is)
    (case g_law => k_is)
    (case l_law => k_is)
    (case c_law => k_is)
    (case k_law => k_is)
    (case g_Disk => k_is)
    (case f_init => k_is)
    (case i_init => k_is)
    (case l_minit => k_is)
    (case c_minit => k_is)
    (case k_minit => k_is)
    (case f_size => k_is)
    (case i_size => k_is)
    (case l_msize => k_is)
    (case c_msize => k_is)
    (case k_msize => k_is)
    (case f_safe => k_is)
    (case i_safe => k_is)
    (case l_msafe => k_is)
    (case c_msafe => k_is)
    (case k_msafe => k_is)
    (case f_waits => k_is)
    (case i_waits => k_is)
    (case l_mwaits => k_is)
    (case c_mwaits => k_is)
    (case k_mwaits => k_is)
    (case f_put => k_is)
    (case i_put => k_is)
    (case l_mput => k_is)
    (case c_mput => k_is)
    (case k_mput => k_is)
    (case f_read => k_is)
    (case i_read => k_is)
    (case l_mread => k_is)
    (case c_mread => k_is)
    (case k_mread => k_is)
    (case f_flush => k_is)
    (case i_flush => k_is)
    (case l_mflush => k_is)
    (case c_mflush => k_is)
    (case k_mflush => k_is)
    (case f_is_lot_of_puts => k_is)
    (case i_is_lot_of_puts => k_is)
    (case l_mis_lot_of_puts => k_is)
    (case c_mis_lot_of_puts => k_is)
    (case k_mis_lot_of_puts => k_is)
    (case f_cut => k_is)
    (case i_cut => k_is)
    (case l_mcut => k_is)
    (case c_mcut => k_is)
    (case k_mcut => k_is)
    (case pg => k_is)
    (case hd => k_is)
    (case po => k_is)
    (case sa => k_is)
    (case mk => k_is)
    (case kc => k_is)
    (case nC => k_is)
    (case nQ => k_is)
    (case g_LiarsError => k_is)
    (case g_Refused => k_is)
    (case x_Refused => k_is)
    (case sa_Refused => k_is)
    (case ga_Refused => k_is)
    (case gg_Refused => k_is)
    (case na_Refused => k_is)
    (case fi_Refused => k_is)
    (case ti_Refused => k_is)
    (case kp_Refused => k_is)
    (case ex_Refused => k_is)
    (case ve_Refused => k_is)
    (case ty_Refused => k_is)
    (case hd_Refused => k_is)
    (case lI_Refused => k_is)
    (case cI_Refused => k_is)
    (case lc_Refused => k_is)
    (case lx_Refused => k_is)
    (case al_Refused => first | k_is | kernel_rfl)
    (case te_Refused => first | k_is | kernel_rfl)
    (case vf_Refused => first | rfl | kernel_rfl)
    (case fl_Refused => decide +kernel)
    (case po_Refused => decide +kernel)
    (case g_InvalidNumber => k_is)
    (case x_InvalidNumber => k_is)
    (case sa_InvalidNumber => k_is)
    (case ga_InvalidNumber => k_is)
    (case gg_InvalidNumber => k_is)
    (case na_InvalidNumber => k_is)
    (case fi_InvalidNumber => k_is)
    (case ti_InvalidNumber => k_is)
    (case kp_InvalidNumber => k_is)
    (case ex_InvalidNumber => k_is)
    (case ve_InvalidNumber => k_is)
    (case ty_InvalidNumber => k_is)
    (case hd_InvalidNumber => k_is)
    (case lI_InvalidNumber => k_is)
    (case cI_InvalidNumber => k_is)
    (case lc_InvalidNumber => k_is)
    (case lx_InvalidNumber => k_is)
    (case al_InvalidNumber => first | k_is | kernel_rfl)
    (case te_InvalidNumber => first | k_is | kernel_rfl)
    (case vf_InvalidNumber => first | rfl | kernel_rfl)
    (case fl_InvalidNumber => decide +kernel)
    (case po_InvalidNumber => decide +kernel)
    (case tp => k_is)
    (case hca => k_is)
    (case hcn => k_is)
    (case hct => k_is)
    (case hcm => k_is)
    (case kL => first | k_is | kernel_rfl)
    (case kV => first | k_is | kernel_rfl)
    (case z_isinstance => k_is)
    (case z_int => k_is)
    (case z_bool => k_is)
    (case z_str => k_is)
    (case z_tuple => k_is)
    (case z_list => k_is)
    (case z_all => k_is)
    (case z_any => k_is)
    (case z_abs => k_is)
    (case z_min => k_is)
    (case z_sorted => k_is)
    (case z_enumerate => k_is)
    (case z_range => k_is)
    (case z_len => k_is)
    (case z_ValueError => k_is)
    (case z_super => k_is)
    (case cM => k_is)
    (case cF => k_is)
    (case cT => k_is)
    (case lT => k_is)
    (case hts => exact PySem.W.km_tabs_of Y)
    (case lP => first | k_is | kernel_rfl)
    (case hh => first | k_is | kernel_rfl)
#print axioms PySem.Challenge.cw_liarsapart_k69_whole_disks_cut_anywhere_holds

