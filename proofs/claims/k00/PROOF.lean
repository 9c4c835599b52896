import PyProof.Rows.All
import Wide.All
import OpenK.AllK
import Wide.FinOn
import KE.KExcSuper
import KE.KExcIs
import HandS.ForMost
import HandS.Exc
import HandS.ExcInit
import HandS.ExcSuper
import HandS.HeadWalk
import PyProof.ReprRoads
import HandS.Iter
import HandS.Dict
import HandS.ExcValue
import HandS.Flow
import HandS.HeadHook4
import HandS.Head2
import HandS.Defaults
import HandS.Comp
import HandS.Walk
import PySem.Challenge.RW_howevercut_k00_errors_of_all_parts
set_option Elab.async false
set_option linter.all false
set_option maxRecDepth 100000
set_option maxHeartbeats 4000000
namespace PySem
namespace OxX
open PySem.W PySem.Calls PyProof.Rows PySem.HandSPX
/-! An own error whose __init__ says super().__init__(text) and keeps one value: made. -/
def iA (q : Str) (p1 p2 : Pos) : Arguments := { posonlyargs := [], args := [{ arg := "self", annotation := none, pos := p1 }, { arg := q, annotation := none, pos := p2 }], vararg := none, kwonlyargs := [], kw_defaults := [], kwarg := none, defaults := [] }
/-- where the parts of the body stand -/
structure Ps where
  a0 : Pos
  a1 : Pos
  a2 : Pos
  a3 : Pos
  a4 : Pos
  a5 : Pos
  b0 : Pos
  b1 : Pos
  b2 : Pos
  b3 : Pos
def iB (q z : Str) (p : Ps) : List Stmt := [.Expr (.Call (.Attribute (.Call (.Name "super" p.a0) [] [] p.a1) "__init__" p.a2) [.Constant (.str z) 0 p.a3] [] p.a4) p.a5, .Assign [.Attribute (.Name "self" p.b0) q p.b1] (.Name q p.b2) p.b3]
def iS (q : Str) : Scope := { kind := .function, names := [(PySem.Str.ofString "self", .local), (q, .local), (PySem.Str.ofString "__class__", .free), (PySem.Str.ofString "super", .globalImplicit)], isGenerator := false, isCoroutine := false, more := [] }
abbrev fd0 (q z qn : Str) (p1 p2 : Pos) (ps : Ps) (cc cda : Addr) (doc pm ct : Value) (an : Option Addr) : FuncData := fnX "__init__" qn (iA q p1 p2) (iB q z ps) (iS q) [("__class__", cc)] .none .none doc pm an (.ref cda) ct
/-- what the written part says of the class at C, and of its __init__, at fI -/
structure Txt (P : Program) (K : Frag) (q : Str) (C fI : Addr) : Prop where
  cls : ∃ nm qn N bs bm sn sub ab col dd k0 k1 k2 k3 k5, K.lookup C = some (excClassObj nm qn C N bs bm true sn sub ab col dd k0 k1 k2 k3 k5 "ValueError.__new__") ∧ refsVE bm = true
  sa : findIn K (.ref C) "__setattr__" = some (some (.builtin "object.__setattr__"))
  noN : findIn K (.ref C) q = some none
  iC : findIn K (.ref C) "__init__" = some (some (.ref fI))
  tC : typeIn K (.ref fI) = some (.type "function")
  kC : keepIn K (.ref C) = true
  exC : subIn K (.ref C) (.type "BaseException") = some true
  veC : subIn K (.ref C) (.type "ValueError") = some true
  tyC : typeIn K (.ref C) = some (.type "type")
  me : mroIn K C (.ref C) = some true
  su : ks_superIn K C C "__init__" = some (some (.builtin "ValueError.__init__"))
  no3 : nsIn K cStatics "thirdparty.any" = some none
  noS : nsIn K mainGlobals "super" = some none
  htop : (P.main.scope.names.lookup ("super" : Str)).isSome = false
  qs : (q == ("self" : Str)) = false
  qc : (q == ("__class__" : Str)) = false
  qu : (q == ("super" : Str)) = false
  qd : (q == ("__debug__" : Str)) = false
  fn : ∃ (oc : Value) (od : Option Addr) (doc pm : Value) (an : Option Addr) (cda cc : Addr) (ct : Value) (osl : Array (Option Value)) (p1 p2 : Pos) (ps : Ps) (qn z : Str) (ccl cl : Value) (cdd cld : Option Addr) (ccs csl : Array (Option Value)) (vs : Array Value) (file : Str) (tf : Tok),
    K.lookup fI = some ⟨oc, od, .func (fd0 q z qn p1 p2 ps cc cda doc pm ct an), osl⟩ ∧ codeIn K (.ref cda) qn = true ∧
      (ps.a2.endLine == ps.a4.line) = true ∧ K.lookup cda = some ⟨ccl, cdd, .fields vs, ccs⟩ ∧ vs[2]? = some (.str file tf) ∧ ((P.main.file : Str) == file) = true ∧ K.lookup cc = some ⟨cl, cld, .cell (some (.ref C)), csl⟩
/-- what __init__ leaves of a fresh exception at x -/
structure InitEnd (h h' : Heap) (x C dx t1 : Addr) (q : Str) (v : Value) : Prop where
  keep : ∀ b o, b ≠ x → h.get? b = some o → h'.get? b = some o
  obj : h'.get? x = some { cls := .ref C, dict := some dx, data := .fields #[.ref t1, .none, .none, .none, .bool false, .none] }
  dbig : h.objs.size ≤ dx
  dne : dx ≠ x
  ns : h'.Ns1 dx (fun y => if y = q then some v else none)
/-- a made one -/
structure Made (h h' : Heap) (e C d t1 : Addr) (q : Str) (v : Value) : Prop where
  keep : ∀ b o, h.get? b = some o → h'.get? b = some o
  new : h.objs.size ≤ e
  obj : h'.get? e = some { cls := .ref C, dict := some d, data := .fields #[.ref t1, .none, .none, .none, .bool false, .none] }
  dbig : h.objs.size ≤ d
  dne : d ≠ e
  ns : h'.Ns1 d (fun y => if y = q then some v else none)
theorem one_size (v : Value) : [v].length ≤ sizeLine := by
  rw [sizeLine_eq]
  exact (by decide : 1 ≤ 16777216)
theorem ldX {M : Model} {s : Shared} {env : Env} {m : Str → Option Value} {x : Str} {pos : Pos} {v : Value} {Q : Value → Shared → Prop} {A : Around} {E : Value → Shared → Prop} (hn : s.heap.Ns env.locals m) (hv : m x = some v) (h : Q v s)
    (hk : env.scope.kind = .function) (hl : env.kindOf x = some .local) (hd : (x == ("__debug__" : Str)) = false) :
    wpAny M A (eval (.Name x pos) env) Q E s := wpAny_Name (wpAny_loadName_local hk hl hn hv h) hd
section
variable {prog : Program} {w : World} {A : Around} {E : Value → Shared → Prop} {h : Heap} {g : Array GenState} {d : Drawn} {t : Nat} {os : OsState}
variable {nm q : Str} {C N : Addr} {bs bm : List Value} {hdct : Bool} {sn : List Str} {sub : List Value} {ab : Bool} {col : Option Bool} {dd : Option Addr} {k0 k1 k2 k3 k5 : Option Value}
theorem call_bw {u e t0 : Addr} {rest : List Value} {Q : Value → Shared → Prop}
    (hC : h.get? C = some (excClassObj nm q C N bs bm hdct sn sub ab col dd k0 k1 k2 k3 k5 "ValueError.__new__")) (he : h.get? e = some (excO C t0)) (hu : h.get? u = some (kxs_mw "ValueError.__init__" e)) (hrest : rest.length ≤ sizeLine)
    (hq : ∀ h' t1, (∀ b o, b ≠ e → h.get? b = some o → h'.get? b = some o) → h'.get? e = some (excO C t1) → Q .none ⟨h', g, d, t, os⟩) :
    wpAny (model prog w) A (call (.ref u) rest) Q E ⟨h, g, d, t, os⟩ := by
  refine wpAny_call (codeAny_of_tree ?_)
  show wpAny _ A.in1 (callAny (.ref u) ⟨rest, []⟩) _ _ _
  simp only [callAny]
  refine wpAny_bind (wpAny_load hu ?_)
  simp only [kxs_mw, show (Value.type "method-wrapper" == Value.type "method" || Value.type "method-wrapper" == Value.type "builtin_function_or_method" || Value.type "method-wrapper" == Value.type "method-wrapper") = true by decide, if_true]
  refine W.KFB.if_so (by decide) ?_
  refine wpAny_bind (ESX.check_bound F.excBase_ValueError hC he rfl ?_)
  refine wpAny_bind (wpAny_pure (wpAny_pure ?_))
  refine ⟨Code.quiet_builtin _ (by decide +kernel), codeAny_builtin F.excBase_ValueError.initEntry ?_⟩
  rw [Around.under_plainId F.excBase_ValueError.init.plain _]
  wp_walk
  refine hq _ h.objs.size (fun b o hb ho => ?_) ?_
  · rw [Heap.get?_update_other _ _ (Ne.symm hb)]
    exact Heap.get?_push_of_some _ ho
  · rw [Heap.get?_update_self _ (Heap.get?_push_of_some _ he) rfl]
    rfl
end
section
variable {prog : Program} {w : World} {A : Around} {E : Value → Shared → Prop} {R : Result → Shared → Prop} {s : Shared} {K : Frag} {mg mb : Str → Option Value} {C fI : Addr} {q : Str}
theorem own_init (T : Txt prog K q C fI) {x t0 : Addr} {v : Value} {as : Args} (X : K.In s.heap) (hlim : s.heap.NoLimit) (hG : s.heap.Ns mainGlobals mg) (hB : s.heap.Ns builtinsNs mb) (hBb : mb "super" = some (.type "super")) (hx : s.heap.get? x = some (excO C t0)) (hnx : K.lookup x = none) (hroom : A.depth < recursionLimit)
    (hbind : ∀ fd : FuncData, (∃ qn p1 p2 z ps cc doc pm an cda ct, fd = fd0 q z qn p1 p2 ps cc cda doc pm ct an) → BindsTo s fd as [("self", .ref x), (q, v)])
    (hq : ∀ h' tk dx t1, InitEnd s.heap h' x C dx t1 q v → R (.ok (.ret .none)) { s with heap := h', toks := tk }) :
    codeAny (model prog w) A (.call (.ref fI) as) R s := by
  obtain ⟨oc, od, doc, pm, an, cda, cc, ct, osl, p1, p2, ps, qn, z, ccl, cl, cdd, cld, ccs, csl, vs, file, tf, ho, hcd, hlin, hcda, hvs, hfile, hcc⟩ := T.fn
  obtain ⟨nm, qc, N, bs, bm, sn, sub, ab, col, dd, k0, k1, k2, k3, k5, hC, hbm⟩ := T.cls
  have hcl : clsIn K C = some { name := nm, bases := bs, mro := .ref C :: bm, ns := N, qualname := qc, hasDict := true, slotNames := sn, subclasses := sub, abstract := ab, collection := col, hasDel := false } := by unfold clsIn; rw [hC] <;> rfl
  have hloc : ∀ y ∈ [(("self" : Str), Value.ref x), (q, v)], (iS q).names.lookup y.1 = some .local := by
    intro y hy
    rcases List.mem_cons.mp hy with e | hy
    · subst e; rfl
    · obtain e := List.mem_singleton.mp hy
      subst e
      show List.lookup q ((PySem.Str.ofString "self", NameKind.local) :: (q, .local) :: _) = _
      rw [List.lookup_cons, show (q == PySem.Str.ofString "self") = false from T.qs]
      show List.lookup q ((q, NameKind.local) :: _) = _
      rw [List.lookup_cons, beq_self_eq_true]
  refine ks_codeAny_call_defAt (fd := fd0 q z qn p1 p2 ps cc cda doc pm ct an) (binds := [("self", .ref x), (q, v)]) hroom (X _ _ ho) rfl hlim (codeRec_of X hcd) rfl (hbind _ ⟨_, _, _, _, _, _, _, _, _, _, _, rfl⟩) ?_ hloc (fun h₁ hn k => ?_)
  · intro y hy e
    rcases List.mem_cons.mp hy with z | hy
    · subst z; cases e
    rcases List.mem_cons.mp hy with z | hy
    · subst z; cases e
    rcases List.mem_cons.mp hy with z | hy
    · subst z; cases e
    rcases List.mem_cons.mp hy with z | hy
    · subst z; cases e
    · cases hy
  have X₁ : K.In h₁ := X.keeps k
  have hx₁ := k _ _ hx
  have hG₁ : h₁.Ns mainGlobals mg := hG.keeps k
  have hB₁ : h₁.Ns builtinsNs mb := hB.keeps k
  have I1 : InstAt h₁ x (excO C t0) C none := ⟨hx₁, rfl, rfl, trivial⟩
  have mself : List.lookup ("self" : Str) ([(("self" : Str), Value.ref x), (q, v)].reverse) = some (.ref x) := by
    show List.lookup ("self" : Str) [(q, v), (("self" : Str), Value.ref x)] = _
    rw [List.lookup_cons, show (("self" : Str) == q) = false by
      have := T.qs
      rw [beq_eq_false_iff_ne] at this ⊢
      exact Ne.symm this]
    rfl
  have mq : List.lookup q ([(("self" : Str), Value.ref x), (q, v)].reverse) = some v := by
    show List.lookup q [(q, v), (("self" : Str), Value.ref x)] = _
    rw [List.lookup_cons, beq_self_eq_true]
  have kq : (callEnv (fd0 q z qn p1 p2 ps cc cda doc pm ct an) s.heap.objs.size fI).kindOf q = some .local := hloc (q, v) (List.mem_cons_of_mem _ (List.mem_singleton.mpr rfl))
  have flip : ∀ {a b : Str}, (a == b) = false → (b == a) = false := fun {a b} e => by
    rw [beq_eq_false_iff_ne] at e ⊢
    exact Ne.symm e
  have ks : (callEnv (fd0 q z qn p1 p2 ps cc cda doc pm ct an) s.heap.objs.size fI).kindOf "super" = some .globalImplicit := by
    show List.lookup ("super" : Str) ((("self" : Str), NameKind.local) :: (q, .local) :: (("__class__" : Str), .free) :: (("super" : Str), .globalImplicit) :: []) = _
    rw [List.lookup_cons, show (("super" : Str) == ("self" : Str)) = false by decide +kernel]
    show List.lookup ("super" : Str) ((q, NameKind.local) :: (("__class__" : Str), .free) :: (("super" : Str), .globalImplicit) :: []) = _
    rw [List.lookup_cons, flip T.qu]
    rfl
  have kc : (callEnv (fd0 q z qn p1 p2 ps cc cda doc pm ct an) s.heap.objs.size fI).kindOf "__class__" = some .free := by
    show List.lookup ("__class__" : Str) ((("self" : Str), NameKind.local) :: (q, .local) :: (("__class__" : Str), .free) :: (("super" : Str), .globalImplicit) :: []) = _
    rw [List.lookup_cons, show (("__class__" : Str) == ("self" : Str)) = false by decide +kernel]
    show List.lookup ("__class__" : Str) ((q, NameKind.local) :: (("__class__" : Str), .free) :: (("super" : Str), .globalImplicit) :: []) = _
    rw [List.lookup_cons, flip T.qc]
    rfl
  have xL : x ≠ s.heap.objs.size := Nat.ne_of_lt (Heap.lt_size hx)
  have kD : h₁.get? C = some (excClassObj nm qc C N bs bm true sn sub ab col dd k0 k1 k2 k3 k5 "ValueError.__new__") := X₁ _ _ hC
  -- super().__init__(text)
  refine ks_wpAt_execs_cons (ks_wpAt_Expr_any (ks_wpAt_MethodCall (pl := L2.plainOf (.Call (.Name "super" ps.a0) [] [] ps.a1) (callEnv (fd0 q z qn p1 p2 ps cc cda doc pm ct an) s.heap.objs.size fI)) ?_ ?hee) rfl rfl)
  case hee =>
    have hmc : ∀ ov, methodCall (.Call (.Name "super" ps.a0) [] [] ps.a1) "__init__" ps.a2 ps.a4 (callEnv (fd0 q z qn p1 p2 ps cc cda doc pm ct an) s.heap.objs.size fI) ov (([Expr.Constant (Const.str z) 0 ps.a3] : List Expr).length + ([] : List Keyword).length)
        (backTo ps.a4 (starEach [Expr.Constant (Const.str z) 0 ps.a3] (callEnv (fd0 q z qn p1 p2 ps cc cda doc pm ct an) s.heap.objs.size fI))) (backToKw ps.a4 (keywordEach [] (callEnv (fd0 q z qn p1 p2 ps cc cda doc pm ct an) s.heap.objs.size fI))) = _ :=
      fun ov => L2.mcall_line rfl hlin
    show (attributeBase _ _ _ _ >>= fun ov => standAt ps.a2.atName >>= fun _ => methodCall _ _ _ _ _ ov _ _ _) = _
    simp only [hmc]
    rfl
  refine ks_wpAt_super_base (attr := ("__init__" : Str)) ks kc (by decide +kernel) rfl (X₁ _ _ ho) rfl rfl rfl (X₁ _ _ hcda) rfl hvs hfile T.htop ?_
  refine ks_loadName_global rfl ks (loadGlobal_builtin (by exact hG₁) (mg_none_of X hG T.noS) (by exact hB₁) hBb ⟨rfl, ?_⟩)
  refine wpAny_loadName_free rfl kc rfl ⟨_, X₁ _ _ hcc, rfl⟩ ?_
  refine wpAny_loadName_local rfl rfl hn mself ?_
  refine ks_wpAny_isType_cls kD rfl ⟨rfl, ?_⟩
  refine ks_wpAny_call_super kD rfl hx₁ rfl (fun c e => by cases e) (looks_mroIn X₁ T.me) (fun h₂ e₂ k₂ => ?_)
  have X₂ : K.In h₂ := X₁.keeps k₂
  have hx₂ := k₂ _ _ hx₁
  have I2 : InstAt h₂ x (excO C t0) C none := ⟨hx₂, rfl, rfl, trivial⟩
  have hI2 : Looks (model prog w) h₂ (isInstance (.ref x) (.type "ValueError")) true := I2.type.andThen (looks_subIn X₂ T.veC)
  have al : alongIn K "__init__" (((Value.ref C :: bm).dropWhile (· != .ref C)).drop 1) = some (some (.builtin "ValueError.__init__")) := by
    have e := T.su
    unfold ks_superIn at e
    rw [hcl] at e
    exact e
  refine kxs_getMethod kxs_ValueError e₂ (looks_opaque X₂ T.no3) (l₀ := Value.ref C :: bm) ?_ rfl X₂ al hI2 (ks_ne X₂ I2 hcl) (by decide +kernel) ?_
  · exact fun A Q E s k q => wpAny_bind ((looks_clsIn X₂ hcl) A _ E s k (wpAny_pure q))
  have k₃ : ∀ b o, h₂.get? b = some o → (h₂.push (kxs_mw "ValueError.__init__" x)).get? b = some o := fun b o e => Heap.get?_push_of_some _ e
  have hu₃ : (h₂.push (kxs_mw "ValueError.__init__" x)).get? h₂.objs.size = some (kxs_mw "ValueError.__init__" x) := Heap.get?_push_at rfl rfl
  show wpAny _ _ (callWith _ (.ref h₂.objs.size) [] (backTo _ (starEach [.Constant (.str z) 0 ps.a3] _)) []) _ _ _
  refine kxs_callWith (i := "ValueError.__init__") (x := x) rfl (evalArgs_plain ?_)
  show wpAny _ _ (spliced ((false, eval (.Constant (.str z) 0 ps.a3) _) :: backTo _ (starEach [] _))) _ _ _
  refine Calls.spliced_cons (Calls.Constant_str (Calls.spliced_nil ⟨hu₃, ?_⟩))
  show wpAny _ _ (call (.ref h₂.objs.size) [Value.str z _]) _ _ _
  refine call_bw (k₃ _ _ (k₂ _ _ kD)) (k₃ _ _ hx₂) hu₃ (one_size _) (fun h₄ t1 k₄ hx₄ => ?_)
  have kx : ∀ b o, b ≠ x → h₁.get? b = some o → h₄.get? b = some o := fun b o hb e => k₄ b o hb (k₃ _ _ (k₂ _ _ e))
  have X₄ : K.In h₄ := fun a o e => kx a o (fun z => by rw [z, hnx] at e; cases e) (X₁ a o e)
  have hn₄ : h₄.Ns s.heap.objs.size (fun y => List.lookup y ([(("self" : Str), Value.ref x), (q, v)].reverse)) := by
    obtain ⟨o, es, ep, e1, r⟩ := hn
    exact ⟨o, es, ep, kx _ _ (Ne.symm xL) e1, r⟩
  -- self.q = q
  refine ks_wpAt_execs_cons (wpAt_of_wpAny (plainObj_wpAny_Assign_Attribute ?_ rfl))
  refine ldX hn₄ mq (ldX hn₄ mself ?_ rfl rfl (by decide)) rfl kq T.qd
  refine set_plain X₄ (ox := excO C t1) (od := none) ⟨hx₄, rfl, rfl, trivial⟩ T.sa ?_
  refine exc_osa X₄ hx₄ hcl (show refsVE (.ref C :: bm) = true from hbm) rfl T.noN (fun h₅ tk₅ dx k₅ dn dne hx₅ hn₅ => ?_)
  exact wpAt_of_wpAny (wpAny_execs_nil (hq h₅ tk₅ dx t1 ⟨fun b o hb e => k₅ b o hb (kx b o hb (k b o e)), hx₅, Nat.le_trans (Nat.le_of_lt hn₄.lt) dn, dne, hn₅⟩))
end
end OxX
end PySem

set_option Elab.async false
set_option linter.all false
set_option maxRecDepth 100000
set_option maxHeartbeats 4000000
namespace PySem
namespace OxX
open PySem.W PySem.Calls PyProof.Rows PySem.HandSPX
/-! The same with one keyword. -/
section
variable {M : Model} {A : Around} {E : Value → Shared → Prop} {h : Heap} {g : Array GenState} {d : Drawn} {t : Nat} {os : OsState}
variable {nm q : Str} {C N : Addr} {bs bm bmB : List Value} {hdct : Bool} {sn : List Str} {sub : List Value} {ab : Bool} {col : Option Bool} {dd : Option Addr} {k0 k1 k2 k3 k5 : Option Value} {B newId initId : String}
theorem check_newK (F : ExcBaseFacts B newId initId bmB) (hT : ∀ X : String, bm.contains (.type X) = bmB.contains (.type X)) {rest : List Value} {kw : List (Str × Value)} {Q : Unit → Shared → Prop}
    (hC : h.get? C = some (excClassObj nm q C N bs bm hdct sn sub ab col dd k0 k1 k2 k3 k5 newId)) (hq : Q () ⟨h, g, d, t, os⟩) : wpAny M A (checkBuiltinCall newId ⟨.ref C :: rest, kw⟩) Q E ⟨h, g, d, t, os⟩ := by
  have hcont : (Value.ref C :: bm).contains (.type B) = true := by rw [List.contains_cons, hT, F.hasB, Bool.or_true]
  have hstar := F.noStar
  simp only [checkBuiltinCall, F.newKind, F.newSplit, F.newRow]
  repeat (first | refine wpAny_loadPart_at hC ?_ | (refine wpAny_isSubtype_exc hC ?_; rw [hcont]) | refine wpAny_staticBase_exc hC ?_ | refine wpAny_madeBy_exc hC ?_ | simp only [bne_self_eq_false, Bool.false_eq_true, if_false] | wp_step)
  exact hq
end
section
variable {prog : Program} {w : World} {A : Around} {E : Value → Shared → Prop} {R : Result → Shared → Prop} {h : Heap} {g : Array GenState} {d : Drawn} {t : Nat} {os : OsState}
variable {nm q : Str} {C N : Addr} {bs bm bmB : List Value} {hdct : Bool} {sn : List Str} {sub : List Value} {ab : Bool} {col : Option Bool} {dd : Option Addr} {k0 k1 k2 k3 k5 : Option Value} {B newId initId : String}
theorem new_ownK (F : ExcBaseFacts B newId initId bmB) (hT : ∀ X : String, bm.contains (.type X) = bmB.contains (.type X)) {rest : List Value} {kw : List (Str × Value)}
    (hC : h.get? C = some (excClassObj nm q C N bs bm hdct sn sub ab col dd k0 k1 k2 k3 k5 newId))
    (hq : R (.ok (.ret (.ref (h.objs.size + 1)))) ⟨(h.push { cls := .type "tuple", data := .seq rest.toArray }).push
      { cls := .ref C, data := .fields #[.ref h.objs.size, .none, .none, .none, .bool false, .none] }, g, d, t, os⟩) (hrest : rest.length ≤ sizeLine) :
    codeAny (model prog w) A (.builtin newId ⟨.ref C :: rest, kw⟩) R ⟨h, g, d, t, os⟩ := by
  have hends := F.ends
  have hcB : (Value.ref C :: bm).contains (.type B) = true := by rw [List.contains_cons, hT, F.hasB, Bool.or_true]
  have hcA : (Value.ref C :: bm).contains (.type "AttributeError") = false := by rw [List.contains_cons, hT, F.noAttr]; rfl
  have hcN : (Value.ref C :: bm).contains (.type "NameError") = false := by rw [List.contains_cons, hT, F.noName]; rfl
  refine codeAny_builtinAt F.entry ?_
  unfold Builtin.«BaseException.__new__»
  refine wpAt_bind ?_
  show wpAt _ _ _ (stack >>= _) _ _ _
  refine wpAt_bind (wpAt_stack fun p below => wpAt_of_wpAny ?_)
  wp_walk
  refine wpAt_of_wpAny ?_
  rw [F.owner]
  repeat (first | with_reducible refine wpAny_madeHere_exc F.canon hC ?_ | with_reducible refine wpAny_loadPart_at hC ?_ | (with_reducible refine wpAny_isSubtype_exc hC ?_; first | rw [hcB] | rw [hcA] | rw [hcN]) | wp_step)
  show R _ _
  rw [Heap.size_push]
  exact hq
theorem type_callK (F : ExcBaseFacts B newId initId bmB) (hT : ∀ X : String, bm.contains (.type X) = bmB.contains (.type X)) {rest : List Value} {kw : List (Str × Value)} {fI : Addr} {Q : Fin → Shared → Prop}
    (hC : h.get? C = some (excClassObj nm q C N bs bm hdct sn sub ab col dd k0 k1 k2 k3 k5 newId))
    (hi : W.Looks (model prog w) h (typeLookup (.ref C) "__init__") (some (.ref fI))) (hb : ∀ self, W.Looks (model prog w) h (bindSpecial (.ref fI) self) (.ref fI, [self])) (hrest : rest.length ≤ sizeLine)
    (hq : codeAny (model prog w) A (.call (.ref fI) ⟨.ref (h.objs.size + 1) :: rest, kw⟩)
      (fun r s' => match r with | .ok (.ret v) => v = .none ∧ Q (.done (.ret (.ref (h.objs.size + 1)))) s' | .ok _ => False | .error e => E e s')
      ⟨(h.push (W.kdv_tup rest)).push (excO C h.objs.size), g, d, t, os⟩) :
    wpAny (model prog w) A (Builtin.«type.__call__» ⟨.ref C :: rest, kw⟩) Q E ⟨h, g, d, t, os⟩ := by
  repeat (first | with_reducible refine wpAny_loadPart_at hC ?_ | with_reducible refine wpAny_madeBy_exc hC ?_ | wp_step)
  refine codeAny_call_builtin_code (Code.quiet_builtin _ F.quiet) (check_newK F hT hC ?_)
  refine new_ownK F hT hC ?_ hrest
  show wpAny _ _ _ _ _ _
  have k : ∀ b o, h.get? b = some o → ((h.push (W.kdv_tup rest)).push (excO C h.objs.size)).get? b = some o := fun b o e => Heap.get?_push_of_some _ (Heap.get?_push_of_some _ e)
  have hC₁ := k _ _ hC
  have hget : ((h.push (W.kdv_tup rest)).push (excO C h.objs.size)).get? (h.objs.size + 1) = some (excO C h.objs.size) := by heap_get
  have hcC : (Value.ref C :: bm).contains (.ref C) = true := by simp
  have i1 := hi.keeps k
  have b1 := (hb (.ref (h.objs.size + 1))).keeps k
  unfold isInstance
  repeat (first | with_reducible refine wpAny_loadPart_at hget ?_ | (with_reducible refine wpAny_isSubtype_exc hC₁ ?_; rw [hcC]) | wp_step)
  show wpAny _ _ (typeLookup (.ref C) _) _ _ _
  refine i1.at ?_
  refine wpAny_holding (wpAny_bind (b1.at ?_))
  refine wpAny_bind (wpAny_call (codeAny_mono hq fun r s' z => ?_))
  rcases r with e | (v | _ | _ | _) <;> first | exact z | exact z.elim | skip
  obtain ⟨rfl, z⟩ := z
  first
    | exact wpAny_pure (wpAny_pure z)
    | (wp_walk; exact z)
theorem call_ownK (F : ExcBaseFacts B newId initId bmB) (hT : ∀ X : String, bm.contains (.type X) = bmB.contains (.type X)) {rest : List Value} {kw : List (Str × Value)} {fI : Addr}
    (hC : h.get? C = some (excClassObj nm q C N bs bm hdct sn sub ab col dd k0 k1 k2 k3 k5 newId))
    (hi : W.Looks (model prog w) h (typeLookup (.ref C) "__init__") (some (.ref fI))) (hb : ∀ self, W.Looks (model prog w) h (bindSpecial (.ref fI) self) (.ref fI, [self])) (hrest : rest.length ≤ sizeLine)
    (hq : codeAny (model prog w) (A.under (.builtin "type.__call__" ⟨.ref C :: rest, kw⟩)) (.call (.ref fI) ⟨.ref (h.objs.size + 1) :: rest, kw⟩) (W.InitBack (h.objs.size + 1) R)
      ⟨(h.push (W.kdv_tup rest)).push (excO C h.objs.size), g, d, t, os⟩) :
    codeAny (model prog w) A (.call (.ref C) ⟨rest, kw⟩) R ⟨h, g, d, t, os⟩ := by
  have f1 := tc_lookup
  have f2 := tc_bind (.ref C)
  have hTy : (⟨h, g, d, t, os⟩ : Shared).TypeIs (.ref C) "type" := ⟨_, hC, rfl⟩
  refine codeAny_of_tree ?_
  show wpAny _ _ (callAny (.ref C) _) _ _ _
  repeat (any_goals (first | assumption | with_reducible refine wpAny_loadPart_at hC ?_ | wp_step))
  refine ⟨rfl, ?_⟩
  refine codeAny_call_builtin_at (Code.quiet_builtin _ (by decide +kernel)) entry_typeCall (wpAny_check_type_call_sub hC (type_callK F hT hC hi hb hrest ?_))
  refine codeAny_mono hq fun r s' z => ?_
  rcases r with e | (v | _ | _ | _) <;> exact z
end
end OxX
end PySem

set_option Elab.async false
set_option linter.all false
set_option maxRecDepth 100000
set_option maxHeartbeats 4000000
namespace PySem
namespace OxX
open PySem.W PySem.Calls PyProof.Rows PySem.HandSPX
/-- how the one argument is handed: by its place, or by its name -/
inductive Hand (q : Str) (v : Value) : List Value → List (Str × Value) → Prop
  | pos : Hand q v [v] []
  | kw : Hand q v [] [(q, v)]
/-- the binding of both ways -/
structure Bnd (q : Str) : Prop where
  ok : ∀ (fd : FuncData) (s : Shared) (x : Addr) (v : Value) (rest : List Value) (kw : List (Str × Value)), (∃ qn p1 p2 z ps cc doc pm an cda ct, fd = fd0 q z qn p1 p2 ps cc cda doc pm ct an) → Hand q v rest kw → BindsTo s fd ⟨.ref x :: rest, kw⟩ [("self", .ref x), (q, v)]
section
variable {prog : Program} {w : World} {A : Around} {E : Value → Shared → Prop} {R : Result → Shared → Prop} {s : Shared} {K : Frag} {mg mb : Str → Option Value} {C fI : Addr} {q : Str}
theorem own_made (T : Txt prog K q C fI) (B : Bnd q) {v : Value} {rest : List Value} {kw : List (Str × Value)} (hh : Hand q v rest kw) (X : K.In s.heap) (hlim : s.heap.NoLimit) (hG : s.heap.Ns mainGlobals mg) (hB : s.heap.Ns builtinsNs mb) (hBb : mb "super" = some (.type "super")) (hroom : A.depth + 1 < recursionLimit)
    (hq : ∀ h' tk e d t1, Made s.heap h' e C d t1 q v → R (.ok (.ret (.ref e))) { s with heap := h', toks := tk }) :
    codeAny (model prog w) A (.call (.ref C) ⟨rest, kw⟩) R s := by
  obtain ⟨nm, qc, N, bs, bm, sn, sub, ab, col, dd, k0, k1, k2, k3, k5, hC, hbm⟩ := T.cls
  obtain ⟨hp, g, dr, tk, os⟩ := s
  have k : ∀ b o, hp.get? b = some o → ((hp.push (kdv_tup rest)).push (excO C hp.objs.size)).get? b = some o := fun b o e => Heap.get?_push_of_some _ (Heap.get?_push_of_some _ e)
  have hget : ((hp.push (kdv_tup rest)).push (excO C hp.objs.size)).get? (hp.objs.size + 1) = some (excO C hp.objs.size) := by heap_get
  have hnx : K.lookup (hp.objs.size + 1) = none := by
    cases e : K.lookup (hp.objs.size + 1) with
    | none => rfl
    | some o =>
      have z : hp.get? (hp.objs.size + 1) = some o := X _ _ e
      exact absurd (Nat.lt_of_succ_lt (Heap.lt_size z)) (Nat.lt_irrefl _)
  have hz : rest.length ≤ sizeLine := by
    cases hh with
    | pos => exact one_size v
    | kw => exact Nat.zero_le _
  refine call_ownK F.excBase_ValueError (fun X => refsVE_contains X bm hbm) (X _ _ hC) (looks_findIn X T.iC) (fun self => bind_fn X self T.tC) hz ?_
  refine own_init (s := ⟨(hp.push (kdv_tup rest)).push (excO C hp.objs.size), g, dr, tk, os⟩) T (X.keeps k) (hlim.keeps k) (hG.keeps k) (hB.keeps k) hBb hget hnx ?_ (fun fd hf => B.ok fd _ _ v rest kw hf hh) fun h' tk' dx t1 ⟨k', hx, dn, dne, hns⟩ => ?_
  · show A.depth + 1 < recursionLimit
    exact hroom
  · have old : ∀ b o, hp.get? b = some o → h'.get? b = some o := fun b o e => k' b o (Nat.ne_of_lt (Nat.lt_succ_of_lt (Heap.lt_size e))) (k b o e)
    have z : hp.objs.size + 1 + 1 ≤ dx := by
      first
        | (simpa only [Heap.size_push] using dn)
        | exact dn
        | (have q := dn; rw [Heap.size_push, Heap.size_push] at q; exact q)
    exact ⟨rfl, hq h' tk' (hp.objs.size + 1) dx t1 ⟨old, Nat.le_succ _, hx, Nat.le_trans (Nat.le_trans (Nat.le_succ _) (Nat.le_succ _)) z, dne, hns⟩⟩
end
end OxX
end PySem
namespace L2
open PySem PySem.Spec PyProof.Rows
/-- what the written part says of any own error's class, for reading and judging -/
structure ErC (K : PySem.W.Frag) (C : Addr) : Prop where
  cl : (PySem.W.clsIn K C).isSome = true
  dc : PySem.W.hasDictIn K C = true
  ga : PySem.W.findIn K (.ref C) "__getattribute__" = some (some (.builtin "BaseException.__getattribute__"))
  gt : PySem.W.findIn K (.ref C) "__getattr__" = some none
  sub : PySem.W.subIn K (.ref C) (.type "BaseException") = some true
  ca : PySem.W.findIn K (.ref C) "__class__" = some (some (.builtin "object.__class__"))
  sp : PySem.W.specialIn K (.builtin "object.__class__") "__get__" = some (some (.builtin "getset_descriptor.__get__"))
  tk : PySem.W.takesIn K (.builtin "object.__class__") = some true
  ob : PySem.W.mroIn K C (.type "object") = some true
section
variable {X : Cx} {pins : List (Addr × Obj)} {σ : St} {H : Hp} {s : Shared}
/-- two new objects, the one knows the other -/
theorem Inv.laid2 {h' : Heap} {a b : Addr} {o u : HO} {t' : Nat} (I : Inv X pins σ H s) (k : ∀ c z, s.heap.get? c = some z → h'.get? c = some z) (ha : s.heap.objs.size ≤ a) (hb : s.heap.objs.size ≤ b) (hab : b ≠ a)
    (na : ObjOk X.prog X.w (upd (upd H b u) a o) h' a o) (nb : ObjOk X.prog X.w (upd (upd H b u) a o) h' b u) : Inv X pins σ (upd (upd H b u) a o) { s with heap := h', toks := t' } := by
  have hna : H a = none := I.hok.fresh ha
  have hnb : H b = none := I.hok.fresh hb
  have lt : ∀ {c : Addr} {z : Obj}, s.heap.get? c = some z → c ≠ a ∧ c ≠ b := fun {c z} e => ⟨Nat.ne_of_lt (Nat.lt_of_lt_of_le (Heap.lt_size e) ha), Nat.ne_of_lt (Nat.lt_of_lt_of_le (Heap.lt_size e) hb)⟩
  have nn : ∀ {c : Addr} {z : HO}, H c = some z → upd (upd H b u) a o c = some z := fun {c z} e => by
    rw [upd_ne (ne_of_none e hna), upd_ne (ne_of_none e hnb)]
    exact e
  refine I.un (t' := t') (h' := h') { keep := fun c z q _ _ _ => k c z q, slot := fun c z q _ _ _ => ⟨z.slots, k c z q⟩, free := fun c z q n _ => ?_, there := fun c z q _ => ⟨z, k c z q⟩, tups := fun c xs q => nn q, frzs := fun c z v q => nn q, tbls := fun c ps q => ⟨#[], by rw [nn q]; simp⟩ } fun c z e => ?_
  · rw [upd_ne (lt q).1, upd_ne (lt q).2]
    exact n
  · by_cases hca : c = a
    · subst hca
      rw [upd_same] at e
      cases e
      exact na
    · rw [upd_ne hca] at e
      by_cases hcb : c = b
      · subst hcb
        rw [upd_same] at e
        cases e
        exact nb
      · rw [upd_ne hcb] at e
        exact (I.hok c z e).stay (fun v w _ q => k v w q) (fun v q => nn q) fun v xs q => nn q
end
/-- C(e), C(q=e) as a value -/
def tMkE (C : Addr) (q : Str) (ta : TE) : TE := fun σ H Q => ta σ H fun v H1 => ∀ a d, H1 a = none → H1 d = none → d ≠ a → Q (.ref a) (upd (upd H1 d (exd d [(q, v)])) a (exo a C (some d)))
/-- C(e), C an own error's class without own __init__ -/
def tMkB (C : Addr) (ta : TE) : TE := fun σ H Q => ta σ H fun v H1 => ∀ a, H1 a = none → Q (.ref a) (upd H1 a (exo a C none))
section
variable {X : Cx}
theorem made_ok {pins : List (Addr × Obj)} {σ : St} {H : Hp} {s : Shared} {C fI : Addr} {q : Str} {k : Nat} {v : V} {u : Value} {rest : List Value} {kw : List (Str × Value)} {Q : VK} (T : PySem.OxX.Txt X.prog X.K q C fI) (B : PySem.OxX.Bnd q) (hr : Room (k + 1) X.A) (I : Inv X pins σ H s) (r : RelV v u) (hh : PySem.OxX.Hand q u rest kw)
    (h : ∀ a d, H a = none → H d = none → d ≠ a → Q (.ref a) (upd (upd H d (exd d [(q, v)])) a (exo a C (some d)))) : wpAny (model X.prog X.w) X.A (call (.ref C) rest kw) (EP X pins σ Q) X.xe s := by
  obtain ⟨mb, h1, h2⟩ := I.mod.blt
  obtain ⟨hp, g, dr, tk, os⟩ := s
  refine wpAny_call (PySem.OxX.own_made T B hh I.kIn I.nolimit (I.mod.glob.keeps I.bk) (h1.keeps I.bk) ((h2 _ (by decide +kernel)).trans (by decide +kernel)) (by have := hr.dp; omega) fun h' tk' e d t1 M => ?_)
  show EP X pins σ Q (.ref e) ⟨h', g, dr, tk', os⟩
  have ne := M.dne
  refine ⟨.ref e, _, I.laid2 (t' := tk') (a := e) (b := d) (o := exo e C (some d)) (u := exd d [(q, v)]) M.keep M.new M.dbig ne (exo_ok M.obj) (exd_ok M.ns (relO_put (fs := []) r fun g => True.intro)), rfl, h e d (I.hok.fresh M.new) (I.hok.fresh M.dbig) ne⟩
theorem pe_mkE {C fI : Addr} {q x : Str} {k : Nat} {e : Expr} {ta : TE} {p pos : Pos} (T : PySem.OxX.Txt X.prog X.K q C fI) (B : PySem.OxX.Bnd q) (hr : Room (k + 1) X.A) (gC : X.mg x = some (.ref C)) (hg : Gl X x) (he : PE X e ta)
    (hs : starEach [e] X.env = (false, eval e X.env) :: starEach [] X.env := by rfl) (hdb : (x == ("__debug__" : Str)) = false := by decide) : PE X (.Call (.Name x p) [e] [] pos) (tMkE C q ta) := by
  refine ⟨fun pins s σ H Q I h => ?_⟩
  refine wpAny_Call_Name_kw (ld_glob I hg gC ?_ hdb)
  refine PySem.W.callWith_K (h₀ := X.base) I.ok.mod.kin T.kC ?_ hs (by rfl)
  rw [hs]
  show wpAny _ _ (spliced ((false, eval e X.env) :: backTo pos (starEach [] X.env))) _ _ s
  refine Calls.spliced_cons (thn (he.run pins s σ H _ I h) fun u s1 ⟨v, H1, I1, r1, q1⟩ => ?_)
  refine Calls.spliced_nil ⟨I1.kIn, ?_⟩
  show wpAny _ _ (call (.ref C) [u]) _ _ _
  exact made_ok T B hr I1 r1 .pos q1
end
end L2

set_option Elab.async false
set_option linter.all false
set_option maxRecDepth 100000
set_option maxHeartbeats 4000000
namespace L2
open PySem PySem.Spec PyProof.Rows
/-- C(q=e) as a value -/
def tMkEK (C : Addr) (q : Str) (t : TA) : TE := fun σ H Q => t σ H fun vs H1 => ∃ v, vs = [v] ∧ ∀ a d, H1 a = none → H1 d = none → d ≠ a → Q (.ref a) (upd (upd H1 d (exd d [(q, v)])) a (exo a C (some d)))
section
variable {X : Cx}
/-- C(q=e) -/
theorem pe_mkEK {C fI : Addr} {q x : Str} {k : Nat} {kws : List Keyword} {t : TA} {p pos : Pos} (T : PySem.OxX.Txt X.prog X.K q C fI) (B : PySem.OxX.Bnd q) (hr : Room (k + 1) X.A) (gC : X.mg x = some (.ref C)) (hg : Gl X x) (hk : PK X kws t)
    (hdb : (x == ("__debug__" : Str)) = false := by decide) (hall : (backToKw pos (keywordEach kws X.env)).all (·.1.isSome) = true := by rfl) (hks : (backToKw pos (keywordEach kws X.env)).filterMap (·.1) = [q] := by rfl)
    (hpl : ((backTo pos (starEach [] X.env)).any (·.1) || (backToKw pos (keywordEach kws X.env)).any (·.1.isNone)) = false := by rfl) : PE X (.Call (.Name x p) [] kws pos) (tMkEK C q t) := by
  refine ⟨fun pins s σ H Q I h => ?_⟩
  refine wpAny_Call_Name_kw (ld_glob I hg gC ?_ hdb)
  refine PySem.W.callWith_KW0 (h₀ := X.base) I.ok.mod.kin T.kC hall ?_ hpl
  refine thn (hk.run pos pins s σ H _ I h) fun ws s1 ⟨vs, H1, I1, r1, v, ev, q1⟩ => ⟨I1.kIn, ?_⟩
  subst ev
  rw [hks]
  obtain ⟨u, rfl, ru⟩ := vals1 r1
  show wpAny _ _ (call (.ref C) [] [(q, u)]) _ _ _
  exact made_ok T B hr I1 ru .kw q1
/-- C(e), a class without own __init__ -/
theorem pe_mkB {C : Addr} {bmB : List Value} {B newId initId : String} {x : Str} {e : Expr} {ta : TE} {p pos : Pos} (F : ExcBaseFacts B newId initId bmB) (q : PySem.W.excIn X.K C bmB newId = true) (gC : X.mg x = some (.ref C)) (kC : PySem.W.keepIn X.K (.ref C) = true) (hg : Gl X x)
    (he : PE X e ta) (hs : starEach [e] X.env = (false, eval e X.env) :: starEach [] X.env := by rfl) (hdb : (x == ("__debug__" : Str)) = false := by decide) :
    PE X (.Call (.Name x p) [e] [] pos) (tMkB C ta) := by
  refine ⟨fun pins s σ H Q I h => ?_⟩
  refine wpAny_Call_Name_kw (ld_glob I hg gC ?_ hdb)
  refine PySem.W.callWith_K (h₀ := X.base) I.ok.mod.kin kC ?_ hs (by rfl)
  rw [hs]
  show wpAny _ _ (spliced ((false, eval e X.env) :: backTo pos (starEach [] X.env))) _ _ s
  refine Calls.spliced_cons (thn (he.run pins s σ H _ I h) fun u s1 ⟨v, H1, I1, r1, q1⟩ => ?_)
  refine Calls.spliced_nil ⟨I1.kIn, ?_⟩
  show wpAny _ _ (call (.ref C) [u]) _ _ _
  obtain ⟨bm, N, nm, qn, bs, hdct, sn, sub, ab, col, dd, k0, k1, k2, k3, k5, mN, hC, hN, hni, T⟩ := exc_obj I1.kIn q
  obtain ⟨hp, g, dr, tk, os⟩ := s1
  refine wpAny_call_exc_subT F T hC hN hni (fun h' a hm => ?_) (by show 1 ≤ sizeLine; rw [sizeLine_eq]; omega)
  have hn : H1 a = none := I1.hok.gone hm.new
  obtain ⟨t, ht, _, _⟩ := hm.there
  exact ⟨.ref a, upd H1 a (exo a C none), I1.laidN (t' := tk) hm.keeps hm.new hn (exo_ok ht), rfl, q1 a hn⟩
/-- an own error at a, of the class C, its fields fs -/
def ErrAt (H : Hp) (a C : Addr) (fs : List (Str × V)) : Prop := (H a = some (exo a C none) ∧ fs = []) ∨ ∃ d, H a = some (exo a C (some d)) ∧ H d = some (exd d fs)
theorem ErrAt.same {H H' : Hp} {a C : Addr} {fs : List (Str × V)} (e : ErrAt H a C fs) (s : Same H H') : ErrAt H' a C fs := by
  rcases e with ⟨h, z⟩ | ⟨d, h1, h2⟩
  · exact .inl ⟨s _ _ h, z⟩
  · exact .inr ⟨d, s _ _ h1, s _ _ h2⟩
theorem ErrAt.inst {pins : List (Addr × Obj)} {σ : St} {H : Hp} {s : Shared} {a C : Addr} {fs : List (Str × V)} (I : Inv X pins σ H s) (e : ErrAt H a C fs) :
    ∃ ox od, PySem.W.InstAt s.heap a ox C od ∧ ∀ f v, fs.lookup f = some v → ∃ o u, od = some o ∧ PySem.W.lookIn f o = some (some u) ∧ RelV v u := by
  rcases e with ⟨h, z⟩ | ⟨d, h1, h2⟩
  · obtain ⟨t1, ho⟩ := exo_at I.hok h
    exact ⟨_, none, ⟨ho, rfl, rfl, trivial⟩, fun f v e => by rw [z] at e; cases e⟩
  · obtain ⟨t1, ho⟩ := exo_at I.hok h1
    obtain ⟨mA, hn, rel⟩ := exd_at I.hok h2
    obtain ⟨od, hod, hl⟩ := lookIn_ns hn
    refine ⟨_, some od, ⟨ho, rfl, rfl, hod⟩, fun f v e => ?_⟩
    have r := rel f
    rw [e] at r
    obtain ⟨u, eu, ru⟩ := r.some_of
    exact ⟨od, u, rfl, by rw [hl, eu], ru⟩
/-- e.f, e an own error -/
def tExf (K : PySem.W.Frag) (f : Str) (te : TE) : TE := fun σ H Q => te σ H fun x H1 => ∃ a C fs v, x = .ref a ∧ ErrAt H1 a C fs ∧ ErC K C ∧ PySem.W.findIn K (.ref C) f = some none ∧ fs.lookup f = some v ∧ Q v H1
theorem pe_exf {e : Expr} {f : Str} {te : TE} {pos : Pos} (he : PE X e te) (hb : attributeBase e f X.env (eval e X.env) = eval e X.env := by rfl) : PE X (.Attribute e f pos) (tExf X.K f te) := by
  refine ⟨fun pins s σ H Q I h => ?_⟩
  refine attr_of hb (thn (he.run pins s σ H _ I h) fun ov s1 ⟨x, H1, I1, r1, a, C, fs, v, ex, ha, T, hno, hl, q⟩ => ?_)
  subst ex
  obtain rfl : ov = Value.ref a := r1
  obtain ⟨ox, od, J, look⟩ := ha.inst I1
  obtain ⟨o, u, eo, lo, ru⟩ := look f v hl
  subst eo
  have hf : PySem.W.findObj X.K C (some o) f = some (.value u) := by
    obtain ⟨cd, hc, hd⟩ := PySem.W.any_some T.dc
    exact PySem.W.findObj_own T.dc hno rfl lo
  exact PySem.HandSPX.exc_get I1.kIn J T.ga T.gt T.sub hf (handed_of ru) ⟨v, H1, I1.tok _, ru, q⟩
/-- isinstance(e, c), e an own error, c a class -/
def rIsX (K : PySem.W.Frag) : List V → Hp → VK → Prop := fun xs H Q => ∃ (a C : Addr) (fs : List (Str × V)) (c : V) (cv : Value) (b : Bool), xs = [.ref a, c] ∧ ErrAt H a C fs ∧ ErC K C ∧ (∀ u, RelV c u → u = cv) ∧ PySem.W.kitOne K (.ref C) cv = some b ∧ Q (.bl b) H
theorem call_isX : CallR X (.builtin "isinstance") (rIsX X.K) := by
  intro pins s σ H xs us Q I r h
  obtain ⟨a, C, fs, c, cv, b, rfl, ha, T, hcv, e, q⟩ := h
  obtain ⟨u1, u2, rfl, r1, r2⟩ := vals2 r
  obtain rfl : u1 = Value.ref a := r1
  have ec := hcv _ r2
  subst ec
  obtain ⟨ox, od, J, _⟩ := ha.inst I
  exact PySem.W.kia_one (PySem.W.kitx_exc T.cl T.ga T.gt T.sub T.ca T.sp T.tk T.ob) I.kIn J e (fun z => nomatch z) fun tk => ⟨.bl b, H, I.kept (t' := tk) fun _ _ z => z, rfl, q⟩
end

/-! ### data of any depth, dicts with keys of ints and texts among them -/
def keyD : Key → PyData
  | .inl i => .int i
  | .inr x => .str x
mutual
inductive Dx (H : Hp) : V → PyData → Prop
  | non : Dx H .non .none
  | bl (b : Bool) : Dx H (.bl b) (.bool b)
  | int (i : Int) : Dx H (.int i) (.int i)
  | str (x : Str) : Dx H (.str x) (.str x)
  | lst {a : Addr} {xs : List V} {ds : List PyData} : H a = some (.lst xs) → DxAll H xs ds → Dx H (.ref a) (.list ds)
  | tup {a : Addr} {xs : List V} {ds : List PyData} : H a = some (.tup xs) → DxAll H xs ds → Dx H (.ref a) (.tuple ds)
  | dct {a : Addr} {kvs : List (Key × V)} {ds : List (PyData × PyData)} : H a = some (.dK kvs) → DxKv H kvs ds → Dx H (.ref a) (.dict ds)
inductive DxAll (H : Hp) : List V → List PyData → Prop
  | nil : DxAll H [] []
  | cons {v : V} {vs : List V} {d : PyData} {ds : List PyData} : Dx H v d → DxAll H vs ds → DxAll H (v :: vs) (d :: ds)
inductive DxKv (H : Hp) : List (Key × V) → List (PyData × PyData) → Prop
  | nil : DxKv H [] []
  | cons {k : Key} {v : V} {vs : List (Key × V)} {d : PyData} {ds : List (PyData × PyData)} : Dx H v d → DxKv H vs ds → DxKv H ((k, v) :: vs) ((keyD k, d) :: ds)
end
mutual
theorem Dx.same {H H' : Hp} (s : Same H H') : ∀ (d : PyData) (v : V), Dx H v d → Dx H' v d
  | .none, _, h => by cases h; exact .non
  | .bool b, _, h => by cases h; exact .bl b
  | .int i, _, h => by cases h; exact .int i
  | .str x, _, h => by cases h; exact .str x
  | .list ds, _, h => by
    cases h with
    | lst a b => exact .lst (s _ _ a) (DxAll.same s ds _ b)
  | .tuple ds, _, h => by
    cases h with
    | tup a b => exact .tup (s _ _ a) (DxAll.same s ds _ b)
  | .dict ds, _, h => by
    cases h with
    | dct a b => exact .dct (s _ _ a) (DxKv.same s ds _ b)
theorem DxAll.same {H H' : Hp} (s : Same H H') : ∀ (ds : List PyData) (vs : List V), DxAll H vs ds → DxAll H' vs ds
  | [], _, h => by cases h; exact .nil
  | d :: ds, _, h => by
    cases h with
    | cons a b => exact .cons (Dx.same s d _ a) (DxAll.same s ds _ b)
theorem DxKv.same {H H' : Hp} (s : Same H H') : ∀ (ds : List (PyData × PyData)) (vs : List (Key × V)), DxKv H vs ds → DxKv H' vs ds
  | [], _, h => by cases h; exact .nil
  | (k, d) :: ds, _, h => by
    cases h with
    | cons a b => exact .cons (Dx.same s d _ a) (DxKv.same s ds _ b)
end
theorem pairs_keys {P : Program} {w : World} {h : Heap} : ∀ {es : List DictEntry} {kvs : List (Key × Value)}, Pairs (mixKind P w) es kvs → ReadsAll h (es.map (·.key)) (kvs.map fun q => keyD q.1) [] ∧ es.map (·.val) = kvs.map (·.2)
  | _, _, .nil => ⟨.nil, rfl⟩
  | _, _, .cons (e := e) (kv := kv) h1 h2 r => by
    obtain ⟨i1, i2⟩ := pairs_keys (h := h) r
    refine ⟨?_, by rw [List.map_cons, List.map_cons, h2, i2]⟩
    have rk := relV_key h1
    have hk : Reads h e.key (keyD kv.1) [] := by
      cases ek : kv.1 with
      | inl i =>
        rw [ek] at rk
        obtain ⟨t, z⟩ := rk
        rw [z]
        exact .int i t
      | inr x =>
        rw [ek] at rk
        obtain ⟨t, z⟩ := rk
        rw [z]
        exact .str x t
    exact ReadsAll.cons (as := []) (bs := []) hk i1
section
variable {X : Cx} {pins : List (Addr × Obj)} {σ : St} {H : Hp} {s : Shared}
mutual
theorem Dx.reads (I : Inv X pins σ H s) : ∀ (d : PyData) (v : V) (u : Value), Dx H v d → RelV v u → ∃ as, Reads s.heap u d as ∧ ∀ b ∈ as, H b ≠ none
  | .none, _, _, h, r => by
    cases h
    cases r
    exact ⟨_, Reads.none, fun b z => nomatch z⟩
  | .bool b, _, _, h, r => by
    cases h
    cases r
    exact ⟨_, Reads.bool b, fun b z => nomatch z⟩
  | .int i, _, _, h, r => by
    cases h
    obtain ⟨t, rfl⟩ := r
    exact ⟨_, Reads.int i t, fun b z => nomatch z⟩
  | .str x, _, _, h, r => by
    cases h
    obtain ⟨t, rfl⟩ := r
    exact ⟨_, Reads.str x t, fun b z => nomatch z⟩
  | .list ds, _, _, h, r => by
    cases h with
    | lst hs ha =>
      cases r
      obtain ⟨_, its, n, rv, ho⟩ := I.hok _ _ hs
      obtain ⟨as, hr, hn⟩ := DxAll.reads I ds _ its ha rv
      refine ⟨_, Reads.list ho rfl rfl (by simpa using hr), fun b hb => ?_⟩
      rcases List.mem_cons.mp hb with e | hb
      · rw [e, hs]
        exact fun z => nomatch z
      · exact hn b hb
  | .tuple ds, _, _, h, r => by
    cases h with
    | tup hs ha =>
      cases r
      obtain ⟨_, its, rv, ⟨o, ho, hc, n, hd⟩⟩ := I.hok _ _ hs
      obtain ⟨as, hr, hn⟩ := DxAll.reads I ds _ its ha rv
      exact ⟨_, Reads.tuple ho hc hd (by simpa using hr), hn⟩
  | .dict ds, _, _, h, r => by
    cases h with
    | dct hs ha =>
      cases r
      obtain ⟨_, _, vs, rkv, o, es, ep, ho, hx, hd, _, hp, _⟩ := I.hok _ _ hs
      obtain ⟨as, ek, hr, hn⟩ := DxKv.reads I ds _ vs ha rkv
      obtain ⟨k1, k2⟩ := pairs_keys (h := s.heap) hp
      rw [ek] at k1
      refine ⟨_, Reads.dict (bs := as) ho hx.1 hd k1 (by rw [k2]; exact hr), fun b hb => ?_⟩
      rcases List.mem_append.mp hb with hb | hb
      · rcases List.mem_cons.mp hb with e | hb
        · rw [e, hs]
          exact fun z => nomatch z
        · cases hb
      · exact hn b hb
theorem DxAll.reads (I : Inv X pins σ H s) : ∀ (ds : List PyData) (vs : List V) (us : List Value), DxAll H vs ds → Vals vs us → ∃ as, ReadsAll s.heap us ds as ∧ ∀ b ∈ as, H b ≠ none
  | [], _, _, h, r => by
    cases h
    cases r
    exact ⟨_, ReadsAll.nil, fun b z => nomatch z⟩
  | d :: ds, _, _, h, r => by
    cases h with
    | cons h1 h2 =>
      cases r with
      | cons r1 r2 =>
        obtain ⟨as, q1, n1⟩ := Dx.reads I d _ _ h1 r1
        obtain ⟨bs, q2, n2⟩ := DxAll.reads I ds _ _ h2 r2
        exact ⟨_, ReadsAll.cons q1 q2, fun b hb => (List.mem_append.mp hb).elim (n1 b) (n2 b)⟩
theorem DxKv.reads (I : Inv X pins σ H s) : ∀ (ds : List (PyData × PyData)) (vs : List (Key × V)) (us : List (Key × Value)), DxKv H vs ds → KV vs us → ∃ as, (us.map fun q => keyD q.1) = ds.map (·.1) ∧ ReadsAll s.heap (us.map (·.2)) (ds.map (·.2)) as ∧ ∀ b ∈ as, H b ≠ none
  | [], _, _, h, r => by
    cases h
    cases r
    exact ⟨_, rfl, ReadsAll.nil, fun b z => nomatch z⟩
  | (k, d) :: ds, _, _, h, r => by
    cases h with
    | cons h1 h2 =>
      cases r with
      | @cons _ q _ us r1 r2 =>
        obtain ⟨as, q1, n1⟩ := Dx.reads I d _ _ h1 r1.2
        obtain ⟨bs, e, q2, n2⟩ := DxKv.reads I ds _ _ h2 r2
        refine ⟨_, ?_, ReadsAll.cons q1 q2, fun b hb => (List.mem_append.mp hb).elim (n1 b) (n2 b)⟩
        rw [List.map_cons, List.map_cons, e, ← r1.1]
end
end
/-- repr(x) of data -/
def rRepr : List V → Hp → VK → Prop := fun xs H Q => ∃ (a : Addr) (d : PyData), xs = [.ref a] ∧ Dx H (.ref a) d ∧ d.showable = true ∧ d.depth ≤ 50 ∧ d.shown.length ≤ sizeLine ∧ Q (.str d.shown) H
theorem call_reprX {X : Cx} (hg : X.A.guards = some []) (hu : X.A.units + 64 < cLine) (hsm : ∃ o, X.K.lookup sysModules = some o) : CallR X (.builtin "repr") rRepr := by
  intro pins s σ H xs us Q I r h
  obtain ⟨a, d, rfl, hd, hs, hdp, hz, q⟩ := h
  obtain ⟨u, rfl, ru⟩ := vals1 r
  obtain rfl : u = Value.ref a := ru
  obtain ⟨as, hr, hn⟩ := Dx.reads I d _ _ hd rfl
  obtain ⟨o, ho⟩ := hsm
  have hnone : H sysModules = none := (I.bs _ _ (I.mod.kin _ _ ho)).2
  exact repr_of_reads' (h₀ := s.heap) hr hs (fun _ hm => hn _ hm hnone) hg (by omega) (fun _ _ e => e) (fun h' u tk k => ⟨.str d.shown, H, I.kept (t' := tk) k, ⟨u, rfl⟩, q⟩) hz
end L2

set_option Elab.async false
set_option linter.all false
set_option maxRecDepth 100000
set_option maxHeartbeats 4000000
/-! The draws: what stands of a draw, and what is hidden of the heap while it is told. -/
namespace L2
open PySem PySem.Spec PyProof.Rows
/-- a draw: its dict, its list of large numbers, its list of cells -/
structure DrA where
  d : Addr
  al : Addr
  ac : Addr
def kLarge : Key := .inr "large"
def kRest : Key := .inr "rest"
def kCells : Key := .inr "cells"
def kTurn : Key := .inr "turn"
theorem kLR : ¬ kLarge = kRest := by decide +kernel
theorem kLC : ¬ kLarge = kCells := by decide +kernel
theorem kLT : ¬ kLarge = kTurn := by decide +kernel
theorem kRC : ¬ kRest = kCells := by decide +kernel
theorem kRT : ¬ kRest = kTurn := by decide +kernel
theorem kCT : ¬ kCells = kTurn := by decide +kernel
theorem kCR : ¬ kCells = kRest := by decide +kernel
theorem kTR : ¬ kTurn = kRest := by decide +kernel
def drawKvs (D : DrA) (rest turn : Int) : List (Key × V) := [(kLarge, .ref D.al), (kRest, .int rest), (kCells, .ref D.ac), (kTurn, .int turn)]
structure DrAt (D : DrA) (H : Hp) (large : List Int) (rest : Int) (cells : List Int) (turn : Int) : Prop where
  hd : H D.d = some (.dK (drawKvs D rest turn))
  hl : H D.al = some (.lst (large.map V.int))
  hc : H D.ac = some (.lst (cells.map V.int))
  ne : D.al ≠ D.ac
/-- a draw in good order -/
def DrOk (D : DrA) (H : Hp) : Prop := ∃ large rest cells turn, DrAt D H large rest cells turn ∧ (∀ x ∈ large, 0 ≤ x) ∧ 0 ≤ rest
/-- the heap without the draw's dict and its list of large numbers: what a draw doesn't change -/
def hid (D : DrA) (H : Hp) : Hp := fun b => if b = D.d ∨ b = D.al then none else H b
theorem hid_sub {D : DrA} {H : Hp} {b : Addr} {o : HO} (h : hid D H b = some o) : H b = some o ∧ b ≠ D.d ∧ b ≠ D.al := by
  unfold hid at h
  by_cases c : b = D.d ∨ b = D.al
  · rw [if_pos c] at h
    cases h
  · rw [if_neg c] at h
    exact ⟨h, fun e => c (.inl e), fun e => c (.inr e)⟩
theorem hid_of {D : DrA} {H : Hp} {b : Addr} {o : HO} (h : H b = some o) (h1 : b ≠ D.d) (h2 : b ≠ D.al) : hid D H b = some o := by
  unfold hid
  rw [if_neg (fun c => c.elim h1 h2)]
  exact h
theorem hid_same {D : DrA} {H H' : Hp} (s : Same H H') : Same (hid D H) (hid D H') := fun b o h => by
  obtain ⟨h0, h1, h2⟩ := hid_sub h
  exact hid_of (s b o h0) h1 h2
theorem hid_le {D : DrA} {H : Hp} : Same (hid D H) H := fun b o h => (hid_sub h).1
theorem DrAt.same {D : DrA} {H H' : Hp} {large : List Int} {rest : Int} {cells : List Int} {turn : Int} (a : DrAt D H large rest cells turn) (s : Same H H') : DrAt D H' large rest cells turn :=
  ⟨s _ _ a.hd, s _ _ a.hl, s _ _ a.hc, a.ne⟩
theorem DrOk.same {D : DrA} {H H' : Hp} (a : DrOk D H) (s : Same H H') : DrOk D H' := by
  obtain ⟨l, r, c, t, a, z⟩ := a
  exact ⟨l, r, c, t, a.same s, z⟩
theorem DrOk.ne {D : DrA} {H : Hp} (a : DrOk D H) {p : Addr} (h : H p = none) : p ≠ D.d ∧ p ≠ D.al := by
  obtain ⟨l, r, c, t, a, _⟩ := a
  exact ⟨(ne_of_none a.hd h).symm, (ne_of_none a.hl h).symm⟩
/-- a new object is seen beside a draw -/
theorem DrOk.upd {D : DrA} {H : Hp} (a : DrOk D H) {p : Addr} {o : HO} (h : H p = none) : DrOk D (upd H p o) := a.same fun b u e => by rw [upd_ne (ne_of_none e h)]; exact e
theorem Same.upd {H : Hp} {p : Addr} {o : HO} (h : H p = none) : Same H (upd H p o) := fun b u e => by rw [upd_ne (ne_of_none e h)]; exact e
theorem Same.upd2 {H H1 : Hp} {p : Addr} {o : HO} (s : Same H H1) (h : H1 p = none) : Same H (L2.upd H1 p o) := s.trans (Same.upd h)
theorem hid_upd {D : DrA} {H : Hp} {p : Addr} {o : HO} (h : H p = none) (a : DrOk D H) : Same (hid D H) (hid D (upd H p o)) := hid_same (Same.upd h)
theorem hid_new {D : DrA} {H : Hp} {p : Addr} {o : HO} (h : H p = none) (a : DrOk D H) : hid D (upd H p o) p = some o := hid_of upd_same (a.ne h).1 (a.ne h).2
/-- the promise of a draw below amount -/
def spTake : Sp := fun vs H Q _ => ∃ (D : DrA) (amt : Int), vs = [.ref D.d, .int amt] ∧ DrOk D H ∧ 0 < amt ∧ amt < 1073741824 ∧ ∀ r H', 0 ≤ r → r < amt → DrOk D H' → Same (hid D H) (hid D H') → Q (.int r) H'
def spMixed : Sp := fun vs H Q _ => ∃ (D : DrA) (large : List Int) (rest : Int) (cells : List Int) (turn : Int), vs = [.ref D.d] ∧ DrAt D H large rest cells turn ∧ ∀ r turn' H', 0 ≤ r → DrAt D H' large rest cells turn' → Same (hid D H) (hid D H') → Q (.int r) H'
def spBegun (K : PySem.W.Frag) : Sp := fun vs H Q _ => ∃ (a : Addr) (ns : List Int), vs = [.ref a] ∧ SqL K H a (ns.map V.int) ∧ ns.length ≤ 63 ∧ ∀ D H', DrOk D H' → Same H (hid D H') → H D.d = none → H D.al = none → Q (.ref D.d) H'
theorem valV_large {D : DrA} {r t : Int} : valV (drawKvs D r t) kLarge = some (.ref D.al) := by
  unfold drawKvs
  rw [valV_pos rfl]
theorem valV_rest {D : DrA} {r t : Int} : valV (drawKvs D r t) kRest = some (.int r) := by
  unfold drawKvs
  rw [valV_neg kLR, valV_pos rfl]
theorem valV_cells {D : DrA} {r t : Int} : valV (drawKvs D r t) kCells = some (.ref D.ac) := by
  unfold drawKvs
  rw [valV_neg kLC, valV_neg kRC, valV_pos rfl]
theorem valV_turn {D : DrA} {r t : Int} : valV (drawKvs D r t) kTurn = some (.int t) := by
  unfold drawKvs
  rw [valV_neg kLT, valV_neg kRT, valV_neg kCT, valV_pos rfl]
theorem put_rest {D : DrA} {r t : Int} (z : Int) : putK (drawKvs D r t) kRest (.int z) = drawKvs D z t := by
  have e : ((drawKvs D r t).any fun kv => decide (kv.1 = kRest)) = true := by
    rw [valV_any, valV_rest] <;> rfl
  unfold putK
  rw [if_pos e]
  unfold drawKvs
  simp only [List.map_cons, List.map_nil, if_neg kLR, if_neg kCR, if_neg kTR, if_true]
theorem put_turn {D : DrA} {r t : Int} (z : Int) : putK (drawKvs D r t) kTurn (.int z) = drawKvs D r z := by
  have e : ((drawKvs D r t).any fun kv => decide (kv.1 = kTurn)) = true := by
    rw [valV_any, valV_turn] <;> rfl
  unfold putK
  rw [if_pos e]
  unfold drawKvs
  simp only [List.map_cons, List.map_nil, if_neg kLT, if_neg kRT, if_neg kCT, if_true]
theorem draw_merge {D : DrA} {r t : Int} : mergeK [] (drawKvs D r t) = drawKvs D r t := by
  have e1 : putK ([] : List (Key × V)) kLarge (.ref D.al) = [(kLarge, .ref D.al)] := putK_new (kvs := []) _ rfl
  have e2 : putK [(kLarge, V.ref D.al)] kRest (.int r) = [(kLarge, .ref D.al), (kRest, .int r)] := putK_new _ (by rw [valV_neg kLR]; rfl)
  have e3 : putK [(kLarge, V.ref D.al), (kRest, .int r)] kCells (.ref D.ac) = [(kLarge, .ref D.al), (kRest, .int r), (kCells, .ref D.ac)] := putK_new _ (by rw [valV_neg kLC, valV_neg kRC]; rfl)
  have e4 : putK [(kLarge, V.ref D.al), (kRest, .int r), (kCells, .ref D.ac)] kTurn (.int t) = drawKvs D r t := putK_new _ (by rw [valV_neg kLT, valV_neg kRT, valV_neg kCT]; rfl)
  show putK (putK (putK (putK [] kLarge (.ref D.al)) kRest (.int r)) kCells (.ref D.ac)) kTurn (.int t) = _
  rw [e1, e2, e3, e4]
theorem drawKvs_len {D : DrA} {r t : Int} : (drawKvs D r t).length < sizeLine := by
  show 4 < sizeLine
  rw [sizeLine_eq]
  omega
/-- the draw's dict written -/
theorem DrAt.put {D : DrA} {H : Hp} {large : List Int} {rest : Int} {cells : List Int} {turn : Int} (a : DrAt D H large rest cells turn) (rest' turn' : Int) : DrAt D (upd H D.d (.dK (drawKvs D rest' turn'))) large rest' cells turn' :=
  ⟨upd_same, by rw [upd_ne (ne_of a.hl a.hd (fun z => nomatch z))]; exact a.hl, by rw [upd_ne (ne_of a.hc a.hd (fun z => nomatch z))]; exact a.hc, a.ne⟩
theorem hid_put {D : DrA} {H : Hp} {o : HO} : Same (hid D H) (hid D (upd H D.d o)) := fun b u h => by
  obtain ⟨h0, h1, h2⟩ := hid_sub h
  exact hid_of (by rw [upd_ne h1]; exact h0) h1 h2
theorem hid_putl {D : DrA} {H : Hp} {o : HO} : Same (hid D H) (hid D (upd H D.al o)) := fun b u h => by
  obtain ⟨h0, h1, h2⟩ := hid_sub h
  exact hid_of (by rw [upd_ne h2]; exact h0) h1 h2
theorem DrAt.pop {D : DrA} {H : Hp} {large large' : List Int} {rest : Int} {cells : List Int} {turn : Int} (a : DrAt D H large rest cells turn) : DrAt D (upd H D.al (.lst (large'.map V.int))) large' rest cells turn :=
  ⟨by rw [upd_ne (ne_of a.hd a.hl (fun z => nomatch z))]; exact a.hd, upd_same, by rw [upd_ne a.ne.symm]; exact a.hc, a.ne⟩
theorem dp_ints {K : PySem.W.Frag} {H : Hp} : ∀ {ns : List Int}, DpAll K H (ns.map V.int) (ns.map PyData.int)
  | [] => .nil
  | n :: ns => .cons (.int n) dp_ints
theorem lay_ints : ∀ ns : List Int, PyData.canLayAll0 (ns.map PyData.int) = true
  | [] => by simp [PyData.canLayAll0]
  | n :: ns => by simp [PyData.canLayAll0, PyData.canLay0, lay_ints ns]
theorem depth_ints : ∀ ns : List Int, PyData.depthAll (ns.map PyData.int) ≤ 1
  | [] => by simp [PyData.depthAll]
  | n :: ns => by
    have := depth_ints ns
    simp only [List.map_cons, PyData.depthAll, PyData.depth]
    omega
theorem shaped_ints (ns : List Int) : SeqAt.shaped (.list (ns.map PyData.int)) = true := by
  have := depth_ints ns
  have hd : PyData.depth (.list (ns.map PyData.int)) ≤ 64 := by
    simp only [PyData.depth]
    omega
  exact Bool.and_eq_true_iff.mpr ⟨by simp only [PyData.canLay0]; exact lay_ints ns, decide_eq_true hd⟩
/-- a list of ints against the empty list -/
theorem eqv_empty (ns : List Int) : PyData.eqv (.list (ns.map .int)) (.list []) = ns.isEmpty := by
  cases ns <;> rfl
end L2
namespace L2
open PySem PySem.Spec PyProof.Rows
/-- the promise of a pick of a list -/
def spPick : Sp := fun vs H Q _ => ∃ (D : DrA) (a : Addr) (xs : List V), vs = [.ref D.d, .ref a] ∧ DrOk D H ∧ hid D H a = some (.lst xs) ∧ 0 < xs.length ∧ xs.length < 1000000 ∧
  ∀ (i : Nat) v H', xs[i]? = some v → DrOk D H' → Same (hid D H) (hid D H') → Q v H'
end L2

set_option Elab.async false
set_option linter.all false
set_option maxRecDepth 100000
set_option maxHeartbeats 4000000
/-! What the top has left, read by a hook of our own: defs, facts, own errors' classes. -/
namespace Hy
open PySem PySem.Spec PyProof.Rows L2 PySem.HandSPX
/-- an own error's class: its bases end in ValueError's -/
def mroB (C : Addr) (l : List Value) : Bool := match l with
  | .ref c :: bm => decide (c = C) && refsVE bm
  | _ => false
def slB (l : List (Option Value)) : Bool := match l with
  | [_, _, _, _, some (.builtin nw), _] => decide (nw = "ValueError.__new__")
  | _ => false
def clsB (K : PySem.W.Frag) (C : Addr) : Bool := match K.lookup C with
  | some ⟨.type t, _, .cls cd, sl⟩ => decide (t = "type") && (cd.hasDict && (!cd.hasDel && (slB sl.toList && mroB C cd.mro)))
  | _ => false
theorem ba {a b : Bool} (h : (a && b) = true) : a = true ∧ b = true := Bool.and_eq_true_iff.mp h
theorem mroB_ok {C : Addr} : ∀ {l : List Value}, mroB C l = true → ∃ bm, l = .ref C :: bm ∧ refsVE bm = true
  | .ref c :: bm, h => by
    obtain ⟨h1, h2⟩ := ba (show (decide (c = C) && refsVE bm) = true from h)
    have e := of_decide_eq_true h1
    subst e
    exact ⟨bm, rfl, h2⟩
  | [], h => by cases h
  | .none :: _, h => by cases h
  | .ellipsis :: _, h => by cases h
  | .notImplemented :: _, h => by cases h
  | .bool _ :: _, h => by cases h
  | .int _ _ :: _, h => by cases h
  | .float _ _ :: _, h => by cases h
  | .str _ _ :: _, h => by cases h
  | .bytes _ _ :: _, h => by cases h
  | .type _ :: _, h => by cases h
  | .builtin _ :: _, h => by cases h
theorem slB_ok {l : List (Option Value)} (h : slB l = true) : ∃ k0 k1 k2 k3 k5, l = [k0, k1, k2, k3, some (.builtin "ValueError.__new__"), k5] := by
  unfold slB at h
  split at h
  · rename_i k0 k1 k2 k3 nw k5
    have e := of_decide_eq_true h
    exact ⟨k0, k1, k2, k3, k5, by rw [e]⟩
  · cases h
theorem clsB_ok {K : PySem.W.Frag} {C : Addr} (h : clsB K C = true) : ∃ nm qn N bs bm sn sub ab col dd k0 k1 k2 k3 k5, K.lookup C = some (excClassObj nm qn C N bs bm true sn sub ab col dd k0 k1 k2 k3 k5 "ValueError.__new__") ∧ refsVE bm = true := by
  unfold clsB at h
  split at h
  · rename_i t dd cd sl hk
    obtain ⟨h1, h⟩ := ba h
    obtain ⟨h2, h⟩ := ba h
    obtain ⟨h3, h⟩ := ba h
    obtain ⟨h4, h5⟩ := ba h
    obtain ⟨nm, bs, mro, ns, qn, hd, sn, sub, ab, col, del⟩ := cd
    obtain ⟨k0, k1, k2, k3, k5, e4⟩ := slB_ok h4
    obtain ⟨bm, e5, h6⟩ := mroB_ok h5
    have e1 := of_decide_eq_true h1
    have e2 : hd = true := h2
    have e3 : del = false := by
      have z : (!del) = true := h3
      cases del
      · rfl
      · cases z
    have e5' : mro = .ref C :: bm := e5
    have e4' : sl = #[k0, k1, k2, k3, some (.builtin "ValueError.__new__"), k5] := by
      cases sl
      exact congrArg Array.mk e4
    refine ⟨nm, qn, ns, bs, bm, sn, sub, ab, col, dd, k0, k1, k2, k3, k5, ?_, h6⟩
    rw [hk, e1, e2, e3, e4', e5']
  · cases h
def eq2 (a b : Option (Option Value)) : Bool := decide (a = b)
/-- what reading and judging an own error asks of its class -/
def ercB (K : PySem.W.Frag) (C : Addr) : Bool := (PySem.W.clsIn K C).isSome && (PySem.W.hasDictIn K C && (eq2 (PySem.W.findIn K (.ref C) "__getattribute__") (some (some (.builtin "BaseException.__getattribute__"))) && (eq2 (PySem.W.findIn K (.ref C) "__getattr__") (some none) &&
  (decide (PySem.W.subIn K (.ref C) (.type "BaseException") = some true) && (eq2 (PySem.W.findIn K (.ref C) "__class__") (some (some (.builtin "object.__class__"))) && (eq2 (PySem.W.specialIn K (.builtin "object.__class__") "__get__") (some (some (.builtin "getset_descriptor.__get__"))) &&
  (decide (PySem.W.takesIn K (.builtin "object.__class__") = some true) && decide (PySem.W.mroIn K C (.type "object") = some true))))))))
theorem ercB_ok {K : PySem.W.Frag} {C : Addr} (h : ercB K C = true) : ErC K C := by
  obtain ⟨h1, h⟩ := ba h
  obtain ⟨h2, h⟩ := ba h
  obtain ⟨h3, h⟩ := ba h
  obtain ⟨h4, h⟩ := ba h
  obtain ⟨h5, h⟩ := ba h
  obtain ⟨h6, h⟩ := ba h
  obtain ⟨h7, h⟩ := ba h
  obtain ⟨h8, h9⟩ := ba h
  exact ⟨h1, h2, of_decide_eq_true h3, of_decide_eq_true h4, of_decide_eq_true h5, of_decide_eq_true h6, of_decide_eq_true h7, of_decide_eq_true h8, of_decide_eq_true h9⟩
/-- an own error's __init__ as the text has it: its class, its field, its words, where they stand -/
structure IniD where
  cls : Str
  q : Str
  z : Str
  qn : Str
  p1 : Pos
  p2 : Pos
  ps : PySem.OxX.Ps
abbrev FnI : Type := Option (Str × Str × Arguments × FuncBody × Scope × Addr × Value × Value × Addr)
abbrev iniAd (K : PySem.W.Frag) (d : IniD) : Addr := He.ma K (He.ga K d.cls) "__init__"
def iniObs (K : PySem.W.Frag) (d : IniD) : FnI := match K.lookup (iniAd K d) with
  | some ⟨_, _, .func fd, _⟩ => some (fd.name, fd.qualname, fd.params, fd.body, fd.scope, fd.globals, fd.defaults, fd.kwdefaults, fd.builtins)
  | _ => none
def IniD.val (d : IniD) : FnI := some ("__init__", d.qn, PySem.OxX.iA d.q d.p1 d.p2, .stmts (PySem.OxX.iB d.q d.z d.ps), PySem.OxX.iS d.q, mainGlobals, .none, .none, builtinsNs)
def codB (P : Program) (K : PySem.W.Frag) (qn : Str) (code : Value) : Bool := match code with
  | .ref cda => PySem.W.codeIn K (.ref cda) qn && (match K.lookup cda with
    | some ⟨_, _, .fields vs, _⟩ => (match (vs[2]? : Option Value) with
      | some (.str file _) => ((P.main.file : Str) == file)
      | _ => false)
    | _ => false)
  | _ => false
def cloB (K : PySem.W.Frag) (C : Addr) (cl : List (Str × Addr)) : Bool := match cl with
  | [(n, cc)] => decide (n = "__class__") && (match K.lookup cc with
    | some ⟨_, _, .cell (some (.ref D)), _⟩ => decide (D = C)
    | _ => false)
  | _ => false
def iniB (P : Program) (K : PySem.W.Frag) (d : IniD) : Bool := (match K.lookup (iniAd K d) with
  | some ⟨_, _, .func fd, _⟩ => cloB K (He.ga K d.cls) fd.closure && codB P K d.qn fd.code
  | _ => false) && (clsB K (He.ga K d.cls) && (eq2 (PySem.W.findIn K (.ref (He.ga K d.cls)) "__setattr__") (some (some (.builtin "object.__setattr__"))) && (eq2 (PySem.W.findIn K (.ref (He.ga K d.cls)) d.q) (some none) &&
  (eq2 (PySem.W.findIn K (.ref (He.ga K d.cls)) "__init__") (some (some (.ref (iniAd K d)))) && (decide (PySem.W.typeIn K (.ref (iniAd K d)) = some (.type "function")) && (PySem.W.keepIn K (.ref (He.ga K d.cls)) && (decide (PySem.W.subIn K (.ref (He.ga K d.cls)) (.type "BaseException") = some true) &&
  (decide (PySem.W.subIn K (.ref (He.ga K d.cls)) (.type "ValueError") = some true) && (decide (PySem.W.typeIn K (.ref (He.ga K d.cls)) = some (.type "type")) && (decide (PySem.W.mroIn K (He.ga K d.cls) (.ref (He.ga K d.cls)) = some true) &&
  (eq2 (PySem.W.ks_superIn K (He.ga K d.cls) (He.ga K d.cls) "__init__") (some (some (.builtin "ValueError.__init__"))) && (eq2 (PySem.W.nsIn K cStatics "thirdparty.any") (some none) && eq2 (PySem.W.nsIn K mainGlobals "super") (some none)))))))))))))
/-- what is of the text alone -/
structure IniD.Ok (P : Program) (d : IniD) : Prop where
  htop : (P.main.scope.names.lookup ("super" : Str)).isSome = false
  qs : (d.q == ("self" : Str)) = false
  qc : (d.q == ("__class__" : Str)) = false
  qu : (d.q == ("super" : Str)) = false
  qd : (d.q == ("__debug__" : Str)) = false
  line : (d.ps.a2.endLine == d.ps.a4.line) = true
theorem ini_txt {P : Program} {K : PySem.W.Frag} {d : IniD} (o : d.Ok P) (e : iniObs K d = d.val) (c : iniB P K d = true) : PySem.OxX.Txt P K d.q (He.ga K d.cls) (iniAd K d) := by
  obtain ⟨c0, c⟩ := ba c
  obtain ⟨c1, c⟩ := ba c
  obtain ⟨c2, c⟩ := ba c
  obtain ⟨c3, c⟩ := ba c
  obtain ⟨c4, c⟩ := ba c
  obtain ⟨c5, c⟩ := ba c
  obtain ⟨c6, c⟩ := ba c
  obtain ⟨c7, c⟩ := ba c
  obtain ⟨c8, c⟩ := ba c
  obtain ⟨c9, c⟩ := ba c
  obtain ⟨c10, c⟩ := ba c
  obtain ⟨c11, c⟩ := ba c
  obtain ⟨c12, c13⟩ := ba c
  refine ⟨clsB_ok c1, of_decide_eq_true c2, of_decide_eq_true c3, of_decide_eq_true c4, of_decide_eq_true c5, c6, of_decide_eq_true c7, of_decide_eq_true c8, of_decide_eq_true c9, of_decide_eq_true c10, of_decide_eq_true c11, of_decide_eq_true c12, of_decide_eq_true c13, o.htop, o.qs, o.qc, o.qu, o.qd, ?_⟩
  unfold iniObs at e
  cases q : K.lookup (iniAd K d) with
  | none =>
    rw [q] at c0
    cases c0
  | some ob =>
    obtain ⟨oc, od, dt, osl⟩ := ob
    rw [q] at c0 e
    cases dt with
    | func fd =>
      obtain ⟨n1, n2, n3, n4, n5, n6, n7, n8, n9, n10, n11, n12, n13, n14, n15⟩ := fd
      have e2 : (some (n1, n2, n3, n4, n5, n6, n8, n9, n15) : FnI) = d.val := e
      unfold IniD.val at e2
      simp only [Option.some.injEq, Prod.mk.injEq] at e2
      obtain ⟨h1, h2, h3, h4, h5, h6, h7, h8, h9⟩ := e2
      subst h1 h2 h3 h4 h5 h6 h7 h8 h9
      obtain ⟨k1, k2⟩ := ba (show (cloB K (He.ga K d.cls) n7 && codB P K d.qn n13) = true from c0)
      unfold cloB at k1
      split at k1
      · rename_i n cc
        obtain ⟨k3, k4⟩ := ba k1
        have en := of_decide_eq_true k3
        subst en
        split at k4
        · rename_i cl cld D csl hcc
          have eD := of_decide_eq_true k4
          subst eD
          unfold codB at k2
          split at k2
          · rename_i cda
            obtain ⟨k5, k6⟩ := ba k2
            split at k6
            · rename_i ccl cdd vs ccs hcd
              split at k6
              · rename_i file tf hv
                exact ⟨oc, od, n10, n11, n12, cda, cc, n14, osl, d.p1, d.p2, d.ps, d.qn, d.z, ccl, cl, cdd, cld, ccs, csl, vs, file, tf, rfl, k5, o.line, hcd, hv, k6, hcc⟩
              · cases k6
            · cases k6
          · cases k2
        · cases k4
      · cases k1
    | _ => cases c0
/-! ### the hook -/
def asY (g : Addr → Option Obj) (n : Nat) : List Addr := sysModules :: cStatics :: He.asD g n
abbrev AlY : Type := (He.AlD × Bool) × List FnI
def obsY (P : Program) (fa : List He.Fa) (fn : List He.DefD) (ini : List IniD) (ex : PySem.W.Frag → Bool) (K : PySem.W.Frag) : AlY := ((He.obsD fa fn K, ex K && ((K.lookup sysModules).isSome && ini.all fun d => iniB P K d)), ini.map fun d => iniObs K d)
def valY (fn : List He.DefD) (ini : List IniD) : AlY := ((He.valD fn, true), ini.map IniD.val)
structure SaysY (P : Program) (fa : List He.Fa) (fn : List He.DefD) (ini : List IniD) (ex : PySem.W.Frag → Bool) (K : PySem.W.Frag) : Prop where
  d : He.SaysD fa fn K
  more : ex K = true
  sm : ∃ o, K.lookup sysModules = some o
  ini : ∀ d ∈ ini, iniObs K d = d.val ∧ iniB P K d = true
theorem saysY_of {P : Program} {fa : List He.Fa} {fn : List He.DefD} {ini : List IniD} {ex : PySem.W.Frag → Bool} {K : PySem.W.Frag} (e : obsY P fa fn ini ex K = valY fn ini) : SaysY P fa fn ini ex K := by
  have e1 : (He.obsD fa fn K, ex K && ((K.lookup sysModules).isSome && ini.all fun d => iniB P K d)) = (He.valD fn, true) := congrArg (fun z : AlY => z.1) e
  have e2 : (ini.map fun d => iniObs K d) = ini.map IniD.val := congrArg (fun z : AlY => z.2) e
  have e3 : He.obsD fa fn K = He.valD fn := congrArg Prod.fst e1
  have e4 : (ex K && ((K.lookup sysModules).isSome && ini.all fun d => iniB P K d)) = true := congrArg Prod.snd e1
  obtain ⟨h1, h2⟩ := ba e4
  obtain ⟨h3, h4⟩ := ba h2
  refine ⟨e3, h1, Option.isSome_iff_exists.mp h3, fun d hd => ⟨?_, List.all_eq_true.mp h4 d hd⟩⟩
  exact List.map_inj_left.mp e2 d hd
def hookY (P : Program) (n : Nat) (fa : List He.Fa) (fn : List He.DefD) (ini : List IniD) (ex : PySem.W.Frag → Bool) : PySem.W.Hook where
  α := AlY
  obs := fun s => obsY P fa fn ini ex (He.frG s.heap.get? (asY s.heap.get? n))
  val := fun _ => valY fn ini
  says := fun _ h => ∃ K : PySem.W.Frag, K.In h ∧ SaysY P fa fn ini ex K
  of := fun _ _ e => ⟨_, He.frG_in, saysY_of e⟩
  keeps := fun _ _ _ ⟨K, hK, c⟩ k => ⟨K, PySem.W.Frag.In.keeps hK k, c⟩
def obY (P : Program) (n : Nat) (fa : List He.Fa) (fn : List He.DefD) (ini : List IniD) (ex : PySem.W.Frag → Bool) (g : Addr → Option Obj) : AlY := obsY P fa fn ini ex (He.frG g (asY g n))
theorem obY_eq {P : Program} {n : Nat} {fa : List He.Fa} {fn : List He.DefD} {ini : List IniD} {ex : PySem.W.Frag → Bool} {g : Addr → Option Obj} {s : Shared} (h : ∀ a, g a = s.heap.get? a) : obY P n fa fn ini ex g = (hookY P n fa fn ini ex).obs s := by
  have e : g = s.heap.get? := funext h
  rw [e] <;> rfl
end Hy

set_option Elab.async false
set_option linter.all false
set_option maxRecDepth 100000
set_option maxHeartbeats 4000000
/-! A law's own def, called by the claim alone: what runs around it is known (no repr is under way). -/
namespace L2
open PySem PySem.Spec PyProof.Rows
structure FnLaw (P : Program) (w : World) (K : PySem.W.Frag) (mg : Str → Option Value) (base : Heap) (CX : CXT) (f : Addr) (fd : FuncData) (ps : List Str) (sp : Sp) : Prop where
  len : ∀ vs H Q E, sp vs H Q E → vs.length = ps.length
  run : ∀ (s : Shared) (H : Hp) (args : Args) (us : List Value) (vs : List V) (Q : VK) (E : XK), Env0 P w K mg base callerA [] s H → BindsTo s fd args (ps.zip us) → Vals vs us → sp vs H Q E →
    codeAny (model P w) callerA (.call (.ref f) args) (CR CX [] P w H s Q E) s
theorem room_caller : Room 40 callerA := ⟨rfl, by decide, by decide⟩
theorem fn_law {CX : CXT} {P : Program} {w : World} {K : PySem.W.Frag} {mg : Str → Option Value} {base : Heap} {f : Addr} {name qual : Str} {params : Arguments} {body : List Stmt} {scope : Scope} {fd : FuncData}
    {N ps : List Str} {sp : Sp} (F : FunD K name qual params body scope [] [] f fd) (S : FnScope N ps scope)
    (len : ∀ vs H Q E, sp vs H Q E → vs.length = ps.length)
    (hbody : ∀ (cdv : Value) (s : Shared) (H : Hp) (vs : List V) (Q : VK) (E : XK), Room 39 (callerA.deeper (envOfC qual scope s.heap.objs.size f cdv)) → sp vs H Q E →
      ∃ t, PSs (cxOf CX P w K mg base N qual scope f cdv callerA [] s H E) body t ∧ t { nx := fun _ H' => Q .non H', rt := Q } (start N vs) H) :
    FnLaw P w K mg base CX f fd ps sp := by
  obtain ⟨oc, od, dV, kV, doc, pm, an, cdv, ct, osl, rfl, lk, hcd, _, _⟩ := F.ex
  have hr := room_caller
  refine ⟨len, fun s H args us vs Q E e0 hb r hsp => ?_⟩
  have hl := len _ _ _ _ hsp
  have KX : K.In s.heap := e0.mod.kin.keeps fun b o e => (e0.bs b o e).1
  have lim : s.heap.NoLimit := e0.mod.nolimit.keeps fun b o e => (e0.bs b o e).1
  have hkind : ∀ y ∈ ps.zip us, scope.names.lookup y.1 = some .local ∨ (scope.names.lookup y.1 = some .cell ∧ ((cellsFrom (s.heap.objs.size + 1) scope.names []).lookup y.1).isSome = true) := fun ⟨n, v⟩ hy => by
    rcases S.par n (List.of_mem_zip hy).1 with q | q
    · exact .inl q
    · exact .inr ⟨q, PySem.W.cellsFrom_some _ _ _ (.inl q)⟩
  refine codeAny_call_function hr.depth (KX _ _ lk) rfl S.co S.gen rfl (PySem.W.codeRec_of KX hcd) (hb _ _ _ _ ?_)
  refine wpAny_newFunctionEnv_cells S.kind hkind fun env he s1 x => ?_
  subst he
  refine ⟨lim.keeps x.toInCall.keep, codeAny_func ?_⟩
  obtain ⟨t, ht, hq⟩ := hbody cdv s H vs Q E (hr.deeper _) hsp
  have I : Inv (cxOf CX P w K mg base N qual scope f cdv callerA [] s H E) [] (start N vs) H s1 := inv_start S hr.hd e0 hl r x
  refine wpAny_mono (ht.run [] s1 (start N vs) H _ I hq) (fun fl s' hs => ?_) fun e s' hs => hs
  have fin : ∀ {σ' : St} {H' : Hp} {v : V} {u : Value}, Inv (cxOf CX P w K mg base N qual scope f cdv callerA [] s H E) [] σ' H' s' → RelV v u → Q v H' → CE [] P w H s Q u s' :=
    fun {σ' H' v u} J rv q => ⟨v, H', J.os, J.bare, J.base, J.hok, rv, q⟩
  cases fl with
  | ret u =>
    obtain ⟨v, σ', H', J, rv, q⟩ := hs
    exact fin J rv q
  | next =>
    obtain ⟨σ', H', J, q⟩ := hs
    exact fin (v := V.non) (u := Value.none) J rfl q
  | brk =>
    obtain ⟨_, _, _, q⟩ := hs
    exact False.elim q
  | cont =>
    obtain ⟨_, _, _, q⟩ := hs
    exact False.elim q
theorem law_callG {P : Program} {w : World} {K : PySem.W.Frag} {mg mb : Str → Option Value} {CX : CXT} {fa a : Addr} {fd : FuncData} {x : Str} {sp : Sp} {s₁ : Shared} {vs : List Value} {ns : List Int}
    (KX : K.In s₁.heap) (hns : s₁.heap.Ns mainGlobals mg) (hb : s₁.heap.Ns builtinsNs mb) (hbb : ∀ x : Str, x ≠ "__name__" → mb x = bootBuiltins x) (hlim : s₁.heap.NoLimit) (hg : s₁.gens = #[])
    (ha : s₁.heap.get? a = some { cls := .type "list", data := .seq vs.toArray }) (hi : IntsAre vs ns) (hl : ns.length ≤ sizeLine)
    (F : ∀ base : Heap, K.In base → base.Ns mainGlobals mg → FnLaw P w K mg base CX fa fd [x] sp) (hbind : ∀ (s : Shared) (u : Value), BindsTo s fd ⟨[u], []⟩ [(x, u)])
    (hsp : ∀ H : Hp, Only H → SqL K H a (ns.map V.int) → sp [.ref a] H (fun v _ => v = .bl true) fun _ _ _ => False)
    (hCX : ∀ H e s', CX [] H s₁ (fun _ _ _ => False) e s' → False) :
    codeAny (model P w) callerA (.call (.ref fa) ⟨[.ref a], []⟩) (fun r s' => r = .ok (.ret (.bool true)) ∧ OldK s₁.heap s'.heap ∧ s'.os = s₁.os ∧ AllBare s'.gens) s₁ := by
  have rv := vals_ints hi
  have lenV := hi.length
  have core : ∀ H : Hp, Only H → SqL K H a (ns.map V.int) → HOk P w H s₁.heap → (∀ b, H b ≠ none → b = a) → (H a ≠ none → K.lookup a = none) →
      codeAny (model P w) callerA (.call (.ref fa) ⟨[.ref a], []⟩) (fun r s' => r = .ok (.ret (.bool true)) ∧ OldK s₁.heap s'.heap ∧ s'.os = s₁.os ∧ AllBare s'.gens) s₁ := by
    intro H hO hS hok hA hK
    have base_of : ∀ {b : Addr} {o : Obj}, s₁.heap.get? b = some o → H b = none → (hidT s₁.heap H).get? b = some o := fun e n => hidT_get e n
    have noA : ∀ {b : Addr} {o : Obj} {es : Array DictEntry} {ep : Nat}, s₁.heap.get? b = some o → o.data = .dict es ep → H b = none := fun {b o es ep} e d => by
      cases q : H b with
      | none => rfl
      | some u =>
        have e' : b = a := hA b (by rw [q]; simp)
        subst e'
        rw [ha] at e; cases e
        have d' : Data.seq vs.toArray _ = Data.dict es ep := d
        cases d'
    have nsK : ∀ {b : Addr} {m : Str → Option Value}, s₁.heap.Ns b m → (hidT s₁.heap H).Ns b m := fun {b m} ⟨o, es, ep, e, d, r⟩ => ⟨o, es, ep, base_of e (noA e d), d, r⟩
    have hKb : K.In (hidT s₁.heap H) := fun b o e => base_of (KX b o e) (by
      cases q : H b with
      | none => rfl
      | some u =>
        have e' : b = a := hA b (by rw [q]; simp)
        subst e'
        rw [hK (by rw [q]; simp)] at e; cases e)
    have hM : Mod K mg (hidT s₁.heap H) := ⟨hKb, nsK hns, ⟨mb, nsK hb, hbb⟩, let ⟨mc, h1, h2⟩ := hlim; ⟨mc, nsK h1, h2⟩⟩
    have e0 : Env0 P w K mg (hidT s₁.heap H) callerA [] s₁ H := ⟨rfl, hM, fun b o e => of_hidT e, Nat.le_of_eq (hidT_size _ _), trivial, fun b hb => absurd (show b ∈ ([] : List Addr) from hb) (by simp), hok, .of_eq hg⟩
    refine codeAny_mono ((F _ hKb (nsK hns)).run s₁ H ⟨[.ref a], []⟩ [.ref a] [.ref a] _ _ e0 (hbind s₁ (.ref a)) (.cons rfl .nil) (hsp H hO hS)) fun r s' h => ?_
    cases r with
    | error e => exact (hCX H e s' h).elim
    | ok fl =>
      cases fl with
      | next => exact False.elim h
      | brk => exact False.elim h
      | cont => exact False.elim h
      | ret u =>
        obtain ⟨v, H', os, bare, un, hok', r', q⟩ := h
        have q' : v = .bl true := q
        subst q'
        obtain rfl : u = Value.bool true := r'
        refine ⟨rfl, OldK.of_keep fun b o e => ?_, os, bare⟩
        cases q : H b with
        | none => exact un.keep b o e q (by intro z; exact absurd (show b ∈ ([] : List Addr) from z) (by simp)) (by simp)
        | some u =>
          rcases hO b with z | ⟨ob, xs, z⟩
          · rw [q] at z; cases z
          · have z2 := un.frzs b ob _ z
            obtain ⟨e1, _⟩ := hok b _ z
            obtain ⟨e2, _⟩ := hok' b _ z2
            rw [e] at e1; cases e1
            exact e2
  cases hk : K.lookup a with
  | some o =>
    have e := KX a o hk
    rw [ha] at e
    cases e
    refine core (fun _ => none) (fun _ => .inl rfl) (.inr ⟨_, vs.toArray, _, hk, rfl, rfl, rfl, by rw [List.size_toArray, lenV]; exact hl, by simpa using rv⟩) (fun b u z => by have z' : (none : Option HO) = some u := z; cases z') (fun b z => absurd rfl z) fun z => absurd rfl z
  | none =>
    refine core (fun b => if b = a then some (.frz { cls := .type "list", data := .seq vs.toArray } (.lst (ns.map V.int))) else none) (fun b => ?_) (.inl (.inr ⟨{ cls := .type "list", data := .seq vs.toArray }, if_pos rfl⟩)) (fun b u z => ?_) (fun b z => ?_) fun _ => hk
    · by_cases hb : b = a
      · exact .inr ⟨_, _, if_pos hb⟩
      · exact .inl (if_neg hb)
    · by_cases hb : b = a
      · have z' := (if_pos hb).symm.trans z
        cases z'
        subst hb
        exact ⟨ha, by rw [List.length_map]; exact hl, vs, _, rv, ha⟩
      · have z' := (if_neg hb).symm.trans z
        cases z'
    · by_cases hb : b = a
      · exact hb
      · exact absurd (if_neg hb) z
theorem walk_ofG {l : PySem.W.OpenLaw} {n : Nat} {q : Program} {loose : List Str} {XP : (Str → Option Value) → Heap → Prop} {YP : World → Heap → Prop} {d : DefRec} {CX : CXT} {x : Str}
    (hn : l.most = some n) (hn2 : n ≤ sizeLine) (hdf : d.params.defaults = [])
    (F : ∀ (w : World) (mg : Str → Option Value) (fa : Addr) (h : Heap), YP w h → h.Ns mainGlobals mg → mg d.name = some (.ref fa) →
      ∃ (K : PySem.W.Frag) (fd : FuncData) (sp : Sp), K.In h ∧ (∀ (s : Shared) (u : Value), BindsTo s fd ⟨[u], []⟩ [(x, u)]) ∧
        (∀ (H : Hp) (a : Addr) (ns : List Int), ns.length ≤ n → Only H → SqL K H a (ns.map V.int) → sp [.ref a] H (fun v _ => v = .bl true) fun _ _ _ => False) ∧
        ∀ base : Heap, K.In base → base.Ns mainGlobals mg → FnLaw l.prog w K mg base CX fa fd [x] sp)
    (hCX : ∀ (H : Hp) (s : Shared) (e : Value) (s' : Shared), CX [] H s (fun _ _ _ => False) e s' → False) :
    PySem.W.WalkO q loose XP YP l.row.toRowW d [] (fun f vs => PySem.call f vs) := by
  refine Att.attach_call hn hdf fun w s₀ s₁ mg mb fa o pm cd doc a vs ns G Y ho hd hcd hmg hobj hints hlen hg => ?_
  obtain ⟨K, fd, sp, KX, hb, hsp, hF⟩ := F w mg fa _ Y G.T.g hmg
  exact law_callG KX G.T.g G.T.b G.T.builtins G.T.nolimit hg hobj hints (Nat.le_trans hlen hn2) hF hb (fun H hO hS => hsp H a ns hlen hO hS) fun H e s' => hCX H s₁ e s'
end L2

set_option Elab.async false
set_option linter.all false
set_option maxRecDepth 100000
set_option maxHeartbeats 4000000
namespace Tk00
open PySem PySem.Spec PyProof.Rows L2
abbrev PR : Program := PySem.Challenge.pw_howevercut_k00_errors_of_all_parts
def topS (i : Nat) : Stmt := PR.main.body.getD i (.Pass ⟨0, 0, 0, 0⟩)
/-! ### the draws' defs -/
abbrev sBegun : Stmt := topS 40
abbrev sMixed : Stmt := topS 41
abbrev sTake : Stmt := topS 42
abbrev nBegun : List Str := ["_law_script", "_law_large", "_law_grain"]
abbrev nMixed : List Str := ["_law_draw", "_law_turn", "_law_found", "_law_great", "_law_blend", "_law_grain"]
abbrev nTake : List Str := ["_law_draw", "_law_amount", "_law_found"]
theorem scBegun : FnScope nBegun ["_law_script"] (defScope sBegun) := ⟨rfl, rfl, rfl, by decide +kernel, rfl, by decide +kernel, by decide +kernel⟩
theorem scMixed : FnScope nMixed ["_law_draw"] (defScope sMixed) := ⟨rfl, rfl, rfl, by decide +kernel, rfl, by decide +kernel, by decide +kernel⟩
theorem scTake : FnScope nTake ["_law_draw", "_law_amount"] (defScope sTake) := ⟨rfl, rfl, rfl, by decide +kernel, rfl, by decide +kernel, by decide +kernel⟩
abbrev FnP (K : PySem.W.Frag) (x : Str) (st : Stmt) (f : Addr) (fd : FuncData) : Prop := FunD K x x (defArgs st) (defBody st) (defScope st) [] [] f fd
section
variable {P : Program} {w : World} {K : PySem.W.Frag} {mg : Str → Option Value} {base : Heap} {f fM : Addr} {fd fdM : FuncData}
theorem ok_mixed (F : FnP K "_law_mixed" sMixed f fd) (gI : mg "int" = none) : FnOk P w K mg base CX0 1 f fd ["_law_draw"] spMixed := by
  refine F.ok scMixed (fun vs H Q E h => ?_) (fun cdv A outer s H vs Q E hr h => ?_)
  · obtain ⟨D, l, r, c, t, rfl, _⟩ := h
    rfl
  · obtain ⟨D, large, rest, cells, turn, rfl, a, k⟩ := h
    have hu := hu_of hr
    refine ⟨_, PSs.nox (pss_cons (ps_dput hu (pv 0) pe_str (pe_op op_add (pe_dget hu (pv 0) pe_str (fun _ _ => rfl)) pe_int) rfl)
      (pss_cons (ps_par (i := 1) (j := 2) (by rfl) scMixed.nd rfl rfl (by decide) rfl rfl (pa_cons (pe_callTy call_int1 (by rfl) gI (by decide +kernel) (pa_cons (pe_dget hu (pv 0) pe_str (fun _ _ => rfl)) pa_nil)) (pa_cons pe_int pa_nil)) (by rfl))
      (pss_cons (ps_for PassesOwn.never rfl (pi_list (pe_lst (pa_cons pe_int (pa_cons pe_int (pa_cons pe_int pa_nil))))) (pg_name (i := 3) scMixed.nd rfl (Or.inl rfl))
        (pss_cons (ps_set (i := 4) scMixed.nd rfl (Or.inl rfl) (pe_op op_mod (pe_op op_add (pe_op op_mul (pv 1) pe_int) (pe_op op_fdiv (pv 3) pe_int)) (pv 3)))
        (pss_cons (ps_for PassesOwn.never rfl (pi_list (pe_dget hu (pv 0) pe_str (fun _ _ => rfl))) (pg_name (i := 5) scMixed.nd rfl (Or.inl rfl))
          (pss_one (ps_set (i := 4) scMixed.nd rfl (Or.inl rfl) (pe_op op_mod (pe_op op_add (pe_op op_mul (pv 4) pe_int) (pe_callTy call_int1 (by rfl) gI (by decide +kernel) (pa_cons (pv 5) pa_nil))) (pv 3)))))
        (pss_one (ps_set (i := 2) scMixed.nd rfl (Or.inl rfl) (pe_op op_add (pe_op op_mul (pv 2) pe_int) (pe_op op_mod (pe_op op_pow (pv 4) pe_int) (pv 3))))))))
      (pss_one (ps_ret (pv 2)))))), ?_⟩
    -- the turn
    refine ⟨_, rfl, D.d, .int turn, rfl, Or.inl ⟨_, kTurn, .inl a.hd, rfl, valV_turn.symm⟩, _, _, rfl, rfl, _, rfl, D.d, _, rfl, Or.inl ⟨_, kTurn, a.hd, rfl, drawKvs_len, rfl⟩, ?_⟩
    rw [put_turn]
    have a1 := a.put rest (turn + 1)
    generalize hH1 : upd H D.d (.dK (drawKvs D rest (turn + 1))) = H1 at a1 ⊢
    have s1 : Same (hid D H) (hid D H1) := by
      rw [← hH1]
      exact hid_put
    refine ⟨_, rfl, D.d, .int (turn + 1), rfl, Or.inl ⟨_, kTurn, .inl a1.hd, rfl, valV_turn.symm⟩, Or.inl ⟨_, rfl, ?_⟩⟩
    refine ⟨_, _, rfl, ?_⟩
    -- the three primes
    refine ⟨(by show 3 ≤ sizeLine; decide), fun p hp => ⟨p, rfl, ⟨_, SqL.of upd_same⟩, ?_⟩⟩
    have dk : DrAt D (upd H1 p (.lst [.int 2147483629, .int 2147483587, .int 2147483579])) large rest cells (turn + 1) := a1.same (Same.upd hp)
    have s2 : Same (hid D H1) (hid D (upd H1 p (.lst [.int 2147483629, .int 2147483587, .int 2147483579]))) := hid_same (Same.upd hp)
    refine for_list (K := K) (a := p) (xs := [.int 2147483629, .int 2147483587, .int 2147483579]) (fun i σ H' => ∃ (z : Int) (v3 v4 v5 : Option V), σ = [some (.ref D.d), some (.int (turn + 1)), some (.int z), v3, v4, v5] ∧ 0 ≤ z ∧ H' = upd H1 p (.lst [.int 2147483629, .int 2147483587, .int 2147483579]))
      ⟨0, none, none, none, rfl, Int.le_refl _, rfl⟩ (fun i σ H' _ ⟨_, _, _, _, _, _, e⟩ => by rw [e]; exact SqL.of upd_same) ?_ ?_
    · rintro i y σ H' hi ⟨z, v3, v4, v5, rfl, hz, rfl⟩
      obtain ⟨g, rfl, g1, g2⟩ : ∃ g : Int, y = V.int g ∧ 0 < g ∧ g < 2147483648 := by
        match i, hi with
        | 0, hi => cases hi; exact ⟨2147483629, rfl, by decide, by decide⟩
        | 1, hi => cases hi; exact ⟨2147483587, rfl, by decide, by decide⟩
        | 2, hi => cases hi; exact ⟨2147483579, rfl, by decide, by decide⟩
      refine ⟨_, rfl, _, _, rfl, rfl, .inr ⟨by decide, by decide⟩, _, rfl, _, _, rfl, rfl, ⟨by decide, by decide⟩, _, _, rfl, rfl, _, rfl, _, _, rfl, rfl, g1, ?_⟩
      -- the cells
      refine ⟨_, rfl, D.d, .ref D.ac, rfl, Or.inl ⟨_, kCells, .inl dk.hd, rfl, valV_cells.symm⟩, D.ac, rfl, ⟨_, SqL.of dk.hc⟩, ?_⟩
      refine for_list (K := K) (a := D.ac) (xs := cells.map V.int) (fun j σ H' => ∃ (b : Int) (v5 : Option V), σ = [some (.ref D.d), some (.int (turn + 1)), some (.int z), some (.int g), some (.int b), v5] ∧ 0 ≤ b ∧ b < g ∧ H' = upd H1 p (.lst [.int 2147483629, .int 2147483587, .int 2147483579]))
        ⟨_, _, rfl, Int.emod_nonneg _ (by omega), Int.emod_lt_of_pos _ g1, rfl⟩ (fun j σ H' _ ⟨_, _, _, _, _, e⟩ => by rw [e]; exact SqL.of dk.hc) ?_ ?_
      · rintro j y σ H' hj ⟨b, v5, rfl, b1, b2, rfl⟩
        obtain ⟨c, rfl⟩ : ∃ c : Int, y = V.int c := by
          rw [List.getElem?_map] at hj
          cases e : cells[j]? with
          | none => rw [e] at hj; cases hj
          | some c => rw [e] at hj; exact ⟨c, (Option.some.inj hj).symm⟩
        refine ⟨_, rfl, _, _, rfl, rfl, .inr ⟨by decide, by decide⟩, _, rfl, Or.inl ⟨_, rfl, _, _, rfl, rfl, _, rfl, _, _, rfl, rfl, g1, ?_⟩⟩
        exact ⟨_, _, rfl, Int.emod_nonneg _ (by omega), Int.emod_lt_of_pos _ g1, rfl⟩
      · rintro σ H' ⟨b, v5, rfl, b1, b2, rfl⟩
        refine ⟨_, rfl, _, _, rfl, rfl, .inr ⟨by decide, by decide⟩, _, rfl, _, _, rfl, rfl, ⟨by decide, by decide, by omega⟩, _, rfl, _, _, rfl, rfl, g1, _, _, rfl, rfl, ?_⟩
        refine ⟨_, _, _, _, rfl, Int.add_nonneg (Int.mul_nonneg hz (by decide)) (Int.emod_nonneg _ (by omega)), rfl⟩
    · rintro σ H' ⟨z, v3, v4, v5, rfl, hz, rfl⟩
      exact ⟨_, rfl, k z (turn + 1) _ hz dk (s1.trans s2)⟩
theorem ok_take (F : FnP K "_law_take" sTake f fd) (FM : FnP K "_law_mixed" sMixed fM fdM) (gM : mg "_law_mixed" = some (.ref fM)) (gI : mg "int" = none) : FnOk P w K mg base CX0 2 f fd ["_law_draw", "_law_amount"] spTake := by
  have GM : FnOk P w K mg base CX0 1 fM fdM ["_law_draw"] spMixed := ok_mixed FM gI
  have bM : Binds K fdM ["_law_draw"] [] := FM.bindsN fun _ _ _ _ _ _ us hl => match us, hl with | [_], _ => rfl
  refine F.ok scTake (fun vs H Q E h => ?_) (fun cdv A outer s H vs Q E hr h => ?_)
  · obtain ⟨D, m, rfl, _⟩ := h
    rfl
  · obtain ⟨D, amt, rfl, ⟨large, rest, cells, turn, a, hl, hr0⟩, m1, m2, k⟩ := h
    have hu := hu_of hr
    refine ⟨_, PSs.nox (pss_cons (ps_if (pt_cmpR op_eq (pe_dget hu (pv 0) pe_str (fun _ _ => rfl)) pe_int (nomark _))
        (pss_one (ps_dput hu (pv 0) pe_str (pe_ifExp (pt_cmpR (op_neD hr.units) (pe_dget hu (pv 0) pe_str (fun _ _ => rfl)) (pe_lst pa_nil) (nomark _))
          (pe_bm PySem.F.plainAttrs_list PySem.F.slot_list_pop PySem.F.type_list_pop mt_popAt (pe_dget hu (pv 0) pe_str (fun _ _ => rfl)) (pa_cons pe_int pa_nil))
          (pe_call GM hr rfl gM FM.kp bM .nil pass0 (pa_cons (pv 0) pa_nil))) rfl)) pss_nil)
      (pss_cons (ps_set (i := 2) scTake.nd rfl (Or.inl rfl) (pe_op op_modN (pe_callTy call_int1 (by rfl) gI (by decide +kernel) (pa_cons (pe_dget hu (pv 0) pe_str (fun _ _ => rfl)) pa_nil)) (pv 1)))
      (pss_cons (ps_dput hu (pv 0) pe_str (pe_op op_fdivN (pe_callTy call_int1 (by rfl) gI (by decide +kernel) (pa_cons (pe_dget hu (pv 0) pe_str (fun _ _ => rfl)) pa_nil)) (pv 1)) rfl)
      (pss_one (ps_ret (pv 2)))))), ?_⟩
    -- behind the if: from any good draw
    have rest_of : ∀ (H1 : Hp) (large1 : List Int) (rest1 turn1 : Int), DrAt D H1 large1 rest1 cells turn1 → (∀ x ∈ large1, 0 ≤ x) → 0 ≤ rest1 → Same (hid D H) (hid D H1) →
        (tSeq (tAsg (tOp (rI (fun _ j => j ≠ 0) fun i j => .int (i.fmod j)) (tCB (fun xs H Q => (∃ i, xs = [.int i] ∧ Q (.int i) H) ∨ ∃ k, xs = [.bl k] ∧ Q (.int (if k then 1 else 0)) H) (tCons (tDGet (tVar 0) (tC (.str "rest"))) tNil)) (tVar 1)) (gName 2))
          (tSeq (sDPut (tVar 0) (tC (.str "rest")) (tOp (rI CDivN fun i j => .int (i.fdiv j)) (tCB (fun xs H Q => (∃ i, xs = [.int i] ∧ Q (.int i) H) ∨ ∃ k, xs = [.bl k] ∧ Q (.int (if k then 1 else 0)) H) (tCons (tDGet (tVar 0) (tC (.str "rest"))) tNil)) (tVar 1)))
          (tRet (tVar 2)))) { nx := fun _ H' => Q .non H', rt := Q } [some (.ref D.d), some (.int amt), none] H1 := by
      intro H1 large1 rest1 turn1 b hl1 hr1 s1
      refine ⟨_, rfl, D.d, .int rest1, rfl, Or.inl ⟨_, kRest, .inl b.hd, rfl, valV_rest.symm⟩, Or.inl ⟨_, rfl, _, rfl, _, _, rfl, rfl, by omega, ?_⟩⟩
      refine ⟨_, rfl, D.d, .int rest1, rfl, Or.inl ⟨_, kRest, .inl b.hd, rfl, valV_rest.symm⟩, Or.inl ⟨_, rfl, _, rfl, _, _, rfl, rfl, ⟨by omega, by omega⟩, _, rfl, D.d, _, rfl, Or.inl ⟨_, kRest, b.hd, rfl, drawKvs_len, rfl⟩, ?_⟩⟩
      rw [put_rest]
      have e1 : rest1.fmod amt = rest1 % amt := Int.fmod_eq_emod_of_nonneg _ (by omega)
      have e2 : rest1.fdiv amt = rest1 / amt := Int.fdiv_eq_ediv_of_nonneg _ (by omega)
      refine ⟨_, rfl, ?_⟩
      show Q (.int (rest1.fmod amt)) (upd H1 D.d (.dK (drawKvs D (rest1.fdiv amt) turn1)))
      rw [e1, e2]
      exact k (rest1 % amt) _ (Int.emod_nonneg _ (by omega)) (Int.emod_lt_of_pos _ m1) ⟨_, _, _, _, b.put _ _, hl1, Int.ediv_nonneg hr1 (by omega)⟩ (s1.trans hid_put)
    refine ⟨_, rfl, D.d, .int rest, rfl, Or.inl ⟨_, kRest, .inl a.hd, rfl, valV_rest.symm⟩, rfl, _, rfl, ?_⟩
    refine ite2 (fun _ => ?_) (fun _ => ?_)
    · -- the rest is 0
      refine ⟨_, rfl, D.d, .ref D.al, rfl, Or.inl ⟨_, kLarge, .inl a.hd, rfl, valV_large.symm⟩, (by show 0 ≤ sizeLine; decide), fun p hp => ?_⟩
      have a1 : DrAt D (upd H p (.lst [])) large rest cells turn := a.same (Same.upd hp)
      have s1 : Same (hid D H) (hid D (upd H p (.lst []))) := hid_same (Same.upd hp)
      refine ⟨.list (large.map .int), .list [], .lst (SqL.of a1.hl) dp_ints, .lst (SqL.of upd_same) .nil, shaped_ints large, by decide +kernel, _, rfl, ?_⟩
      rw [eqv_empty]
      cases large with
      | nil =>
        refine iteF ?_
        refine ⟨_, rfl, D, [], rest, cells, turn, rfl, a1, fun r turn' H' h0 b s2 => ?_⟩
        refine ⟨_, rfl, D.d, _, rfl, Or.inl ⟨_, kRest, b.hd, rfl, drawKvs_len, rfl⟩, ?_⟩
        rw [put_rest]
        exact rest_of _ [] r turn' (b.put _ _) (fun x z => nomatch z) h0 (s1.trans (s2.trans hid_put))
      | cons g large =>
        refine iteT ?_
        have q0 : seqIndex? 0 ((g :: large).map V.int).length = some 0 := (ixN_seq (j := 0) (by unfold ixN; rw [if_pos (Int.le_refl _), if_pos (by rw [List.length_map, List.length_cons]; omega)]; rfl)).1
        refine ⟨_, rfl, D.d, .ref D.al, rfl, Or.inl ⟨_, kLarge, .inl a1.hd, rfl, valV_large.symm⟩, Or.inl ⟨rfl, _, SqL.of a1.hl⟩, D.al, _, 0, 0, .int g, rfl, rfl, a1.hl, by decide, by decide, q0, rfl, ?_⟩
        have b : DrAt D (upd (upd H p (.lst [])) D.al (.lst (large.map V.int))) large rest cells turn := a1.pop
        refine ⟨_, rfl, D.d, _, rfl, Or.inl ⟨_, kRest, b.hd, rfl, drawKvs_len, rfl⟩, ?_⟩
        rw [put_rest]
        exact rest_of _ large g turn (b.put _ _) (fun x z => hl x (List.mem_cons_of_mem _ z)) (hl g (List.mem_cons_self ..)) (s1.trans (hid_putl.trans hid_put))
    · exact rest_of H large rest turn a hl hr0 (Same.refl _)
end
section
variable {P : Program} {w : World} {K : PySem.W.Frag} {mg : Str → Option Value} {base : Heap} {f fT : Addr} {fd fdT : FuncData}
theorem ok_begun (F : FnP K "_law_begun" sBegun f fd) (gA : mg "abs" = none) : FnOk P w K mg base CX0 1 f fd ["_law_script"] (spBegun K) := by
  refine F.ok scBegun (fun vs H Q E h => ?_) (fun cdv A outer s H vs Q E hr h => ?_)
  · obtain ⟨a, ns, rfl, _⟩ := h
    rfl
  · obtain ⟨a, ns, rfl, hS, hlen, k⟩ := h
    refine ⟨_, PSs.nox (pss_cons (ps_setLc (i := 1) (own := [("_law_grain", 2)]) (g := gName 2) (by rfl) scBegun.nd rfl rfl (sw_true rfl rfl rfl (by decide +kernel)) (pi_list (pv 0)) (blkOk_by (own := [("_law_grain", 2)]) (N := nBegun) (sc := defScope sBegun) (by decide +kernel)) (fun _ _ _ _ _ => pg_name (i := 2) scBegun.nd rfl (Or.inl rfl))
        (fun _ _ _ _ _ => pts_one (pt_cmpR op_ge (pe_callB call_abs (by rfl) gA (by decide +kernel) (pa_cons (pv 2) pa_nil)) (pe_op op_pow pe_int pe_int) (nomark _)))
        (fun _ _ _ _ _ => pe_op op_sub (pe_callB call_abs (by rfl) gA (by decide +kernel) (pa_cons (pv 2) pa_nil)) (pe_op op_pow pe_int pe_int)))
      (pss_one (ps_ret (pe_disp (pps_cons pe_str (pv 1) (pps_cons pe_str pe_int (pps_cons pe_str
        (pe_lc (own := [("_law_grain", 2)]) (g := gName 2) (tt := tYes) (by rfl) scBegun.nd (pi_list (pv 0)) (blkOk_by (own := [("_law_grain", 2)]) (N := nBegun) (sc := defScope sBegun) (by decide +kernel)) (fun _ _ _ _ _ => pg_name (i := 2) scBegun.nd rfl (Or.inl rfl)) (fun _ _ _ _ _ => pts_nil)
          (fun _ _ _ _ _ => pe_callB call_abs (by rfl) gA (by decide +kernel) (pa_cons (pv 2) pa_nil))) (pps_cons pe_str pe_int pps_nil)))) (by rfl) (by rfl) (fun z => by cases z) (by decide))))), ?_⟩
    have item : ∀ {i : Nat} {y : V}, (ns.map V.int)[i]? = some y → ∃ z, y = V.int z ∧ i < ns.length := fun {i y} hi => by
      rw [List.getElem?_map] at hi
      cases e : ns[i]? with
      | none => rw [e] at hi; cases hi
      | some z => rw [e] at hi; exact ⟨z, (Option.some.inj hi).symm, (List.getElem?_eq_some_iff.mp e).1⟩
    have small : ∀ {n i : Nat}, n ≤ i → i < ns.length → n < sizeLine := fun {n i} h1 h2 => by
      rw [sizeLine_eq]
      omega
    -- the large ones
    refine ⟨_, rfl, a, rfl, ⟨_, hS⟩, fun L nL => ?_⟩
    refine lc_list (K := K) (a := a) (xs := ns.map V.int) (fun i H' => ∃ l : List Int, H' = upd H L (.lst (l.map V.int)) ∧ (∀ x ∈ l, 0 ≤ x) ∧ l.length ≤ i) ⟨[], rfl, (fun x z => nomatch z), Nat.le_refl _⟩ (fun i H' _ ⟨l, e, _⟩ => by rw [e]; exact (Same.upd nL).seq hS) ?_ ?_
    · rintro i y H' hi ⟨l, rfl, hl, hz⟩
      obtain ⟨z, rfl, hil⟩ := item hi
      refine ⟨rfl, _, rfl, _, rfl, ?_⟩
      refine ⟨_, _, rfl, rfl, ⟨by decide, by decide, by decide⟩, _, _, rfl, rfl, _, rfl, ?_⟩
      refine ite2 (fun hc => ?_) (fun _ => ⟨l, rfl, hl, Nat.le_succ_of_le hz⟩)
      refine ⟨_, rfl, _, rfl, _, _, rfl, rfl, ⟨by decide, by decide, by decide⟩, _, _, rfl, rfl, _, upd_same, by rw [List.length_map]; exact small hz hil, l ++ [(if z < 0 then -z else z) - 10 ^ (18 : Int).toNat], ?_, fun x hx => ?_, by rw [List.length_append]; exact Nat.succ_le_succ hz⟩
      · rw [upd_upd, List.map_append]
        rfl
      · rcases List.mem_append.mp hx with hx | hx
        · exact hl x hx
        · rw [List.mem_singleton.mp hx]
          have := of_decide_eq_true hc
          omega
    · rintro H' ⟨l, rfl, hl, hz⟩
      have hz : l.length ≤ ns.length := by rw [List.length_map] at hz; exact hz
      intro p hp
      have npL : p ≠ L := (ne_of_none upd_same hp).symm
      refine ⟨_, rfl, ?_⟩
      refine ⟨_, rfl, a, rfl, ⟨_, ((Same.upd nL).trans (Same.upd hp)).seq hS⟩, fun C nC => ?_⟩
      have nCp : C ≠ p := (ne_of_none upd_same nC).symm
      have nCL : C ≠ L := fun e => by
        rw [e, upd_ne npL.symm, upd_same] at nC
        cases nC
      have sC : ∀ o, Same H (upd (upd (upd H L (.lst (l.map V.int))) p (.dK [])) C o) := fun o => (Same.upd nL).trans ((Same.upd hp).trans (Same.upd nC))
      refine lc_list (K := K) (a := a) (xs := ns.map V.int) (fun i H' => ∃ c : List Int, H' = upd (upd (upd H L (.lst (l.map V.int))) p (.dK [])) C (.lst (c.map V.int)) ∧ c.length ≤ i) ⟨[], rfl, Nat.le_refl _⟩ (fun i H' _ ⟨l, e, _⟩ => by rw [e]; exact (sC _).seq hS) ?_ ?_
      · rintro i y H' hi ⟨c, rfl, hz⟩
        obtain ⟨z, rfl, hil⟩ := item hi
        refine ⟨rfl, ?_⟩
        refine ⟨_, rfl, _, rfl, _, upd_same, by rw [List.length_map]; exact small hz hil, c ++ [if z < 0 then -z else z], ?_, by rw [List.length_append]; exact Nat.succ_le_succ hz⟩
        rw [upd_upd, List.map_append]
        rfl
      · rintro H' ⟨c, rfl, hz⟩
        refine ⟨by rw [upd_ne nCp.symm, upd_same], drawKvs ⟨p, L, C⟩ 0 0, rfl, (by show 4 ≤ 15; decide), ?_⟩
        rw [draw_merge]
        have hnp : H p = none := by rw [upd_ne npL] at hp; exact hp
        refine k ⟨p, L, C⟩ _ ⟨l, 0, c, 0, ⟨upd_same, ?_, ?_, nCL.symm⟩, hl, Int.le_refl _⟩ (fun b o e => ?_) hnp nL
        · rw [upd_ne npL.symm, upd_ne nCL.symm, upd_ne npL.symm, upd_same]
        · rw [upd_ne nCp, upd_same]
        · have b1 : b ≠ p := ne_of_none e hnp
          have b2 : b ≠ L := ne_of_none e nL
          exact hid_of (by rw [upd_ne b1]; exact sC _ b o e) b1 b2
end
abbrev sPick : Stmt := topS 43
abbrev nPick : List Str := ["_law_draw", "_law_some"]
theorem scPick : FnScope nPick ["_law_draw", "_law_some"] (defScope sPick) := ⟨rfl, rfl, rfl, by decide +kernel, rfl, by decide +kernel, by decide +kernel⟩
section
variable {P : Program} {w : World} {K : PySem.W.Frag} {mg : Str → Option Value} {base : Heap} {f fT fM : Addr} {fd fdT fdM : FuncData}
theorem ok_pick (F : FnP K "_law_pick" sPick f fd) (FT : FnP K "_law_take" sTake fT fdT) (GT : FnOk P w K mg base CX0 2 fT fdT ["_law_draw", "_law_amount"] spTake) (gT : mg "_law_take" = some (.ref fT)) (gL : mg "len" = none) : FnOk P w K mg base CX0 3 f fd ["_law_draw", "_law_some"] spPick := by
  have bT : Binds K fdT ["_law_draw", "_law_amount"] [] := FT.bindsN fun _ _ _ _ _ _ us hl => match us, hl with | [_, _], _ => rfl
  refine F.ok scPick (fun vs H Q E h => ?_) (fun cdv A outer s H vs Q E hr h => ?_)
  · obtain ⟨D, a, xs, rfl, _⟩ := h
    rfl
  · obtain ⟨D, a, xs, rfl, dk, ha, h0, h1, k⟩ := h
    refine ⟨_, PSs.nox (pss_one (ps_ret (pe_ix ix_list (pv 1) (pe_call GT hr rfl gT FT.kp bT .nil pass0 (pa_cons (pv 0) (pa_cons (pe_callB call_len_seq (by rfl) gL PySem.boot_len (pa_cons (pv 1) pa_nil)) pa_nil))) (fun _ _ => rfl)))), ?_⟩
    have ha0 := (hid_sub ha).1
    refine ⟨_, rfl, _, rfl, _, rfl, a, xs, rfl, .inl (SqL.of ha0), D, (xs.length : Int), rfl, dk, by omega, by omega, fun r H' r0 r1 dk' s => ?_⟩
    have hi : r.toNat < xs.length := by omega
    refine ⟨a, xs, r, xs[r.toNat], rfl, rfl, SqL.of (hid_le _ _ (s _ _ ha)), ?_, k r.toNat _ H' (List.getElem?_eq_getElem hi) dk' s⟩
    exact at_of (j := r.toNat) (by omega) (List.getElem?_eq_getElem hi)
end
end Tk00

set_option Elab.async false
set_option linter.all false
set_option maxRecDepth 100000
set_option maxHeartbeats 4000000
namespace Hd
open PySem PySem.Spec PyProof.Rows L2 Tk00
def bareN : List Str := ["BadPrime", "BadTable", "BadRim", "BadSeam", "BadKind", "BadOrder", "NoTurns", "BadRule", "BadCovering", "BadRow", "NotClean", "NotSplit", "NotChained", "BadWeb", "BadPlan", "BadEnd", "NoZips", "NoWindow", "NoCentre", "BadMove", "BadDeed", "NothingLeft", "BadName", "BadLive"]
def iniL : List Hy.IniD := [
  ⟨"BadNumber", "part", "a number is wrong", "BadNumber.__init__", ⟨10, 17, 10, 21⟩, ⟨10, 23, 10, 27⟩, ⟨⟨11, 8, 11, 13⟩, ⟨11, 8, 11, 15⟩, ⟨11, 8, 11, 24⟩, ⟨11, 25, 11, 44⟩, ⟨11, 8, 11, 45⟩, ⟨11, 8, 11, 45⟩, ⟨12, 8, 12, 12⟩, ⟨12, 8, 12, 17⟩, ⟨12, 20, 12, 24⟩, ⟨12, 8, 12, 24⟩⟩⟩,
  ⟨"BadCutting", "part", "a part of a cutting is wrong, or it is no cutting", "BadCutting.__init__", ⟨15, 17, 15, 21⟩, ⟨15, 23, 15, 27⟩, ⟨⟨16, 8, 16, 13⟩, ⟨16, 8, 16, 15⟩, ⟨16, 8, 16, 24⟩, ⟨16, 25, 16, 76⟩, ⟨16, 8, 16, 77⟩, ⟨16, 8, 16, 77⟩, ⟨17, 8, 17, 12⟩, ⟨17, 8, 17, 17⟩, ⟨17, 20, 17, 24⟩, ⟨17, 8, 17, 24⟩⟩⟩,
  ⟨"BadBook", "part", "a part of a book is wrong, or it is no book", "BadBook.__init__", ⟨28, 17, 28, 21⟩, ⟨28, 23, 28, 27⟩, ⟨⟨29, 8, 29, 13⟩, ⟨29, 8, 29, 15⟩, ⟨29, 8, 29, 24⟩, ⟨29, 25, 29, 70⟩, ⟨29, 8, 29, 71⟩, ⟨29, 8, 29, 71⟩, ⟨30, 8, 30, 12⟩, ⟨30, 8, 30, 17⟩, ⟨30, 20, 30, 24⟩, ⟨30, 8, 30, 24⟩⟩⟩,
  ⟨"NotEven", "rule", "a rule does not hold", "NotEven.__init__", ⟨35, 17, 35, 21⟩, ⟨35, 23, 35, 27⟩, ⟨⟨36, 8, 36, 13⟩, ⟨36, 8, 36, 15⟩, ⟨36, 8, 36, 24⟩, ⟨36, 25, 36, 47⟩, ⟨36, 8, 36, 48⟩, ⟨36, 8, 36, 48⟩, ⟨37, 8, 37, 12⟩, ⟨37, 8, 37, 17⟩, ⟨37, 20, 37, 24⟩, ⟨37, 8, 37, 24⟩⟩⟩,
  ⟨"TooMany", "most", "there are too many", "TooMany.__init__", ⟨42, 17, 42, 21⟩, ⟨42, 23, 42, 27⟩, ⟨⟨43, 8, 43, 13⟩, ⟨43, 8, 43, 15⟩, ⟨43, 8, 43, 24⟩, ⟨43, 25, 43, 45⟩, ⟨43, 8, 43, 46⟩, ⟨43, 8, 43, 46⟩, ⟨44, 8, 44, 12⟩, ⟨44, 8, 44, 17⟩, ⟨44, 20, 44, 24⟩, ⟨44, 8, 44, 24⟩⟩⟩,
  ⟨"BadGroup", "part", "a part of a group is wrong, or it is no group", "BadGroup.__init__", ⟨47, 17, 47, 21⟩, ⟨47, 23, 47, 27⟩, ⟨⟨48, 8, 48, 13⟩, ⟨48, 8, 48, 15⟩, ⟨48, 8, 48, 24⟩, ⟨48, 25, 48, 72⟩, ⟨48, 8, 48, 73⟩, ⟨48, 8, 48, 73⟩, ⟨49, 8, 49, 12⟩, ⟨49, 8, 49, 17⟩, ⟨49, 20, 49, 24⟩, ⟨49, 8, 49, 24⟩⟩⟩,
  ⟨"BadStep", "at", "a step that cannot be done, or no walk", "BadStep.__init__", ⟨62, 17, 62, 21⟩, ⟨62, 23, 62, 25⟩, ⟨⟨63, 8, 63, 13⟩, ⟨63, 8, 63, 15⟩, ⟨63, 8, 63, 24⟩, ⟨63, 25, 63, 65⟩, ⟨63, 8, 63, 66⟩, ⟨63, 8, 63, 66⟩, ⟨64, 8, 64, 12⟩, ⟨64, 8, 64, 15⟩, ⟨64, 18, 64, 20⟩, ⟨64, 8, 64, 20⟩⟩⟩,
  ⟨"BadWeave", "part", "a part of a weave is wrong, or it is no weave", "BadWeave.__init__", ⟨71, 17, 71, 21⟩, ⟨71, 23, 71, 27⟩, ⟨⟨72, 8, 72, 13⟩, ⟨72, 8, 72, 15⟩, ⟨72, 8, 72, 24⟩, ⟨72, 25, 72, 72⟩, ⟨72, 8, 72, 73⟩, ⟨72, 8, 72, 73⟩, ⟨73, 8, 73, 12⟩, ⟨73, 8, 73, 17⟩, ⟨73, 20, 73, 24⟩, ⟨73, 8, 73, 24⟩⟩⟩,
  ⟨"BadStrips", "part", "a part of strips is wrong, or there are none such", "BadStrips.__init__", ⟨76, 17, 76, 21⟩, ⟨76, 23, 76, 27⟩, ⟨⟨77, 8, 77, 13⟩, ⟨77, 8, 77, 15⟩, ⟨77, 8, 77, 24⟩, ⟨77, 25, 77, 76⟩, ⟨77, 8, 77, 77⟩, ⟨77, 8, 77, 77⟩, ⟨78, 8, 78, 12⟩, ⟨78, 8, 78, 17⟩, ⟨78, 20, 78, 24⟩, ⟨78, 8, 78, 24⟩⟩⟩,
  ⟨"BadTiling", "part", "a part of a tiling is wrong, or it is no tiling", "BadTiling.__init__", ⟨89, 17, 89, 21⟩, ⟨89, 23, 89, 27⟩, ⟨⟨90, 8, 90, 13⟩, ⟨90, 8, 90, 15⟩, ⟨90, 8, 90, 24⟩, ⟨90, 25, 90, 74⟩, ⟨90, 8, 90, 75⟩, ⟨90, 8, 90, 75⟩, ⟨91, 8, 91, 12⟩, ⟨91, 8, 91, 17⟩, ⟨91, 20, 91, 24⟩, ⟨91, 8, 91, 24⟩⟩⟩,
  ⟨"NotFirm", "rule", "the book is not firm: this tile rule does not hold", "NotFirm.__init__", ⟨96, 17, 96, 21⟩, ⟨96, 23, 96, 27⟩, ⟨⟨97, 8, 97, 13⟩, ⟨97, 8, 97, 15⟩, ⟨97, 8, 97, 24⟩, ⟨97, 25, 97, 77⟩, ⟨97, 8, 97, 78⟩, ⟨97, 8, 97, 78⟩, ⟨98, 8, 98, 12⟩, ⟨98, 8, 98, 17⟩, ⟨98, 20, 98, 24⟩, ⟨98, 8, 98, 24⟩⟩⟩,
  ⟨"NoMark", "name", "nothing has this name", "NoMark.__init__", ⟨107, 17, 107, 21⟩, ⟨107, 23, 107, 27⟩, ⟨⟨108, 8, 108, 13⟩, ⟨108, 8, 108, 15⟩, ⟨108, 8, 108, 24⟩, ⟨108, 25, 108, 48⟩, ⟨108, 8, 108, 49⟩, ⟨108, 8, 108, 49⟩, ⟨109, 8, 109, 12⟩, ⟨109, 8, 109, 17⟩, ⟨109, 20, 109, 24⟩, ⟨109, 8, 109, 24⟩⟩⟩,
  ⟨"BadText", "at", "a text is wrong from this line on", "BadText.__init__", ⟨112, 17, 112, 21⟩, ⟨112, 23, 112, 25⟩, ⟨⟨113, 8, 113, 13⟩, ⟨113, 8, 113, 15⟩, ⟨113, 8, 113, 24⟩, ⟨113, 25, 113, 60⟩, ⟨113, 8, 113, 61⟩, ⟨113, 8, 113, 61⟩, ⟨114, 8, 114, 12⟩, ⟨114, 8, 114, 15⟩, ⟨114, 18, 114, 20⟩, ⟨114, 8, 114, 20⟩⟩⟩]
def fillN : List Str := iniL.map (·.cls)
def errN : List Str := bareN ++ fillN
def d_law_begun : He.DefD := ⟨("_law_begun", none), "_law_begun", "_law_begun", defArgs (topS 40), defBody (topS 40), defScope (topS 40), [], []⟩
def d_law_mixed : He.DefD := ⟨("_law_mixed", none), "_law_mixed", "_law_mixed", defArgs (topS 41), defBody (topS 41), defScope (topS 41), [], []⟩
def d_law_take : He.DefD := ⟨("_law_take", none), "_law_take", "_law_take", defArgs (topS 42), defBody (topS 42), defScope (topS 42), [], []⟩
def d_law_pick : He.DefD := ⟨("_law_pick", none), "_law_pick", "_law_pick", defArgs (topS 43), defBody (topS 43), defScope (topS 43), [], []⟩
def d_law_any : He.DefD := ⟨("_law_any", none), "_law_any", "_law_any", defArgs (topS 44), defBody (topS 44), defScope (topS 44), [], []⟩
def d_law_flags : He.DefD := ⟨("_law_flags", none), "_law_flags", "_law_flags", defArgs (topS 45), defBody (topS 45), defScope (topS 45), [], []⟩
def d_law_bare : He.DefD := ⟨("_law_bare", none), "_law_bare", "_law_bare", defArgs (topS 46), defBody (topS 46), defScope (topS 46), [], []⟩
def d_law_filled : He.DefD := ⟨("_law_filled", none), "_law_filled", "_law_filled", defArgs (topS 47), defBody (topS 47), defScope (topS 47), [], []⟩
def dlaw : He.DefD := ⟨("law", none), "law", "law", defArgs (topS 48), defBody (topS 48), defScope (topS 48), [], []⟩
def fn : List He.DefD := [d_law_begun, d_law_mixed, d_law_take, d_law_pick, d_law_any, d_law_flags, d_law_bare, d_law_filled, dlaw]
def fa : List He.Fa := [.glo "_law_begun", .glo "_law_mixed", .glo "_law_take", .glo "_law_pick", .glo "_law_any", .glo "_law_flags", .glo "_law_bare", .glo "_law_filled", .glo "law", .glo "CutError", .glo "BadPrime", .glo "BadTable", .glo "BadRim", .glo "BadSeam", .glo "BadKind", .glo "BadOrder", .glo "NoTurns", .glo "BadRule", .glo "BadCovering", .glo "BadRow", .glo "NotClean", .glo "NotSplit", .glo "NotChained", .glo "BadWeb", .glo "BadPlan", .glo "BadEnd", .glo "NoZips", .glo "NoWindow", .glo "NoCentre", .glo "BadMove", .glo "BadDeed", .glo "NothingLeft", .glo "BadName", .glo "BadLive", .glo "BadNumber", .glo "BadCutting", .glo "BadBook", .glo "NotEven", .glo "TooMany", .glo "BadGroup", .glo "BadStep", .glo "BadWeave", .glo "BadStrips", .glo "BadTiling", .glo "NotFirm", .glo "NoMark", .glo "BadText", .free "abs", .free "int", .free "len", .free "isinstance", .free "repr", .free "range", .free "enumerate", .free "ValueError", .exc "CutError", .exc "BadPrime", .exc "BadTable", .exc "BadRim", .exc "BadSeam", .exc "BadKind", .exc "BadOrder", .exc "NoTurns", .exc "BadRule", .exc "BadCovering", .exc "BadRow", .exc "NotClean", .exc "NotSplit", .exc "NotChained", .exc "BadWeb", .exc "BadPlan", .exc "BadEnd", .exc "NoZips", .exc "NoWindow", .exc "NoCentre", .exc "BadMove", .exc "BadDeed", .exc "NothingLeft", .exc "BadName", .exc "BadLive"]
def allN : List Str := ("CutError" : Str) :: errN
def ex (K : PySem.W.Frag) : Bool := (allN.all fun x => Hy.ercB K (He.ga K x)) && (allN.all fun x => (decide (PySem.W.kitOne K (.ref (He.ga K x)) (.type "ValueError") = some true)) &&
  allN.all fun y => decide (PySem.W.kitOne K (.ref (He.ga K x)) (.ref (He.ga K y)) = some (decide (x = y) || decide (y = "CutError"))))
abbrev R : PySem.W.OpenRow := PySem.W.OpenLaw.row PySem.Challenge.rw_howevercut_k00_errors_of_all_parts
abbrev hk : PySem.W.Hook := Hy.hookY PR 4 fa fn iniL ex
def ob (s : PySem.W.SharedT) : Hy.AlY := Hy.obY PR 4 fa fn iniL ex (HandSHeadRun.getT s)
theorem ob_eq (s : PySem.W.SharedT) : ob s = hk.obs s.abs := Hy.obY_eq (HandSHeadRun.getT_eq s)
def l0 : List Str := ["CutError", "BadPrime", "BadTable", "BadNumber", "BadCutting", "BadRim", "BadSeam", "BadKind", "BadOrder", "BadBook", "NoTurns", "NotEven", "BadRule", "TooMany", "BadGroup", "BadCovering", "BadRow", "NotClean", "NotSplit", "NotChained"]
def l1 : List Str := ["BadStep", "BadWeb", "BadPlan", "BadWeave", "BadStrips", "BadEnd", "NoZips", "NoWindow", "NoCentre", "BadTiling", "BadMove", "NotFirm", "BadDeed", "NothingLeft", "BadName", "NoMark", "BadText", "BadLive", "_law_begun", "_law_mixed"]
def l2 : List Str := ["_law_take", "_law_pick", "_law_any", "_law_flags", "_law_bare", "_law_filled"]
def loose : List Str := l0 ++ l1 ++ l2
theorem run (w : World) : HandSHeadRun.RunEq R (PySem.W.view R.prog [48]) hk ob 100000 loose w := by
  intro os
  kernel_rfl
end Hd

set_option Elab.async false
set_option linter.all false
set_option maxRecDepth 100000
set_option maxHeartbeats 4000000
namespace Tk00
open PySem PySem.Spec PyProof.Rows L2
def flagsL : List (List Str) := [["BadPrime", "BadTable", "BadRim"], ["BadSeam", "BadKind", "BadOrder"], ["NoTurns", "BadRule", "BadCovering"], ["BadRow", "NotClean", "NotSplit"], ["NotChained", "BadWeb", "BadPlan"], ["BadEnd", "NoZips", "NoWindow"], ["NoCentre", "BadMove", "BadDeed"], ["NothingLeft", "BadName", "BadLive"], ["BadNumber", "BadCutting", "BadBook"], ["NotEven", "TooMany", "BadGroup"], ["BadStep", "BadWeave", "BadStrips"], ["BadTiling", "NotFirm", "NoMark"], ["BadText"]]
def bareL : List (List Str) := [["BadPrime", "BadTable", "BadRim", "BadSeam", "BadKind"], ["BadOrder", "NoTurns", "BadRule", "BadCovering", "BadRow"], ["NotClean", "NotSplit", "NotChained", "BadWeb", "BadPlan"], ["BadEnd", "NoZips", "NoWindow", "NoCentre", "BadMove"], ["BadDeed", "NothingLeft", "BadName", "BadLive"]]
def fillL : List (Str × Str) := [("BadNumber", "part"), ("BadCutting", "part"), ("BadBook", "part"), ("NotEven", "rule"), ("TooMany", "most"), ("BadGroup", "part"), ("BadStep", "at"), ("BadWeave", "part"), ("BadStrips", "part"), ("BadTiling", "part"), ("NotFirm", "rule"), ("NoMark", "name"), ("BadText", "at")]
/-! ### _law_any -/
abbrev sAny : Stmt := topS 44
abbrev nAny : List Str := ["_law_draw", "_law_some"]
theorem scAny : FnScope nAny ["_law_draw"] (defScope sAny) := ⟨rfl, rfl, rfl, by decide +kernel, rfl, by decide +kernel, by decide +kernel⟩
def anyD : List PyData := [.none, .bool true, .int 7, .int (-(10 ^ (40 : Int).toNat)), .str "", .str "seam", .str "two words", .list [], .list [.tuple [.int 1, .int 0]], .tuple [], .tuple [.int 2, .int 5], .dict [], .dict [(.str "b", .list [.int 1])], .list [.tuple []]]
def okD (d : PyData) : Bool := (PyData.list [d, d]).showable && decide ((PyData.list [d, d]).depth ≤ 50) && decide ((PyData.list [d, d]).shown.length ≤ 1000)
theorem any_okD : anyD.all okD = true := by decide +kernel
theorem okD_of {d : PyData} (h : okD d = true) : (PyData.list [d, d]).showable = true ∧ (PyData.list [d, d]).depth ≤ 50 ∧ (PyData.list [d, d]).shown.length ≤ 1000 := by
  obtain ⟨h1, h3⟩ := Bool.and_eq_true_iff.mp h
  obtain ⟨h1, h2⟩ := Bool.and_eq_true_iff.mp h1
  exact ⟨h1, of_decide_eq_true h2, of_decide_eq_true h3⟩
def spAny : Sp := fun vs H Q _ => ∃ D : DrA, vs = [.ref D.d] ∧ DrOk D H ∧ ∀ v d H', Dx (hid D H') v d → okD d = true → DrOk D H' → Same (hid D H) (hid D H') → Q v H'
theorem DxAll.get {H : Hp} : ∀ {vs : List V} {ds : List PyData} {i : Nat} {v : V}, DxAll H vs ds → vs[i]? = some v → ∃ d ∈ ds, Dx H v d
  | _, _, _, _, .nil, h => by cases h
  | _ :: _, d :: _, 0, _, .cons a _, h => by
    cases h
    exact ⟨d, List.mem_cons_self .., a⟩
  | _ :: _, _ :: _, i + 1, _, .cons _ b, h => by
    obtain ⟨d, hm, hd⟩ := DxAll.get (i := i) b h
    exact ⟨d, List.mem_cons_of_mem _ hm, hd⟩
theorem Same.upd3 {H : Hp} {p q : Addr} {o1 o2 o3 : HO} (h : H p = none) (h2 : L2.upd H p o1 q = none) : Same H (L2.upd (L2.upd (L2.upd H p o1) q o2) p o3) := fun b u e => by
  have h1 : b ≠ p := ne_of_none e h
  rw [upd_ne h1]
  exact (Same.upd h2) b u ((Same.upd h) b u e)
section
variable {P : Program} {w : World} {K : PySem.W.Frag} {mg : Str → Option Value} {base : Heap} {f fP : Addr} {fd fdP : FuncData}
theorem ok_any (F : FnP K "_law_any" sAny f fd) (FP : FnP K "_law_pick" sPick fP fdP) (GP : FnOk P w K mg base CX0 3 fP fdP ["_law_draw", "_law_some"] spPick) (gP : mg "_law_pick" = some (.ref fP)) : FnOk P w K mg base CX0 4 f fd ["_law_draw"] spAny := by
  have bP : Binds K fdP ["_law_draw", "_law_some"] [] := FP.bindsN fun _ _ _ _ _ _ us hl => match us, hl with | [_, _], _ => rfl
  refine F.ok scAny (fun vs H Q E h => ?_) (fun cdv A outer s H vs Q E hr h => ?_)
  · obtain ⟨D, rfl, _⟩ := h
    rfl
  · obtain ⟨D, rfl, dk, k⟩ := h
    refine ⟨_, PSs.nox (pss_cons (ps_set (i := 1) scAny.nd rfl (Or.inl rfl) (pe_lst (pa_cons pe_non (pa_cons pe_bl (pa_cons pe_int (pa_cons (pe_un un_neg (pe_op op_pow pe_int pe_int)) (pa_cons pe_str (pa_cons pe_str (pa_cons pe_str
      (pa_cons (pe_lst pa_nil) (pa_cons (pe_lst (pa_cons (pe_tup (pa_cons pe_int (pa_cons pe_int pa_nil))) pa_nil)) (pa_cons (pe_tup pa_nil) (pa_cons (pe_tup (pa_cons pe_int (pa_cons pe_int pa_nil))) (pa_cons pe_dnewK
      (pa_cons (pe_disp (pps_cons pe_str (pe_lst (pa_cons pe_int pa_nil)) pps_nil) (by rfl) (by rfl) (fun z => by cases z) (by decide)) (pa_cons (pe_lst (pa_cons (pe_tup pa_nil) pa_nil)) pa_nil))))))))))))))))
      (pss_one (ps_ret (pe_call GP hr rfl gP FP.kp bP .nil pass0 (pa_cons (pv 0) (pa_cons (pv 1) pa_nil)))))), ?_⟩
    have z0 : (0 : Nat) ≤ sizeLine := Nat.zero_le _
    have z1 : (1 : Nat) ≤ sizeLine := by rw [sizeLine_eq]; omega
    have z2 : (2 : Nat) ≤ sizeLine := by rw [sizeLine_eq]; omega
    refine ⟨_, _, rfl, rfl, ⟨by decide, by decide, by decide⟩, _, rfl, ?_⟩
    refine ⟨z0, fun p1 n1 => ⟨z2, fun p2 n2 => ⟨z1, fun p3 n3 => ⟨z0, fun p4 n4 => ⟨z2, fun p5 n5 => fun p6 n6 p7 n7 => ⟨z1, fun p8 n8 => ?_⟩⟩⟩⟩⟩⟩
    refine ⟨by rw [upd_ne (ne_of_none upd_same n8)]; exact upd_same, [(.inr "b", .ref p8)], rfl, (show 1 ≤ 15 by decide), ⟨z0, fun p9 n9 => ⟨z1, fun p10 n10 => ⟨(by rw [sizeLine_eq]; show 14 ≤ _; omega), fun p11 n11 => ?_⟩⟩⟩⟩
    have s1 := Same.upd n1 (o := .lst [])
    have s2 := Same.upd n2 (o := .tup [.int 1, .int 0])
    have s3 := Same.upd n3 (o := .lst [.ref p2])
    have s4 := Same.upd n4 (o := .tup [])
    have s5 := Same.upd n5 (o := .tup [.int 2, .int 5])
    have s6 := Same.upd n6 (o := .dK [])
    have s78 := Same.upd3 n7 n8 (o1 := .dK []) (o2 := .lst [.int 1]) (o3 := .dK (mergeK [] [(.inr "b", .ref p8)]))
    have s9 := Same.upd n9 (o := .tup [])
    have s10 := Same.upd n10 (o := .lst [.ref p9])
    have d1 := dk.same s1
    have d2 := d1.same s2
    have d3 := d2.same s3
    have d4 := d3.same s4
    have d5 := d4.same s5
    have d6 := d5.same s6
    have d7 := d6.same s78
    have d9 := d7.same s9
    have d10 := d9.same s10
    have d11 := d10.same (Same.upd n11 (o := .lst [.non, .bl true, .int 7, .int (-(10 ^ (40 : Int).toNat)), .str "", .str "seam", .str "two words", .ref p1, .ref p3, .ref p4, .ref p5, .ref p6, .ref p7, .ref p10]))
    have t11 := hid_same (D := D) (Same.upd n11 (o := .lst [.non, .bl true, .int 7, .int (-(10 ^ (40 : Int).toNat)), .str "", .str "seam", .str "two words", .ref p1, .ref p3, .ref p4, .ref p5, .ref p6, .ref p7, .ref p10]))
    have t10 := (hid_same (D := D) s10).trans t11
    have t9 := (hid_same (D := D) s9).trans t10
    have t78 := (hid_same (D := D) s78).trans t9
    have t6 := (hid_same (D := D) s6).trans t78
    have t5 := (hid_same (D := D) s5).trans t6
    have t4 := (hid_same (D := D) s4).trans t5
    have t3 := (hid_same (D := D) s3).trans t4
    have t2 := (hid_same (D := D) s2).trans t3
    have t1 := (hid_same (D := D) s1).trans t2
    have e1 := t2 _ _ (hid_new (D := D) n1 dk (o := .lst []))
    have e2 := t3 _ _ (hid_new n2 d1 (o := .tup [.int 1, .int 0]))
    have e3 := t4 _ _ (hid_new n3 d2 (o := .lst [.ref p2]))
    have e4 := t5 _ _ (hid_new n4 d3 (o := .tup []))
    have e5 := t6 _ _ (hid_new n5 d4 (o := .tup [.int 2, .int 5]))
    have e6 := t78 _ _ (hid_new n6 d5 (o := .dK []))
    have e7 := t9 p7 (.dK (mergeK [] [(.inr "b", .ref p8)])) (hid_of upd_same (d6.ne n7).1 (d6.ne n7).2)
    have e8 := t9 p8 (.lst [.int 1]) (hid_of (by rw [upd_ne (ne_of_none upd_same n8).symm]; exact upd_same) ((d6.upd n7).ne n8).1 ((d6.upd n7).ne n8).2)
    have e9 := t10 _ _ (hid_new n9 d7 (o := .tup []))
    have e10 := t11 _ _ (hid_new n10 d9 (o := .lst [.ref p9]))
    have e11 := hid_new n11 d10 (o := .lst [.non, .bl true, .int 7, .int (-(10 ^ (40 : Int).toNat)), .str "", .str "seam", .str "two words", .ref p1, .ref p3, .ref p4, .ref p5, .ref p6, .ref p7, .ref p10])
    have A : ∀ {H' : Hp}, Same (hid D _) (hid D H') → DxAll (hid D H') [.non, .bl true, .int 7, .int (-(10 ^ (40 : Int).toNat)), .str "", .str "seam", .str "two words", .ref p1, .ref p3, .ref p4, .ref p5, .ref p6, .ref p7, .ref p10] anyD := fun {H'} sm =>
      DxAll.same sm _ _ (.cons .non (.cons (.bl true) (.cons (.int 7) (.cons (.int _) (.cons (.str _) (.cons (.str _) (.cons (.str _) (.cons (.lst e1 .nil) (.cons (.lst e3 (.cons (.tup e2 (.cons (.int 1) (.cons (.int 0) .nil))) .nil))
        (.cons (.tup e4 .nil) (.cons (.tup e5 (.cons (.int 2) (.cons (.int 5) .nil))) (.cons (.dct e6 .nil) (.cons (.dct (kvs := [(.inr "b", .ref p8)]) e7 (.cons (.lst e8 (.cons (.int 1) .nil)) .nil)) (.cons (.lst e10 (.cons (.tup e9 .nil) .nil)) .nil))))))))))))))
    refine ⟨_, rfl, _, rfl, D, p11, _, rfl, d11, e11, (show 0 < 14 by decide), (show 14 < 1000000 by decide), fun i v H' hv dk' sm => ?_⟩
    obtain ⟨d, hm, hd⟩ := DxAll.get (A sm) hv
    exact k v d H' hd (List.all_eq_true.mp any_okD d hm) dk' (t1.trans sm)
end
/-! ### _law_flags -/
abbrev sFlags : Stmt := topS 45
abbrev nF : List Str := ["_law_error", "_law_found"]
theorem scFl : FnScope nF ["_law_error"] (defScope sFlags) := ⟨rfl, rfl, rfl, by decide +kernel, rfl, by decide +kernel, by decide +kernel⟩
section
variable {K : PySem.W.Frag} {H : Hp}
abbrev tFl (K : PySem.W.Frag) (x : Str) : TE := tCB (rIsX K) (tCons (tVar 0) (tCons (tC (.ref (He.ga K x))) tNil))
def tFlL (K : PySem.W.Frag) : List Str → TA
  | [] => tNil
  | c :: cs => tCons (tFl K c) (tFlL K cs)
def tFlS (K : PySem.W.Frag) : List (List Str) → TS
  | [] => tRet (tVar 1)
  | c :: cs => tSeq (tAsg (tOp rCat (tVar 1) (tLst (tFlL K c))) (gName 1)) (tFlS K cs)
theorem flL_run {a C : Addr} {fs : List (Str × V)} {l : Option V} {b : Str → Bool} (he : ErrAt H a C fs) (T : ErC K C) : ∀ (cs : List Str) (Q : List V → Hp → Prop), (∀ c ∈ cs, PySem.W.kitOne K (.ref C) (.ref (He.ga K c)) = some (b c)) →
    Q (cs.map fun c => .bl (b c)) H → tFlL K cs [some (.ref a), l] H Q
  | [], Q, _, q => q
  | c :: cs, Q, hk, q => ⟨_, rfl, a, C, fs, .ref (He.ga K c), .ref (He.ga K c), b c, rfl, he, T, fun u r => r, hk c (List.mem_cons_self ..), flL_run he T cs _ (fun d hd => hk d (List.mem_cons_of_mem _ hd)) q⟩
theorem flS_run {a C : Addr} {fs : List (Str × V)} {b : Str → Bool} {D : Ends} (T : ErC K C) :
    ∀ (css : List (List Str)) (l : Addr) (xs : List V) (H1 : Hp), Same H H1 → ErrAt H1 a C fs → H1 l = some (.lst xs) → (∀ cs ∈ css, ∀ c ∈ cs, PySem.W.kitOne K (.ref C) (.ref (He.ga K c)) = some (b c)) → xs.length + css.flatten.length ≤ 100 →
    (∀ p H', Same H H' → H' p = some (.lst (xs ++ css.flatten.map fun c => .bl (b c))) → D.rt (.ref p) H') → tFlS K css D [some (.ref a), some (.ref l)] H1
  | [], l, xs, H1, sm, he, hl, _, _, q => ⟨_, rfl, q l H1 sm (by rw [List.flatten_nil, List.map_nil, List.append_nil]; exact hl)⟩
  | c :: css, l, xs, H1, sm, he, hl, hk, hz, q => by
    have hz' : xs.length + (c.length + css.flatten.length) ≤ 100 := by rw [List.flatten_cons, List.length_append] at hz; exact hz
    have hs : 100 ≤ sizeLine := by rw [sizeLine_eq]; omega
    refine ⟨_, rfl, flL_run (b := b) he T c _ (hk c (List.mem_cons_self ..)) ⟨by rw [List.length_map]; omega, fun p np => ?_⟩⟩
    refine ⟨l, p, xs, _, rfl, rfl, (Same.upd np) _ _ hl, upd_same, by rw [List.length_map]; omega, fun p2 n2 => ?_⟩
    refine flS_run T css p2 _ _ ((sm.trans (Same.upd np)).trans (Same.upd n2)) ((he.same (Same.upd np)).same (Same.upd n2)) upd_same (fun cs hc => hk cs (List.mem_cons_of_mem _ hc)) (by rw [List.length_append, List.length_map]; omega) fun p3 H' s3 h3 => q p3 H' s3 ?_
    rw [h3, List.flatten_cons, List.map_append, List.append_assoc]
end
def spFlags (K : PySem.W.Frag) : Sp := fun vs H Q _ => ∃ (a C : Addr) (fs : List (Str × V)) (b : Str → Bool), vs = [.ref a] ∧ ErrAt H a C fs ∧ ErC K C ∧ (∀ x ∈ flagsL.flatten, PySem.W.kitOne K (.ref C) (.ref (He.ga K x)) = some (b x)) ∧
  ∀ p H', Same H H' → H' p = some (.lst (flagsL.flatten.map fun x => .bl (b x))) → Q (.ref p) H'
section
variable {P : Program} {w : World} {K : PySem.W.Frag} {mg : Str → Option Value} {base : Heap} {f : Addr} {fd : FuncData}
theorem ok_flags (F : FnP K "_law_flags" sFlags f fd) (gI : mg "isinstance" = none) (g : ∀ x, x ∈ flagsL.flatten → mg x = some (.ref (He.ga K x))) : FnOk P w K mg base CX0 1 f fd ["_law_error"] (spFlags K) := by
  have scF := scFl
  refine F.ok scFl (fun vs H Q E h => ?_) (fun cdv A outer s H vs Q E hr h => ?_)
  · obtain ⟨a, C, fs, b, rfl, _⟩ := h
    rfl
  · obtain ⟨a, C, fs, b, rfl, he, T, hk, q⟩ := h
    refine ⟨_, PSs.nox (pss_cons (ps_set (i := 1) scF.nd rfl (Or.inl rfl) (pe_lst pa_nil))
  (pss_cons (ps_set (i := 1) scF.nd rfl (Or.inl rfl) (pe_op op_cat (pv 1) (pe_lst (pa_cons (pe_callB call_isX (by rfl) gI (by decide +kernel) (pa_cons (pv 0) (pa_cons (pe_glob (v := .ref (He.ga K "BadPrime")) (by rfl) (g "BadPrime" (by decide +kernel)) rfl) pa_nil))) (pa_cons (pe_callB call_isX (by rfl) gI (by decide +kernel) (pa_cons (pv 0) (pa_cons (pe_glob (v := .ref (He.ga K "BadTable")) (by rfl) (g "BadTable" (by decide +kernel)) rfl) pa_nil))) (pa_cons (pe_callB call_isX (by rfl) gI (by decide +kernel) (pa_cons (pv 0) (pa_cons (pe_glob (v := .ref (He.ga K "BadRim")) (by rfl) (g "BadRim" (by decide +kernel)) rfl) pa_nil))) pa_nil))))))
  (pss_cons (ps_set (i := 1) scF.nd rfl (Or.inl rfl) (pe_op op_cat (pv 1) (pe_lst (pa_cons (pe_callB call_isX (by rfl) gI (by decide +kernel) (pa_cons (pv 0) (pa_cons (pe_glob (v := .ref (He.ga K "BadSeam")) (by rfl) (g "BadSeam" (by decide +kernel)) rfl) pa_nil))) (pa_cons (pe_callB call_isX (by rfl) gI (by decide +kernel) (pa_cons (pv 0) (pa_cons (pe_glob (v := .ref (He.ga K "BadKind")) (by rfl) (g "BadKind" (by decide +kernel)) rfl) pa_nil))) (pa_cons (pe_callB call_isX (by rfl) gI (by decide +kernel) (pa_cons (pv 0) (pa_cons (pe_glob (v := .ref (He.ga K "BadOrder")) (by rfl) (g "BadOrder" (by decide +kernel)) rfl) pa_nil))) pa_nil))))))
  (pss_cons (ps_set (i := 1) scF.nd rfl (Or.inl rfl) (pe_op op_cat (pv 1) (pe_lst (pa_cons (pe_callB call_isX (by rfl) gI (by decide +kernel) (pa_cons (pv 0) (pa_cons (pe_glob (v := .ref (He.ga K "NoTurns")) (by rfl) (g "NoTurns" (by decide +kernel)) rfl) pa_nil))) (pa_cons (pe_callB call_isX (by rfl) gI (by decide +kernel) (pa_cons (pv 0) (pa_cons (pe_glob (v := .ref (He.ga K "BadRule")) (by rfl) (g "BadRule" (by decide +kernel)) rfl) pa_nil))) (pa_cons (pe_callB call_isX (by rfl) gI (by decide +kernel) (pa_cons (pv 0) (pa_cons (pe_glob (v := .ref (He.ga K "BadCovering")) (by rfl) (g "BadCovering" (by decide +kernel)) rfl) pa_nil))) pa_nil))))))
  (pss_cons (ps_set (i := 1) scF.nd rfl (Or.inl rfl) (pe_op op_cat (pv 1) (pe_lst (pa_cons (pe_callB call_isX (by rfl) gI (by decide +kernel) (pa_cons (pv 0) (pa_cons (pe_glob (v := .ref (He.ga K "BadRow")) (by rfl) (g "BadRow" (by decide +kernel)) rfl) pa_nil))) (pa_cons (pe_callB call_isX (by rfl) gI (by decide +kernel) (pa_cons (pv 0) (pa_cons (pe_glob (v := .ref (He.ga K "NotClean")) (by rfl) (g "NotClean" (by decide +kernel)) rfl) pa_nil))) (pa_cons (pe_callB call_isX (by rfl) gI (by decide +kernel) (pa_cons (pv 0) (pa_cons (pe_glob (v := .ref (He.ga K "NotSplit")) (by rfl) (g "NotSplit" (by decide +kernel)) rfl) pa_nil))) pa_nil))))))
  (pss_cons (ps_set (i := 1) scF.nd rfl (Or.inl rfl) (pe_op op_cat (pv 1) (pe_lst (pa_cons (pe_callB call_isX (by rfl) gI (by decide +kernel) (pa_cons (pv 0) (pa_cons (pe_glob (v := .ref (He.ga K "NotChained")) (by rfl) (g "NotChained" (by decide +kernel)) rfl) pa_nil))) (pa_cons (pe_callB call_isX (by rfl) gI (by decide +kernel) (pa_cons (pv 0) (pa_cons (pe_glob (v := .ref (He.ga K "BadWeb")) (by rfl) (g "BadWeb" (by decide +kernel)) rfl) pa_nil))) (pa_cons (pe_callB call_isX (by rfl) gI (by decide +kernel) (pa_cons (pv 0) (pa_cons (pe_glob (v := .ref (He.ga K "BadPlan")) (by rfl) (g "BadPlan" (by decide +kernel)) rfl) pa_nil))) pa_nil))))))
  (pss_cons (ps_set (i := 1) scF.nd rfl (Or.inl rfl) (pe_op op_cat (pv 1) (pe_lst (pa_cons (pe_callB call_isX (by rfl) gI (by decide +kernel) (pa_cons (pv 0) (pa_cons (pe_glob (v := .ref (He.ga K "BadEnd")) (by rfl) (g "BadEnd" (by decide +kernel)) rfl) pa_nil))) (pa_cons (pe_callB call_isX (by rfl) gI (by decide +kernel) (pa_cons (pv 0) (pa_cons (pe_glob (v := .ref (He.ga K "NoZips")) (by rfl) (g "NoZips" (by decide +kernel)) rfl) pa_nil))) (pa_cons (pe_callB call_isX (by rfl) gI (by decide +kernel) (pa_cons (pv 0) (pa_cons (pe_glob (v := .ref (He.ga K "NoWindow")) (by rfl) (g "NoWindow" (by decide +kernel)) rfl) pa_nil))) pa_nil))))))
  (pss_cons (ps_set (i := 1) scF.nd rfl (Or.inl rfl) (pe_op op_cat (pv 1) (pe_lst (pa_cons (pe_callB call_isX (by rfl) gI (by decide +kernel) (pa_cons (pv 0) (pa_cons (pe_glob (v := .ref (He.ga K "NoCentre")) (by rfl) (g "NoCentre" (by decide +kernel)) rfl) pa_nil))) (pa_cons (pe_callB call_isX (by rfl) gI (by decide +kernel) (pa_cons (pv 0) (pa_cons (pe_glob (v := .ref (He.ga K "BadMove")) (by rfl) (g "BadMove" (by decide +kernel)) rfl) pa_nil))) (pa_cons (pe_callB call_isX (by rfl) gI (by decide +kernel) (pa_cons (pv 0) (pa_cons (pe_glob (v := .ref (He.ga K "BadDeed")) (by rfl) (g "BadDeed" (by decide +kernel)) rfl) pa_nil))) pa_nil))))))
  (pss_cons (ps_set (i := 1) scF.nd rfl (Or.inl rfl) (pe_op op_cat (pv 1) (pe_lst (pa_cons (pe_callB call_isX (by rfl) gI (by decide +kernel) (pa_cons (pv 0) (pa_cons (pe_glob (v := .ref (He.ga K "NothingLeft")) (by rfl) (g "NothingLeft" (by decide +kernel)) rfl) pa_nil))) (pa_cons (pe_callB call_isX (by rfl) gI (by decide +kernel) (pa_cons (pv 0) (pa_cons (pe_glob (v := .ref (He.ga K "BadName")) (by rfl) (g "BadName" (by decide +kernel)) rfl) pa_nil))) (pa_cons (pe_callB call_isX (by rfl) gI (by decide +kernel) (pa_cons (pv 0) (pa_cons (pe_glob (v := .ref (He.ga K "BadLive")) (by rfl) (g "BadLive" (by decide +kernel)) rfl) pa_nil))) pa_nil))))))
  (pss_cons (ps_set (i := 1) scF.nd rfl (Or.inl rfl) (pe_op op_cat (pv 1) (pe_lst (pa_cons (pe_callB call_isX (by rfl) gI (by decide +kernel) (pa_cons (pv 0) (pa_cons (pe_glob (v := .ref (He.ga K "BadNumber")) (by rfl) (g "BadNumber" (by decide +kernel)) rfl) pa_nil))) (pa_cons (pe_callB call_isX (by rfl) gI (by decide +kernel) (pa_cons (pv 0) (pa_cons (pe_glob (v := .ref (He.ga K "BadCutting")) (by rfl) (g "BadCutting" (by decide +kernel)) rfl) pa_nil))) (pa_cons (pe_callB call_isX (by rfl) gI (by decide +kernel) (pa_cons (pv 0) (pa_cons (pe_glob (v := .ref (He.ga K "BadBook")) (by rfl) (g "BadBook" (by decide +kernel)) rfl) pa_nil))) pa_nil))))))
  (pss_cons (ps_set (i := 1) scF.nd rfl (Or.inl rfl) (pe_op op_cat (pv 1) (pe_lst (pa_cons (pe_callB call_isX (by rfl) gI (by decide +kernel) (pa_cons (pv 0) (pa_cons (pe_glob (v := .ref (He.ga K "NotEven")) (by rfl) (g "NotEven" (by decide +kernel)) rfl) pa_nil))) (pa_cons (pe_callB call_isX (by rfl) gI (by decide +kernel) (pa_cons (pv 0) (pa_cons (pe_glob (v := .ref (He.ga K "TooMany")) (by rfl) (g "TooMany" (by decide +kernel)) rfl) pa_nil))) (pa_cons (pe_callB call_isX (by rfl) gI (by decide +kernel) (pa_cons (pv 0) (pa_cons (pe_glob (v := .ref (He.ga K "BadGroup")) (by rfl) (g "BadGroup" (by decide +kernel)) rfl) pa_nil))) pa_nil))))))
  (pss_cons (ps_set (i := 1) scF.nd rfl (Or.inl rfl) (pe_op op_cat (pv 1) (pe_lst (pa_cons (pe_callB call_isX (by rfl) gI (by decide +kernel) (pa_cons (pv 0) (pa_cons (pe_glob (v := .ref (He.ga K "BadStep")) (by rfl) (g "BadStep" (by decide +kernel)) rfl) pa_nil))) (pa_cons (pe_callB call_isX (by rfl) gI (by decide +kernel) (pa_cons (pv 0) (pa_cons (pe_glob (v := .ref (He.ga K "BadWeave")) (by rfl) (g "BadWeave" (by decide +kernel)) rfl) pa_nil))) (pa_cons (pe_callB call_isX (by rfl) gI (by decide +kernel) (pa_cons (pv 0) (pa_cons (pe_glob (v := .ref (He.ga K "BadStrips")) (by rfl) (g "BadStrips" (by decide +kernel)) rfl) pa_nil))) pa_nil))))))
  (pss_cons (ps_set (i := 1) scF.nd rfl (Or.inl rfl) (pe_op op_cat (pv 1) (pe_lst (pa_cons (pe_callB call_isX (by rfl) gI (by decide +kernel) (pa_cons (pv 0) (pa_cons (pe_glob (v := .ref (He.ga K "BadTiling")) (by rfl) (g "BadTiling" (by decide +kernel)) rfl) pa_nil))) (pa_cons (pe_callB call_isX (by rfl) gI (by decide +kernel) (pa_cons (pv 0) (pa_cons (pe_glob (v := .ref (He.ga K "NotFirm")) (by rfl) (g "NotFirm" (by decide +kernel)) rfl) pa_nil))) (pa_cons (pe_callB call_isX (by rfl) gI (by decide +kernel) (pa_cons (pv 0) (pa_cons (pe_glob (v := .ref (He.ga K "NoMark")) (by rfl) (g "NoMark" (by decide +kernel)) rfl) pa_nil))) pa_nil))))))
  (pss_cons (ps_set (i := 1) scF.nd rfl (Or.inl rfl) (pe_op op_cat (pv 1) (pe_lst (pa_cons (pe_callB call_isX (by rfl) gI (by decide +kernel) (pa_cons (pv 0) (pa_cons (pe_glob (v := .ref (He.ga K "BadText")) (by rfl) (g "BadText" (by decide +kernel)) rfl) pa_nil))) pa_nil))))
  (pss_one (ps_ret (pv 1))))))))))))))))), ?_⟩
    refine ⟨Nat.zero_le _, fun l nl => ?_⟩
    exact flS_run (H := H) T flagsL l [] _ (Same.upd nl) (he.same (Same.upd nl)) upd_same (fun cs hc c hm => hk c (List.mem_flatten.mpr ⟨cs, hc, hm⟩)) (by decide +kernel) q
end
/-! ### _law_bare -/
abbrev sBare : Stmt := topS 46
abbrev nB : List Str := ["_law_words_here", "_law_found"]
theorem scBa : FnScope nB ["_law_words_here"] (defScope sBare) := ⟨rfl, rfl, rfl, by decide +kernel, rfl, by decide +kernel, by decide +kernel⟩
/-- new errors of the classes named -/
inductive Errs (K : PySem.W.Frag) (H : Hp) : List V → List Str → Prop
  | nil : Errs K H [] []
  | cons {a : Addr} {vs : List V} {x : Str} {xs : List Str} : H a = some (exo a (He.ga K x) none) → Errs K H vs xs → Errs K H (.ref a :: vs) (x :: xs)
theorem Errs.same {K : PySem.W.Frag} {H H' : Hp} (s : Same H H') : ∀ {vs : List V} {xs : List Str}, Errs K H vs xs → Errs K H' vs xs
  | _, _, .nil => .nil
  | _, _, .cons a b => .cons (s _ _ a) (Errs.same s b)
theorem Errs.len {K : PySem.W.Frag} {H : Hp} : ∀ {vs : List V} {xs : List Str}, Errs K H vs xs → vs.length = xs.length
  | _, _, .nil => rfl
  | _, _, .cons a b => congrArg (· + 1) b.len
theorem Errs.append {K : PySem.W.Frag} {H : Hp} {us : List V} {ys : List Str} (b : Errs K H us ys) : ∀ {vs : List V} {xs : List Str}, Errs K H vs xs → Errs K H (vs ++ us) (xs ++ ys)
  | _, _, .nil => b
  | _, _, .cons a c => .cons a (Errs.append b c)
section
variable {K : PySem.W.Frag} {H : Hp}
abbrev tBa (K : PySem.W.Frag) (x : Str) : TE := tMkB (He.ga K x) (tVar 0)
def tBaL (K : PySem.W.Frag) : List Str → TA
  | [] => tNil
  | c :: cs => tCons (tBa K c) (tBaL K cs)
def tBaS (K : PySem.W.Frag) : List (List Str) → TS
  | [] => tRet (tVar 1)
  | c :: cs => tSeq (tAsg (tOp rCat (tVar 1) (tLst (tBaL K c))) (gName 1)) (tBaS K cs)
theorem baL_run {v : V} {l : Option V} : ∀ (cs : List Str) (Q : List V → Hp → Prop) (H1 : Hp), (∀ vs H2, Same H1 H2 → Errs K H2 vs cs → Q vs H2) → tBaL K cs [some v, l] H1 Q
  | [], Q, H1, q => q [] H1 (Same.refl _) .nil
  | c :: cs, Q, H1, q => ⟨_, rfl, fun a na => baL_run cs _ _ fun vs H2 sm he => q _ H2 ((Same.upd na).trans sm) (.cons (sm _ _ upd_same) he)⟩
theorem baS_run {v : V} {D : Ends} : ∀ (css : List (List Str)) (l : Addr) (xs : List V) (ns : List Str) (H1 : Hp), Same H H1 → H1 l = some (.lst xs) → Errs K H1 xs ns → ns.length + css.flatten.length ≤ 100 →
    (∀ p H' vs, Same H H' → H' p = some (.lst vs) → Errs K H' vs (ns ++ css.flatten) → D.rt (.ref p) H') → tBaS K css D [some v, some (.ref l)] H1
  | [], l, xs, ns, H1, sm, hl, he, _, q => ⟨_, rfl, q l H1 xs sm hl (by rw [List.flatten_nil, List.append_nil]; exact he)⟩
  | c :: css, l, xs, ns, H1, sm, hl, he, hz, q => by
    have hz' : ns.length + (c.length + css.flatten.length) ≤ 100 := by rw [List.flatten_cons, List.length_append] at hz; exact hz
    have hs : 100 ≤ sizeLine := by rw [sizeLine_eq]; omega
    refine ⟨_, rfl, baL_run c _ _ fun vs H2 s2 e2 => ⟨by rw [e2.len]; omega, fun p np => ?_⟩⟩
    have s3 := s2.trans (Same.upd np (o := .lst vs))
    refine ⟨l, p, xs, vs, rfl, rfl, s3 _ _ hl, upd_same, by rw [e2.len, he.len]; omega, fun p2 n2 => ?_⟩
    have s4 := s3.trans (Same.upd n2 (o := .lst (xs ++ vs)))
    refine baS_run css p2 _ (ns ++ c) _ (sm.trans s4) upd_same (((e2.same (Same.upd np)).same (Same.upd n2)).append (he.same s4)) (by rw [List.length_append]; omega) fun p3 H' us s5 h5 e5 => q p3 H' us s5 h5 ?_
    rw [List.flatten_cons, ← List.append_assoc]
    exact e5
end
def spBare (K : PySem.W.Frag) : Sp := fun vs H Q _ => ∃ x : Str, vs = [.str x] ∧ ∀ p H' vs, Same H H' → H' p = some (.lst vs) → Errs K H' vs bareL.flatten → Q (.ref p) H'
section
variable {P : Program} {w : World} {K : PySem.W.Frag} {mg : Str → Option Value} {base : Heap} {f : Addr} {fd : FuncData}
theorem ok_bare (F : FnP K "_law_bare" sBare f fd) (g : ∀ x, x ∈ bareL.flatten → mg x = some (.ref (He.ga K x))) (ex : ∀ x, x ∈ bareL.flatten → PySem.W.excIn K (He.ga K x) [.type "ValueError", .type "Exception", .type "BaseException", .type "object"] "ValueError.__new__" = true ∧ PySem.W.keepIn K (.ref (He.ga K x)) = true ∧ True) : FnOk P w K mg base CX0 1 f fd ["_law_words_here"] (spBare K) := by
  have scF := scBa
  refine F.ok scBa (fun vs H Q E h => ?_) (fun cdv A outer s H vs Q E hr h => ?_)
  · obtain ⟨x, rfl, _⟩ := h
    rfl
  · obtain ⟨x, rfl, q⟩ := h
    refine ⟨_, PSs.nox (pss_cons (ps_set (i := 1) scF.nd rfl (Or.inl rfl) (pe_lst pa_nil))
  (pss_cons (ps_set (i := 1) scF.nd rfl (Or.inl rfl) (pe_op op_cat (pv 1) (pe_lst (pa_cons (pe_mkB (C := He.ga K "BadPrime") PySem.F.excBase_ValueError (ex "BadPrime" (by decide +kernel)).1 (g "BadPrime" (by decide +kernel)) (ex "BadPrime" (by decide +kernel)).2.1 (by rfl) (pv 0)) (pa_cons (pe_mkB (C := He.ga K "BadTable") PySem.F.excBase_ValueError (ex "BadTable" (by decide +kernel)).1 (g "BadTable" (by decide +kernel)) (ex "BadTable" (by decide +kernel)).2.1 (by rfl) (pv 0)) (pa_cons (pe_mkB (C := He.ga K "BadRim") PySem.F.excBase_ValueError (ex "BadRim" (by decide +kernel)).1 (g "BadRim" (by decide +kernel)) (ex "BadRim" (by decide +kernel)).2.1 (by rfl) (pv 0)) (pa_cons (pe_mkB (C := He.ga K "BadSeam") PySem.F.excBase_ValueError (ex "BadSeam" (by decide +kernel)).1 (g "BadSeam" (by decide +kernel)) (ex "BadSeam" (by decide +kernel)).2.1 (by rfl) (pv 0)) (pa_cons (pe_mkB (C := He.ga K "BadKind") PySem.F.excBase_ValueError (ex "BadKind" (by decide +kernel)).1 (g "BadKind" (by decide +kernel)) (ex "BadKind" (by decide +kernel)).2.1 (by rfl) (pv 0)) pa_nil))))))))
  (pss_cons (ps_set (i := 1) scF.nd rfl (Or.inl rfl) (pe_op op_cat (pv 1) (pe_lst (pa_cons (pe_mkB (C := He.ga K "BadOrder") PySem.F.excBase_ValueError (ex "BadOrder" (by decide +kernel)).1 (g "BadOrder" (by decide +kernel)) (ex "BadOrder" (by decide +kernel)).2.1 (by rfl) (pv 0)) (pa_cons (pe_mkB (C := He.ga K "NoTurns") PySem.F.excBase_ValueError (ex "NoTurns" (by decide +kernel)).1 (g "NoTurns" (by decide +kernel)) (ex "NoTurns" (by decide +kernel)).2.1 (by rfl) (pv 0)) (pa_cons (pe_mkB (C := He.ga K "BadRule") PySem.F.excBase_ValueError (ex "BadRule" (by decide +kernel)).1 (g "BadRule" (by decide +kernel)) (ex "BadRule" (by decide +kernel)).2.1 (by rfl) (pv 0)) (pa_cons (pe_mkB (C := He.ga K "BadCovering") PySem.F.excBase_ValueError (ex "BadCovering" (by decide +kernel)).1 (g "BadCovering" (by decide +kernel)) (ex "BadCovering" (by decide +kernel)).2.1 (by rfl) (pv 0)) (pa_cons (pe_mkB (C := He.ga K "BadRow") PySem.F.excBase_ValueError (ex "BadRow" (by decide +kernel)).1 (g "BadRow" (by decide +kernel)) (ex "BadRow" (by decide +kernel)).2.1 (by rfl) (pv 0)) pa_nil))))))))
  (pss_cons (ps_set (i := 1) scF.nd rfl (Or.inl rfl) (pe_op op_cat (pv 1) (pe_lst (pa_cons (pe_mkB (C := He.ga K "NotClean") PySem.F.excBase_ValueError (ex "NotClean" (by decide +kernel)).1 (g "NotClean" (by decide +kernel)) (ex "NotClean" (by decide +kernel)).2.1 (by rfl) (pv 0)) (pa_cons (pe_mkB (C := He.ga K "NotSplit") PySem.F.excBase_ValueError (ex "NotSplit" (by decide +kernel)).1 (g "NotSplit" (by decide +kernel)) (ex "NotSplit" (by decide +kernel)).2.1 (by rfl) (pv 0)) (pa_cons (pe_mkB (C := He.ga K "NotChained") PySem.F.excBase_ValueError (ex "NotChained" (by decide +kernel)).1 (g "NotChained" (by decide +kernel)) (ex "NotChained" (by decide +kernel)).2.1 (by rfl) (pv 0)) (pa_cons (pe_mkB (C := He.ga K "BadWeb") PySem.F.excBase_ValueError (ex "BadWeb" (by decide +kernel)).1 (g "BadWeb" (by decide +kernel)) (ex "BadWeb" (by decide +kernel)).2.1 (by rfl) (pv 0)) (pa_cons (pe_mkB (C := He.ga K "BadPlan") PySem.F.excBase_ValueError (ex "BadPlan" (by decide +kernel)).1 (g "BadPlan" (by decide +kernel)) (ex "BadPlan" (by decide +kernel)).2.1 (by rfl) (pv 0)) pa_nil))))))))
  (pss_cons (ps_set (i := 1) scF.nd rfl (Or.inl rfl) (pe_op op_cat (pv 1) (pe_lst (pa_cons (pe_mkB (C := He.ga K "BadEnd") PySem.F.excBase_ValueError (ex "BadEnd" (by decide +kernel)).1 (g "BadEnd" (by decide +kernel)) (ex "BadEnd" (by decide +kernel)).2.1 (by rfl) (pv 0)) (pa_cons (pe_mkB (C := He.ga K "NoZips") PySem.F.excBase_ValueError (ex "NoZips" (by decide +kernel)).1 (g "NoZips" (by decide +kernel)) (ex "NoZips" (by decide +kernel)).2.1 (by rfl) (pv 0)) (pa_cons (pe_mkB (C := He.ga K "NoWindow") PySem.F.excBase_ValueError (ex "NoWindow" (by decide +kernel)).1 (g "NoWindow" (by decide +kernel)) (ex "NoWindow" (by decide +kernel)).2.1 (by rfl) (pv 0)) (pa_cons (pe_mkB (C := He.ga K "NoCentre") PySem.F.excBase_ValueError (ex "NoCentre" (by decide +kernel)).1 (g "NoCentre" (by decide +kernel)) (ex "NoCentre" (by decide +kernel)).2.1 (by rfl) (pv 0)) (pa_cons (pe_mkB (C := He.ga K "BadMove") PySem.F.excBase_ValueError (ex "BadMove" (by decide +kernel)).1 (g "BadMove" (by decide +kernel)) (ex "BadMove" (by decide +kernel)).2.1 (by rfl) (pv 0)) pa_nil))))))))
  (pss_cons (ps_set (i := 1) scF.nd rfl (Or.inl rfl) (pe_op op_cat (pv 1) (pe_lst (pa_cons (pe_mkB (C := He.ga K "BadDeed") PySem.F.excBase_ValueError (ex "BadDeed" (by decide +kernel)).1 (g "BadDeed" (by decide +kernel)) (ex "BadDeed" (by decide +kernel)).2.1 (by rfl) (pv 0)) (pa_cons (pe_mkB (C := He.ga K "NothingLeft") PySem.F.excBase_ValueError (ex "NothingLeft" (by decide +kernel)).1 (g "NothingLeft" (by decide +kernel)) (ex "NothingLeft" (by decide +kernel)).2.1 (by rfl) (pv 0)) (pa_cons (pe_mkB (C := He.ga K "BadName") PySem.F.excBase_ValueError (ex "BadName" (by decide +kernel)).1 (g "BadName" (by decide +kernel)) (ex "BadName" (by decide +kernel)).2.1 (by rfl) (pv 0)) (pa_cons (pe_mkB (C := He.ga K "BadLive") PySem.F.excBase_ValueError (ex "BadLive" (by decide +kernel)).1 (g "BadLive" (by decide +kernel)) (ex "BadLive" (by decide +kernel)).2.1 (by rfl) (pv 0)) pa_nil)))))))
  (pss_one (ps_ret (pv 1))))))))), ?_⟩
    refine ⟨Nat.zero_le _, fun l nl => ?_⟩
    exact baS_run (H := H) bareL l [] [] _ (Same.upd nl) upd_same .nil (by decide +kernel) q
end
end Tk00

set_option Elab.async false
set_option linter.all false
set_option maxRecDepth 100000
set_option maxHeartbeats 4000000
namespace Tk00
open PySem PySem.Spec PyProof.Rows L2
theorem bnd_part : PySem.OxX.Bnd "part" := ⟨fun fd s x v rest kw h hh => by
  obtain ⟨qn, p1, p2, z, ps, cc, doc, pm, an, cda, ct, e⟩ := h
  subst e
  cases hh with
  | pos => exact .of_eq rfl
  | kw => exact .of_eq rfl⟩
theorem bnd_rule : PySem.OxX.Bnd "rule" := ⟨fun fd s x v rest kw h hh => by
  obtain ⟨qn, p1, p2, z, ps, cc, doc, pm, an, cda, ct, e⟩ := h
  subst e
  cases hh with
  | pos => exact .of_eq rfl
  | kw => exact .of_eq rfl⟩
theorem bnd_most : PySem.OxX.Bnd "most" := ⟨fun fd s x v rest kw h hh => by
  obtain ⟨qn, p1, p2, z, ps, cc, doc, pm, an, cda, ct, e⟩ := h
  subst e
  cases hh with
  | pos => exact .of_eq rfl
  | kw => exact .of_eq rfl⟩
theorem bnd_at : PySem.OxX.Bnd "at" := ⟨fun fd s x v rest kw h hh => by
  obtain ⟨qn, p1, p2, z, ps, cc, doc, pm, an, cda, ct, e⟩ := h
  subst e
  cases hh with
  | pos => exact .of_eq rfl
  | kw => exact .of_eq rfl⟩
theorem bnd_name : PySem.OxX.Bnd "name" := ⟨fun fd s x v rest kw h hh => by
  obtain ⟨qn, p1, p2, z, ps, cc, doc, pm, an, cda, ct, e⟩ := h
  subst e
  cases hh with
  | pos => exact .of_eq rfl
  | kw => exact .of_eq rfl⟩
/-! ### _law_filled -/
abbrev sFilled : Stmt := topS 47
abbrev nFi : List Str := ["_law_each", "_law_found"]
theorem scFi : FnScope nFi ["_law_each"] (defScope sFilled) := ⟨rfl, rfl, rfl, by decide +kernel, rfl, by decide +kernel, by decide +kernel⟩
/-- the rows of (error, its field, its field) -/
inductive Fills (K : PySem.W.Frag) (H : Hp) (v : V) : List V → List (Str × Str) → Prop
  | nil : Fills K H v [] []
  | cons {p a d : Addr} {vs : List V} {x : Str × Str} {xs : List (Str × Str)} : H p = some (.tup [.ref a, v, v]) → H a = some (exo a (He.ga K x.1) (some d)) → H d = some (exd d [(x.2, v)]) → Fills K H v vs xs → Fills K H v (.ref p :: vs) (x :: xs)
section
variable {K : PySem.W.Frag} {v : V}
theorem Fills.same {H H' : Hp} (s : Same H H') : ∀ {vs : List V} {xs : List (Str × Str)}, Fills K H v vs xs → Fills K H' v vs xs
  | _, _, .nil => .nil
  | _, _, .cons a b c d => .cons (s _ _ a) (s _ _ b) (s _ _ c) (Fills.same s d)
theorem Fills.put {H : Hp} {l : Addr} {ys zs : List V} (h : H l = some (.lst ys)) : ∀ {vs : List V} {xs : List (Str × Str)}, Fills K H v vs xs → Fills K (upd H l (.lst zs)) v vs xs
  | _, _, .nil => .nil
  | _, _, .cons a b c d => .cons (by rw [upd_ne (ne_of a h (fun z => nomatch z))]; exact a) (by rw [upd_ne (ne_of b h (fun z => nomatch z))]; exact b) (by rw [upd_ne (ne_of c h (fun z => nomatch z))]; exact c) (Fills.put h d)
theorem Fills.len {H : Hp} : ∀ {vs : List V} {xs : List (Str × Str)}, Fills K H v vs xs → vs.length = xs.length
  | _, _, .nil => rfl
  | _, _, .cons _ _ _ d => congrArg (· + 1) d.len
theorem Fills.snoc {H : Hp} {p a d : Addr} {x : Str × Str} (h1 : H p = some (.tup [.ref a, v, v])) (h2 : H a = some (exo a (He.ga K x.1) (some d))) (h3 : H d = some (exd d [(x.2, v)])) : ∀ {vs : List V} {xs : List (Str × Str)}, Fills K H v vs xs → Fills K H v (vs ++ [.ref p]) (xs ++ [x])
  | _, _, .nil => .cons h1 h2 h3 .nil
  | _, _, .cons e f g r => .cons e f g (Fills.snoc h1 h2 h3 r)
abbrev tFi (K : PySem.W.Frag) (x : Str × Str) : TS := tDrop (tBM K "list" rAppend (tVar 1) (tCons (tTup (tCons (tMkE (He.ga K x.1) x.2 (tVar 0)) (tCons (tExf K x.2 (tMkE (He.ga K x.1) x.2 (tVar 0))) (tCons (tExf K x.2 (tMkEK (He.ga K x.1) x.2 (tCons (tVar 0) tNil))) tNil)))) tNil))
def tFiS (K : PySem.W.Frag) : List (Str × Str) → TS
  | [] => tRet (tVar 1)
  | c :: cs => tSeq (tFi K c) (tFiS K cs)
structure FiC (K : PySem.W.Frag) (x : Str × Str) : Prop where
  er : ErC K (He.ga K x.1)
  no : PySem.W.findIn K (.ref (He.ga K x.1)) x.2 = some none
theorem lk1 {q : Str} : List.lookup q [(q, v)] = some v := by simp [List.lookup]
theorem fiS_run {H : Hp} {D : Ends} {l : Addr} (nl : H l = none) : ∀ (cs : List (Str × Str)) (xs : List V) (ns : List (Str × Str)) (H1 : Hp), Same H H1 → H1 l = some (.lst xs) → Fills K H1 v xs ns → (∀ c ∈ cs, FiC K c) → ns.length + cs.length ≤ 100 →
    (∀ H' vs, Same H H' → H' l = some (.lst vs) → Fills K H' v vs (ns ++ cs) → D.rt (.ref l) H') → tFiS K cs D [some v, some (.ref l)] H1
  | [], xs, ns, H1, sm, hl, he, _, _, q => ⟨_, rfl, q H1 xs sm hl (by rw [List.append_nil]; exact he)⟩
  | c :: cs, xs, ns, H1, sm, hl, he, hk, hz, q => by
    have hz' : ns.length + (cs.length + 1) ≤ 100 := hz
    have hs : 100 ≤ sizeLine := by rw [sizeLine_eq]; omega
    have T := hk c (List.mem_cons_self ..)
    refine ⟨_, rfl, Or.inl ⟨rfl, _, SqL.of hl⟩, _, rfl, fun a1 d1 na1 nd1 nn1 => ?_⟩
    have w1 : upd H1 d1 (exd d1 [(c.2, v)]) a1 = none := by rw [upd_ne nn1.symm]; exact na1
    have s1 : Same H1 (upd (upd H1 d1 (exd d1 [(c.2, v)])) a1 (exo a1 (He.ga K c.1) (some d1))) := (Same.upd nd1).trans (Same.upd w1)
    refine ⟨_, rfl, fun a2 d2 na2 nd2 nn2 => ?_⟩
    have w2 := (upd_ne (o := exd d2 [(c.2, v)]) nn2.symm).trans na2
    have s2 := (Same.upd nd2 (o := exd d2 [(c.2, v)])).trans (Same.upd w2 (o := exo a2 (He.ga K c.1) (some d2)))
    refine ⟨a2, He.ga K c.1, [(c.2, v)], v, rfl, .inr ⟨d2, upd_same, by rw [upd_ne nn2]; exact upd_same⟩, T.er, T.no, lk1, ?_⟩
    refine ⟨_, rfl, v, rfl, fun a3 d3 na3 nd3 nn3 => ?_⟩
    have w3 := (upd_ne (o := exd d3 [(c.2, v)]) nn3.symm).trans na3
    have s3 := (Same.upd nd3 (o := exd d3 [(c.2, v)])).trans (Same.upd w3 (o := exo a3 (He.ga K c.1) (some d3)))
    refine ⟨a3, He.ga K c.1, [(c.2, v)], v, rfl, .inr ⟨d3, upd_same, by rw [upd_ne nn3]; exact upd_same⟩, T.er, T.no, lk1, ?_⟩
    refine ⟨by rw [sizeLine_eq]; show 3 ≤ _; omega, fun p np => ?_⟩
    have s4 := (s2.trans s3).trans (Same.upd np (o := .tup [.ref a1, v, v]))
    have s5 := s1.trans s4
    refine ⟨l, xs, _, rfl, rfl, s5 _ _ hl, by rw [he.len]; omega, ?_⟩
    refine fiS_run nl cs (xs ++ [.ref p]) (ns ++ [c]) _ (fun b o e => ?_) upd_same (Fills.put (s5 _ _ hl) (Fills.snoc (a := a1) (d := d1) (x := c) upd_same (s4 _ _ upd_same) (s4 _ _ (by rw [upd_ne nn1]; exact upd_same)) (he.same s5))) (fun d hd => hk d (List.mem_cons_of_mem _ hd)) (by rw [List.length_append]; show ns.length + 1 + _ ≤ 100; omega) fun H' vs s6 h6 f6 => q H' vs s6 h6 (by rw [List.append_assoc] at f6; exact f6)
    rw [upd_ne (ne_of_none e nl)]
    exact s5 _ _ (sm _ _ e)
end
def spFilled (K : PySem.W.Frag) : Sp := fun vs H Q _ => ∃ v : V, vs = [v] ∧ ∀ p H' vs, Same H H' → H' p = some (.lst vs) → Fills K H' v vs fillL → Q (.ref p) H'
section
variable {P : Program} {w : World} {K : PySem.W.Frag} {mg : Str → Option Value} {base : Heap} {f : Addr} {fd : FuncData}
theorem ok_filled (F : FnP K "_law_filled" sFilled f fd) (g : ∀ x, x ∈ fillL.map (·.1) → mg x = some (.ref (He.ga K x))) (C : ∀ x ∈ fillL, FiC K x) {ad : Str → Addr} (T : ∀ x ∈ fillL, PySem.OxX.Txt P K x.2 (He.ga K x.1) (ad x.1)) : FnOk P w K mg base CX0 2 f fd ["_law_each"] (spFilled K) := by
  have scF := scFi
  have t : ∀ n q, (n, q) ∈ fillL → PySem.OxX.Txt P K q (He.ga K n) (ad n) := fun n q h => T (n, q) h
  refine F.ok scFi (fun vs H Q E h => ?_) (fun cdv A outer s H vs Q E hr h => ?_)
  · obtain ⟨x, rfl, _⟩ := h
    rfl
  · obtain ⟨v, rfl, q⟩ := h
    refine ⟨_, PSs.nox (pss_cons (ps_set (i := 1) scF.nd rfl (Or.inl rfl) (pe_lst pa_nil))
  (pss_cons (ps_expr (pe_bm PySem.F.plainAttrs_list PySem.F.slot_list_append PySem.F.type_list_append mt_append (pv 1) (pa_cons (pe_tup (pa_cons (pe_mkE (t "BadNumber" "part" (by decide +kernel)) bnd_part hr (g "BadNumber" (by decide +kernel)) (by rfl) (pv 0)) (pa_cons (pe_exf (pe_mkE (t "BadNumber" "part" (by decide +kernel)) bnd_part hr (g "BadNumber" (by decide +kernel)) (by rfl) (pv 0))) (pa_cons (pe_exf (pe_mkEK (t "BadNumber" "part" (by decide +kernel)) bnd_part hr (g "BadNumber" (by decide +kernel)) (by rfl) (pk_cons (pv 0) pk_nil))) pa_nil)))) pa_nil)))
  (pss_cons (ps_expr (pe_bm PySem.F.plainAttrs_list PySem.F.slot_list_append PySem.F.type_list_append mt_append (pv 1) (pa_cons (pe_tup (pa_cons (pe_mkE (t "BadCutting" "part" (by decide +kernel)) bnd_part hr (g "BadCutting" (by decide +kernel)) (by rfl) (pv 0)) (pa_cons (pe_exf (pe_mkE (t "BadCutting" "part" (by decide +kernel)) bnd_part hr (g "BadCutting" (by decide +kernel)) (by rfl) (pv 0))) (pa_cons (pe_exf (pe_mkEK (t "BadCutting" "part" (by decide +kernel)) bnd_part hr (g "BadCutting" (by decide +kernel)) (by rfl) (pk_cons (pv 0) pk_nil))) pa_nil)))) pa_nil)))
  (pss_cons (ps_expr (pe_bm PySem.F.plainAttrs_list PySem.F.slot_list_append PySem.F.type_list_append mt_append (pv 1) (pa_cons (pe_tup (pa_cons (pe_mkE (t "BadBook" "part" (by decide +kernel)) bnd_part hr (g "BadBook" (by decide +kernel)) (by rfl) (pv 0)) (pa_cons (pe_exf (pe_mkE (t "BadBook" "part" (by decide +kernel)) bnd_part hr (g "BadBook" (by decide +kernel)) (by rfl) (pv 0))) (pa_cons (pe_exf (pe_mkEK (t "BadBook" "part" (by decide +kernel)) bnd_part hr (g "BadBook" (by decide +kernel)) (by rfl) (pk_cons (pv 0) pk_nil))) pa_nil)))) pa_nil)))
  (pss_cons (ps_expr (pe_bm PySem.F.plainAttrs_list PySem.F.slot_list_append PySem.F.type_list_append mt_append (pv 1) (pa_cons (pe_tup (pa_cons (pe_mkE (t "NotEven" "rule" (by decide +kernel)) bnd_rule hr (g "NotEven" (by decide +kernel)) (by rfl) (pv 0)) (pa_cons (pe_exf (pe_mkE (t "NotEven" "rule" (by decide +kernel)) bnd_rule hr (g "NotEven" (by decide +kernel)) (by rfl) (pv 0))) (pa_cons (pe_exf (pe_mkEK (t "NotEven" "rule" (by decide +kernel)) bnd_rule hr (g "NotEven" (by decide +kernel)) (by rfl) (pk_cons (pv 0) pk_nil))) pa_nil)))) pa_nil)))
  (pss_cons (ps_expr (pe_bm PySem.F.plainAttrs_list PySem.F.slot_list_append PySem.F.type_list_append mt_append (pv 1) (pa_cons (pe_tup (pa_cons (pe_mkE (t "TooMany" "most" (by decide +kernel)) bnd_most hr (g "TooMany" (by decide +kernel)) (by rfl) (pv 0)) (pa_cons (pe_exf (pe_mkE (t "TooMany" "most" (by decide +kernel)) bnd_most hr (g "TooMany" (by decide +kernel)) (by rfl) (pv 0))) (pa_cons (pe_exf (pe_mkEK (t "TooMany" "most" (by decide +kernel)) bnd_most hr (g "TooMany" (by decide +kernel)) (by rfl) (pk_cons (pv 0) pk_nil))) pa_nil)))) pa_nil)))
  (pss_cons (ps_expr (pe_bm PySem.F.plainAttrs_list PySem.F.slot_list_append PySem.F.type_list_append mt_append (pv 1) (pa_cons (pe_tup (pa_cons (pe_mkE (t "BadGroup" "part" (by decide +kernel)) bnd_part hr (g "BadGroup" (by decide +kernel)) (by rfl) (pv 0)) (pa_cons (pe_exf (pe_mkE (t "BadGroup" "part" (by decide +kernel)) bnd_part hr (g "BadGroup" (by decide +kernel)) (by rfl) (pv 0))) (pa_cons (pe_exf (pe_mkEK (t "BadGroup" "part" (by decide +kernel)) bnd_part hr (g "BadGroup" (by decide +kernel)) (by rfl) (pk_cons (pv 0) pk_nil))) pa_nil)))) pa_nil)))
  (pss_cons (ps_expr (pe_bm PySem.F.plainAttrs_list PySem.F.slot_list_append PySem.F.type_list_append mt_append (pv 1) (pa_cons (pe_tup (pa_cons (pe_mkE (t "BadStep" "at" (by decide +kernel)) bnd_at hr (g "BadStep" (by decide +kernel)) (by rfl) (pv 0)) (pa_cons (pe_exf (pe_mkE (t "BadStep" "at" (by decide +kernel)) bnd_at hr (g "BadStep" (by decide +kernel)) (by rfl) (pv 0))) (pa_cons (pe_exf (pe_mkEK (t "BadStep" "at" (by decide +kernel)) bnd_at hr (g "BadStep" (by decide +kernel)) (by rfl) (pk_cons (pv 0) pk_nil))) pa_nil)))) pa_nil)))
  (pss_cons (ps_expr (pe_bm PySem.F.plainAttrs_list PySem.F.slot_list_append PySem.F.type_list_append mt_append (pv 1) (pa_cons (pe_tup (pa_cons (pe_mkE (t "BadWeave" "part" (by decide +kernel)) bnd_part hr (g "BadWeave" (by decide +kernel)) (by rfl) (pv 0)) (pa_cons (pe_exf (pe_mkE (t "BadWeave" "part" (by decide +kernel)) bnd_part hr (g "BadWeave" (by decide +kernel)) (by rfl) (pv 0))) (pa_cons (pe_exf (pe_mkEK (t "BadWeave" "part" (by decide +kernel)) bnd_part hr (g "BadWeave" (by decide +kernel)) (by rfl) (pk_cons (pv 0) pk_nil))) pa_nil)))) pa_nil)))
  (pss_cons (ps_expr (pe_bm PySem.F.plainAttrs_list PySem.F.slot_list_append PySem.F.type_list_append mt_append (pv 1) (pa_cons (pe_tup (pa_cons (pe_mkE (t "BadStrips" "part" (by decide +kernel)) bnd_part hr (g "BadStrips" (by decide +kernel)) (by rfl) (pv 0)) (pa_cons (pe_exf (pe_mkE (t "BadStrips" "part" (by decide +kernel)) bnd_part hr (g "BadStrips" (by decide +kernel)) (by rfl) (pv 0))) (pa_cons (pe_exf (pe_mkEK (t "BadStrips" "part" (by decide +kernel)) bnd_part hr (g "BadStrips" (by decide +kernel)) (by rfl) (pk_cons (pv 0) pk_nil))) pa_nil)))) pa_nil)))
  (pss_cons (ps_expr (pe_bm PySem.F.plainAttrs_list PySem.F.slot_list_append PySem.F.type_list_append mt_append (pv 1) (pa_cons (pe_tup (pa_cons (pe_mkE (t "BadTiling" "part" (by decide +kernel)) bnd_part hr (g "BadTiling" (by decide +kernel)) (by rfl) (pv 0)) (pa_cons (pe_exf (pe_mkE (t "BadTiling" "part" (by decide +kernel)) bnd_part hr (g "BadTiling" (by decide +kernel)) (by rfl) (pv 0))) (pa_cons (pe_exf (pe_mkEK (t "BadTiling" "part" (by decide +kernel)) bnd_part hr (g "BadTiling" (by decide +kernel)) (by rfl) (pk_cons (pv 0) pk_nil))) pa_nil)))) pa_nil)))
  (pss_cons (ps_expr (pe_bm PySem.F.plainAttrs_list PySem.F.slot_list_append PySem.F.type_list_append mt_append (pv 1) (pa_cons (pe_tup (pa_cons (pe_mkE (t "NotFirm" "rule" (by decide +kernel)) bnd_rule hr (g "NotFirm" (by decide +kernel)) (by rfl) (pv 0)) (pa_cons (pe_exf (pe_mkE (t "NotFirm" "rule" (by decide +kernel)) bnd_rule hr (g "NotFirm" (by decide +kernel)) (by rfl) (pv 0))) (pa_cons (pe_exf (pe_mkEK (t "NotFirm" "rule" (by decide +kernel)) bnd_rule hr (g "NotFirm" (by decide +kernel)) (by rfl) (pk_cons (pv 0) pk_nil))) pa_nil)))) pa_nil)))
  (pss_cons (ps_expr (pe_bm PySem.F.plainAttrs_list PySem.F.slot_list_append PySem.F.type_list_append mt_append (pv 1) (pa_cons (pe_tup (pa_cons (pe_mkE (t "NoMark" "name" (by decide +kernel)) bnd_name hr (g "NoMark" (by decide +kernel)) (by rfl) (pv 0)) (pa_cons (pe_exf (pe_mkE (t "NoMark" "name" (by decide +kernel)) bnd_name hr (g "NoMark" (by decide +kernel)) (by rfl) (pv 0))) (pa_cons (pe_exf (pe_mkEK (t "NoMark" "name" (by decide +kernel)) bnd_name hr (g "NoMark" (by decide +kernel)) (by rfl) (pk_cons (pv 0) pk_nil))) pa_nil)))) pa_nil)))
  (pss_cons (ps_expr (pe_bm PySem.F.plainAttrs_list PySem.F.slot_list_append PySem.F.type_list_append mt_append (pv 1) (pa_cons (pe_tup (pa_cons (pe_mkE (t "BadText" "at" (by decide +kernel)) bnd_at hr (g "BadText" (by decide +kernel)) (by rfl) (pv 0)) (pa_cons (pe_exf (pe_mkE (t "BadText" "at" (by decide +kernel)) bnd_at hr (g "BadText" (by decide +kernel)) (by rfl) (pv 0))) (pa_cons (pe_exf (pe_mkEK (t "BadText" "at" (by decide +kernel)) bnd_at hr (g "BadText" (by decide +kernel)) (by rfl) (pk_cons (pv 0) pk_nil))) pa_nil)))) pa_nil)))
  (pss_one (ps_ret (pv 1))))))))))))))))), ?_⟩
    refine ⟨Nat.zero_le _, fun l nl => ?_⟩
    exact fiS_run (H := H) nl fillL [] [] _ (Same.upd nl) upd_same .nil C (by decide +kernel) (q l)
end
end Tk00

set_option Elab.async false
set_option linter.all false
set_option maxRecDepth 100000
set_option maxHeartbeats 4000000
namespace Tk00
open PySem PySem.Spec PyProof.Rows L2
/-! ### law -/
abbrev sLaw : Stmt := topS 48
abbrev nL : List Str := ["_law_script", "_law_draw", "_law_words_here", "_law_each", "_law_threes_here", "_law_errors_here", "_law_spot", "_law_error", "_law_plain_here", "_law_item", "_law_k"]
theorem scL : FnScope nL ["_law_script"] (defScope sLaw) := ⟨rfl, rfl, rfl, by decide +kernel, rfl, by decide +kernel, by decide +kernel⟩
/-- own errors of the classes named -/
inductive Ers (K : PySem.W.Frag) (H : Hp) : List V → List Str → Prop
  | nil : Ers K H [] []
  | cons {a : Addr} {fs : List (Str × V)} {vs : List V} {x : Str} {xs : List Str} : ErrAt H a (He.ga K x) fs → Ers K H vs xs → Ers K H (.ref a :: vs) (x :: xs)
section
variable {K : PySem.W.Frag} {v : V}
theorem Ers.same {H H' : Hp} (s : Same H H') : ∀ {vs : List V} {xs : List Str}, Ers K H vs xs → Ers K H' vs xs
  | _, _, .nil => .nil
  | _, _, .cons a b => .cons (a.same s) (Ers.same s b)
theorem Ers.len {H : Hp} : ∀ {vs : List V} {xs : List Str}, Ers K H vs xs → vs.length = xs.length
  | _, _, .nil => rfl
  | _, _, .cons a b => congrArg (· + 1) b.len
theorem Ers.of {H : Hp} : ∀ {vs : List V} {xs : List Str}, Errs K H vs xs → Ers K H vs xs
  | _, _, .nil => .nil
  | _, _, .cons a b => .cons (.inl ⟨a, rfl⟩) (Ers.of b)
theorem Ers.append {H : Hp} {us : List V} {ys : List Str} (b : Ers K H us ys) : ∀ {vs : List V} {xs : List Str}, Ers K H vs xs → Ers K H (vs ++ us) (xs ++ ys)
  | _, _, .nil => b
  | _, _, .cons a c => .cons a (Ers.append b c)
theorem Ers.get {H : Hp} : ∀ {vs : List V} {xs : List Str} {i : Nat} {v : V}, Ers K H vs xs → vs[i]? = some v → ∃ a x fs, v = V.ref a ∧ xs[i]? = some x ∧ ErrAt H a (He.ga K x) fs
  | _, _, _, _, .nil, h => by cases h
  | _, x :: _, 0, _, .cons a _, h => by
    cases h
    exact ⟨_, x, _, rfl, rfl, a⟩
  | _, _ :: _, i + 1, _, .cons _ b, h => Ers.get (i := i) b h
/-- the rows' errors -/
theorem Fills.split {H : Hp} : ∀ {vs : List V} {xs : List (Str × Str)}, Fills K H v vs xs → ∃ es : List V, Ers K H es (xs.map (·.1)) ∧ ∀ (i : Nat) (r : V), vs[i]? = some r → ∃ p e, r = V.ref p ∧ H p = some (.tup [e, v, v]) ∧ es[i]? = some e
  | _, _, .nil => ⟨[], .nil, fun i r h => by cases h⟩
  | _, _, .cons a b c d => by
    obtain ⟨es, h1, h2⟩ := Fills.split d
    refine ⟨_ :: es, .cons (.inr ⟨_, b, c⟩) h1, fun i r h => ?_⟩
    cases i with
    | zero =>
      cases h
      exact ⟨_, _, rfl, a, rfl⟩
    | succ i => exact h2 i r h
end
/-! plain facts -/
abbrev allE : List Str := bareL.flatten ++ fillL.map (·.1)
def kit (x y : Str) : Bool := decide (x = y) || decide (y = "CutError")
theorem len_flags : flagsL.flatten.length = 37 := by decide +kernel
theorem rows_eq : ∀ i : Nat, i < 37 → ∀ x : Str, allE[i]? = some x → flagsL.flatten.map (kit x) = (List.range 37).map fun (j : Nat) => decide (V.int (0 + (j : Int)) = V.int (i : Int)) := by
  have h : (List.range 37).all (fun (i : Nat) => match allE[i]? with
    | some x => decide (flagsL.flatten.map (kit x) = (List.range 37).map fun (j : Nat) => decide (V.int (0 + (j : Int)) = V.int (i : Int)))
    | none => false) = true := by decide +kernel
  intro i hi x hx
  have h1 := List.all_eq_true.mp h i (List.mem_range.mpr hi)
  rw [hx] at h1
  exact of_decide_eq_true h1
theorem plain_none : flagsL.flatten.map (kit "CutError") = flagsL.flatten.map fun _ => false := by decide +kernel
theorem all_len : allE.length = 37 := by decide +kernel
abbrev CE : Str := "CutError"
def spLaw (K : PySem.W.Frag) : Sp := fun vs H Q _ => ∃ (a : Addr) (ns : List Int), vs = [.ref a] ∧ SqL K H a (ns.map V.int) ∧ ns.length ≤ 63 ∧ ∀ H', Q (.bl true) H'
theorem dp_bls {K : PySem.W.Frag} {H : Hp} : ∀ {bs : List Bool}, DpAll K H (bs.map V.bl) (bs.map PyData.bool)
  | [] => .nil
  | n :: ns => .cons (.bl n) dp_bls
theorem lay_bls : ∀ bs : List Bool, PyData.canLayAll0 (bs.map PyData.bool) = true
  | [] => by simp [PyData.canLayAll0]
  | n :: ns => by simp [PyData.canLayAll0, PyData.canLay0, lay_bls ns]
theorem depth_bls : ∀ ns : List Bool, PyData.depthAll (ns.map PyData.bool) ≤ 1
  | [] => by simp [PyData.depthAll]
  | n :: ns => by
    have := depth_bls ns
    simp only [List.map_cons, PyData.depthAll, PyData.depth]
    omega
theorem shaped_bls (ns : List Bool) : SeqAt.shaped (.list (ns.map PyData.bool)) = true := by
  have := depth_bls ns
  have hd : PyData.depth (.list (ns.map PyData.bool)) ≤ 64 := by
    simp only [PyData.depth]
    omega
  exact Bool.and_eq_true_iff.mpr ⟨by simp only [PyData.canLay0]; exact lay_bls ns, decide_eq_true hd⟩
theorem refl_bls (ns : List Bool) : PyData.eqv (.list (ns.map PyData.bool)) (.list (ns.map PyData.bool)) = true := PySem.SeqAt.eqv_refl _ (by simp only [PyData.canLay0]; exact lay_bls ns)
theorem inV_false : ∀ ns : List Str, inV (.bl true) (ns.map fun _ => V.bl false) = false
  | [] => rfl
  | n :: ns => by
    have := inV_false ns
    unfold inV at this ⊢
    rw [List.map_cons, List.any_cons, this]
    rfl
theorem flat_bls (b : Str → Bool) : ∀ ns : List Str, (ns.map fun x => V.bl (b x)).all flatV = true
  | [] => rfl
  | n :: ns => by
    rw [List.map_cons, List.all_cons, flat_bls b ns]
    rfl
section
variable {P : Program} {w : World} {K : PySem.W.Frag} {mg : Str → Option Value} {base : Heap} {f fB fP fA fF fBa fFl : Addr} {fd fdB fdP fdA fdF fdBa fdFl : FuncData}
theorem law_fn (F : FnP K "law" sLaw f fd)
    (FB : FnP K "_law_begun" sBegun fB fdB) (GB : FnOk P w K mg base CX0 1 fB fdB ["_law_script"] (spBegun K)) (gB : mg "_law_begun" = some (.ref fB))
    (FP : FnP K "_law_pick" sPick fP fdP) (GP : FnOk P w K mg base CX0 3 fP fdP ["_law_draw", "_law_some"] spPick) (gP : mg "_law_pick" = some (.ref fP))
    (FA : FnP K "_law_any" sAny fA fdA) (GA : FnOk P w K mg base CX0 4 fA fdA ["_law_draw"] spAny) (gA : mg "_law_any" = some (.ref fA))
    (FF : FnP K "_law_filled" sFilled fF fdF) (GF : FnOk P w K mg base CX0 2 fF fdF ["_law_each"] (spFilled K)) (gF : mg "_law_filled" = some (.ref fF))
    (FBa : FnP K "_law_bare" sBare fBa fdBa) (GBa : FnOk P w K mg base CX0 1 fBa fdBa ["_law_words_here"] (spBare K)) (gBa : mg "_law_bare" = some (.ref fBa))
    (FFl : FnP K "_law_flags" sFlags fFl fdFl) (GFl : FnOk P w K mg base CX0 1 fFl fdFl ["_law_error"] (spFlags K)) (gFl : mg "_law_flags" = some (.ref fFl))
    (gEn : mg "enumerate" = none) (gRg : mg "range" = none) (gIs : mg "isinstance" = none) (gRe : mg "repr" = none) (gVe : mg "ValueError" = none)
    (gC : mg "CutError" = some (.ref (He.ga K CE))) (eC : PySem.W.excIn K (He.ga K CE) [.type "ValueError", .type "Exception", .type "BaseException", .type "object"] "ValueError.__new__" = true) (kC : PySem.W.keepIn K (.ref (He.ga K CE)) = true)
    (er : ∀ x ∈ CE :: allE, ErC K (He.ga K x)) (k1 : ∀ x ∈ CE :: allE, ∀ y ∈ CE :: flagsL.flatten, PySem.W.kitOne K (.ref (He.ga K x)) (.ref (He.ga K y)) = some (kit x y)) (k2 : ∀ x ∈ CE :: allE, PySem.W.kitOne K (.ref (He.ga K x)) (.type "ValueError") = some true)
    (hsm : ∃ o, K.lookup sysModules = some o) : FnLaw P w K mg base CX0 f fd ["_law_script"] (spLaw K) := by
  have bB : Binds K fdB ["_law_script"] [] := FB.bindsN fun _ _ _ _ _ _ us hl => match us, hl with | [_], _ => rfl
  have bP : Binds K fdP ["_law_draw", "_law_some"] [] := FP.bindsN fun _ _ _ _ _ _ us hl => match us, hl with | [_, _], _ => rfl
  have bA : Binds K fdA ["_law_draw"] [] := FA.bindsN fun _ _ _ _ _ _ us hl => match us, hl with | [_], _ => rfl
  have bF : Binds K fdF ["_law_each"] [] := FF.bindsN fun _ _ _ _ _ _ us hl => match us, hl with | [_], _ => rfl
  have bBa : Binds K fdBa ["_law_words_here"] [] := FBa.bindsN fun _ _ _ _ _ _ us hl => match us, hl with | [_], _ => rfl
  have bFl : Binds K fdFl ["_law_error"] [] := FFl.bindsN fun _ _ _ _ _ _ us hl => match us, hl with | [_], _ => rfl
  refine fn_law F scL (fun vs H Q E h => ?_) (fun cdv s H vs Q E hr h => ?_)
  · obtain ⟨a, ns, rfl, _⟩ := h
    rfl
  · obtain ⟨a, ns, rfl, hS, hlen, q⟩ := h
    have r1 : Room 1 _ := hr.mono (by decide)
    have r2 : Room 2 _ := hr.mono (by decide)
    have r3 : Room 3 _ := hr.mono (by decide)
    have r4 : Room 4 _ := hr.mono (by decide)
    refine ⟨_, PSs.nox
      (pss_cons (ps_set (i := 1) scL.nd rfl (Or.inl rfl) (pe_call GB r1 rfl gB FB.kp bB .nil pass0 (pa_cons (pv 0) pa_nil)))
      (pss_cons (ps_asg (pe_tup (pa_cons (pe_call GP r3 rfl gP FP.kp bP .nil pass0 (pa_cons (pv 1) (pa_cons (pe_lst (pa_cons pe_str (pa_cons pe_str (pa_cons pe_str pa_nil)))) pa_nil))) (pa_cons (pe_call GA r4 rfl gA FA.kp bA .nil pass0 (pa_cons (pv 1) pa_nil)) pa_nil)))
        (pg_tup rfl (pgs_cons (pg_name (i := 2) scL.nd rfl (Or.inl rfl)) (pgs_cons (pg_name (i := 3) scL.nd rfl (Or.inr rfl)) pgs_nil))))
      (pss_cons (ps_set (i := 4) scL.nd rfl (Or.inl rfl) (pe_call GF r2 rfl gF FF.kp bF .nil pass0 (pa_cons (pv 3) pa_nil)))
      (pss_cons (ps_set (i := 5) scL.nd rfl (Or.inl rfl) (pe_op op_cat (pe_call GBa r1 rfl gBa FBa.kp bBa .nil pass0 (pa_cons (pv 2) pa_nil))
        (pe_lc (own := [("_law_item", 9)]) (g := gName 9) (tt := tYes) (by rfl) scL.nd (pi_list (pv 4)) (blkOk_by (own := [("_law_item", 9)]) (N := nL) (sc := defScope sLaw) (by decide +kernel)) (fun _ _ _ _ _ => pg_name (i := 9) scL.nd rfl (Or.inl rfl)) (fun _ _ _ _ _ => pts_nil)
          (fun _ _ _ _ _ => pe_ix (r := rIxT K) ix_tup (pv 9) pe_int (fun _ _ => rfl)))))
      (pss_cons (ps_for PassesOwn.never rfl (pi_enum (by rfl) gEn (pa_cons (pv 5) pa_nil)) (pg_tup rfl (pgs_cons (pg_name (i := 6) scL.nd rfl (Or.inr rfl)) (pgs_cons (pg_name (i := 7) scL.nd rfl (Or.inl rfl)) pgs_nil)))
        (pss_cons (ps_if (pt_cmpR (op_neD hr.units) (pe_call GFl r1 rfl gFl FFl.kp bFl .nil pass0 (pa_cons (pv 7) pa_nil))
            (pe_lc (own := [("_law_k", 10)]) (g := gName 10) (tt := tYes) (by rfl) scL.nd (pi_range1 (by rfl) gRg (pa_cons pe_int pa_nil)) (blkOk_by (own := [("_law_k", 10)]) (N := nL) (sc := defScope sLaw) (by decide +kernel)) (fun _ _ _ _ _ => pg_name (i := 10) scL.nd rfl (Or.inl rfl)) (fun _ _ _ _ _ => pts_nil)
              (fun _ _ _ _ _ => pe_cmpR op_eq (pv 10) (pv 6) (nomark _))) (nomark _)) (pss_one (ps_ret pe_bl)) pss_nil)
        (pss_one (ps_if (PW.pt (pw_or (pt_not (pt_val (pe_callB call_isX (by rfl) gIs (by decide +kernel) (pa_cons (pv 7) (pa_cons (pe_glob (v := .ref (He.ga K CE)) (by rfl) gC rfl) pa_nil)))))
            (pw_or1 (pt_not (pt_val (pe_callB call_isX (by rfl) gIs (by decide +kernel) (pa_cons (pv 7) (pa_cons (pe_bltn (v := .ty "ValueError") (by rfl) gVe (by decide +kernel) rfl) pa_nil)))))))) (pss_one (ps_ret pe_bl)) pss_nil))))
      (pss_cons (ps_if (pt_cmpR (op_neD hr.units)
          (pe_lc (own := [("_law_item", 9)]) (g := gName 9) (by rfl) scL.nd (pi_list (pv 4)) (blkOk_by (own := [("_law_item", 9)]) (N := nL) (sc := defScope sLaw) (by decide +kernel)) (fun _ _ _ _ _ => pg_name (i := 9) scL.nd rfl (Or.inl rfl))
            (fun _ _ _ _ _ => pts_one (pt_cmpR op_ne (pe_callB (call_reprX rfl hr.units hsm) (by rfl) gRe (by decide +kernel) (pa_cons (pe_lst (pa_cons (pe_ix (r := rIxT K) ix_tup (pv 9) pe_int (fun _ _ => rfl)) (pa_cons (pe_ix (r := rIxT K) ix_tup (pv 9) pe_int (fun _ _ => rfl)) pa_nil))) pa_nil))
              (pe_callB (call_reprX rfl hr.units hsm) (by rfl) gRe (by decide +kernel) (pa_cons (pe_lst (pa_cons (pv 3) (pa_cons (pv 3) pa_nil))) pa_nil)) (nomark _)))
            (fun _ _ _ _ _ => pe_int)) (pe_lst pa_nil) (nomark _)) (pss_one (ps_ret pe_bl)) pss_nil)
      (pss_cons (ps_set (i := 8) scL.nd rfl (Or.inl rfl) (pe_mkB (C := He.ga K CE) PySem.F.excBase_ValueError eC gC kC (by rfl) pe_str))
      (pss_one (ps_ret (pe_and (pe_cmpR op_notIn_seq pe_bl (pe_call GFl r1 rfl gFl FFl.kp bFl .nil pass0 (pa_cons (pv 8) pa_nil)) (by rfl))
        (pe_one (pe_callB call_isX (by rfl) gIs (by decide +kernel) (pa_cons (pv 8) (pa_cons (pe_bltn (v := .ty "ValueError") (by rfl) gVe (by decide +kernel) rfl) pa_nil)))))))))))))), ?_⟩
    have z : ∀ {n : Nat}, n ≤ 1000 → n ≤ sizeLine := fun {n} h => by rw [sizeLine_eq]; omega
    refine ⟨_, rfl, a, ns, rfl, hS, hlen, fun D H1 dk s1 nd nl => ?_⟩
    -- words and each
    refine ⟨_, rfl, z (by decide), fun p np => ?_⟩
    have dk1 : DrOk D (upd H1 p (.lst [.str "", .str "b", .str "not such a floor"])) := dk.upd np
    refine ⟨D, p, _, rfl, dk1, hid_new np dk, (show 0 < 3 by decide), (show 3 < 1000000 by decide), fun i wv H3 hw dk3 s3 => ?_⟩
    obtain ⟨x, rfl⟩ : ∃ x : Str, wv = V.str x := by
      match i, hw with
      | 0, hw => cases hw; exact ⟨_, rfl⟩
      | 1, hw => cases hw; exact ⟨_, rfl⟩
      | 2, hw => cases hw; exact ⟨_, rfl⟩
    refine ⟨_, rfl, D, rfl, dk3, fun v d H4 hx hok dk4 s4 => ?_⟩
    refine ⟨z (show 2 ≤ 1000 by decide), fun t nt => ⟨t, _, rfl, SqT.of upd_same, rfl, _, _, rfl, _, _, rfl, rfl, ?_⟩⟩
    have sx : Same (hid D H4) (upd H4 t (.tup [.str x, v])) := hid_le.trans (Same.upd nt)
    have hx5 := hx.same sx
    generalize upd H4 t (.tup [.str x, v]) = H5 at hx5 ⊢
    -- the threes
    refine ⟨_, rfl, v, rfl, fun pt H6 ts s6 ht ft => ?_⟩
    obtain ⟨es, ee, he⟩ := ft.split
    have hx6 := hx5.same s6
    -- the errors
    refine ⟨_, rfl, x, rfl, fun pb H7 bs s7 hb fb => ?_⟩
    have ht7 := s7 _ _ ht
    refine ⟨_, rfl, pt, rfl, ⟨_, SqL.of ht7⟩, fun L nL => ?_⟩
    have lT : ts.length = 13 := ft.len
    have lE : es.length = 13 := ee.len
    refine lc_list (K := K) (a := pt) (xs := ts) (fun i H' => H' = upd H7 L (.lst (es.take i))) rfl (fun i H' _ e => by rw [e]; exact SqL.of (Same.upd nL _ _ ht7)) ?_ ?_
    · rintro i y H' hi rfl
      obtain ⟨pi, ei, rfl, hp, hei⟩ := he i y hi
      have hil : i < 13 := by rw [← lT]; exact (List.getElem?_eq_some_iff.mp hi).1
      refine ⟨rfl, _, rfl, pi, _, 0, ei, rfl, rfl, SqT.of (Same.upd nL _ _ (s7 _ _ hp)), rfl, _, upd_same, by rw [List.length_take, sizeLine_eq]; omega, ?_⟩
      rw [upd_upd, List.take_add_one, hei]
      rfl
    rintro H' rfl
    rw [lT, show es.take 13 = es by rw [← lE]; exact List.take_length]
    refine ⟨pb, L, bs, es, rfl, rfl, Same.upd nL _ _ hb, upd_same, by rw [fb.len, lE, show bareL.flatten.length = 24 by decide +kernel, sizeLine_eq]; decide, fun pe ne => ?_⟩
    have s8 : Same H7 (upd (upd H7 L (.lst es)) pe (.lst (bs ++ es))) := (Same.upd nL).trans (Same.upd ne)
    have E8 : Ers K (upd (upd H7 L (.lst es)) pe (.lst (bs ++ es))) (bs ++ es) allE := ((ee.same s7).same s8).append ((Ers.of fb).same s8)
    have hpe : upd (upd H7 L (.lst es)) pe (.lst (bs ++ es)) pe = some (.lst (bs ++ es)) := upd_same
    have ht8 := s8 _ _ ht7
    have hx8 := (hx6.same s7).same s8
    have he8 : ∀ (i : Nat) (r : V), ts[i]? = some r → ∃ p e, r = V.ref p ∧ upd (upd H7 L (.lst es)) pe (.lst (bs ++ es)) p = some (.tup [e, v, v]) := fun i r h => by
      obtain ⟨p, e, h1, h2, _⟩ := he i r h
      exact ⟨p, e, h1, s8 _ _ (s7 _ _ h2)⟩
    generalize upd (upd H7 L (.lst es)) pe (.lst (bs ++ es)) = H8 at E8 hpe ht8 hx8 he8 ⊢
    have lA : (bs ++ es).length = 37 := by rw [E8.len]; exact all_len
    -- each error's flags
    refine ⟨_, rfl, pe, _, rfl, SqL.of hpe, ?_⟩
    refine for_it walk_enum (fun i σ H' => Same H8 H' ∧ ∃ v6 v7, σ = [some (.ref a), some (.ref D.d), some (.str x), some v, some (.ref pt), some (.ref pe), v6, v7, none, none, none]) ⟨Same.refl _, _, _, rfl⟩ (fun i σ H' _ h => SqL.of (h.1 _ _ hpe)) ?_ ?_
    · rintro i y σ H9 H' hi ⟨s9, v6, v7, rfl⟩ ⟨T, y1, y2, rfl, nT, rfl, hy1, hy2⟩
      cases hy1
      have hi37 : i < 37 := by rw [← lA]; exact hi
      obtain ⟨ae, xe, fs, rfl, hxe, hae⟩ := (E8.same s9).get hy2
      have mE : xe ∈ CE :: allE := List.mem_cons_of_mem _ (List.mem_of_getElem? hxe)
      refine ⟨T, _, rfl, SqT.of upd_same, rfl, _, _, rfl, _, _, rfl, rfl, ?_⟩
      have ha2 := hae.same (Same.upd nT (o := .tup [.int (i : Nat), .ref ae]))
      have sT := s9.trans (Same.upd nT (o := .tup [.int (i : Nat), .ref ae]))
      generalize upd H9 T (.tup [.int (i : Nat), .ref ae]) = Ha at ha2 sT ⊢
      refine ⟨_, rfl, ae, He.ga K xe, fs, kit xe, rfl, ha2, er xe mE, fun y hy => k1 xe mE y (List.mem_cons_of_mem _ hy), fun pf Hb sb hf => ?_⟩
      refine ⟨37, rfl, by decide, by decide, fun L2 nL2 => ?_⟩
      refine lc_range (n := 37) (fun j H' => H' = upd Hb L2 (.lst ((List.range j).map fun (j : Nat) => V.bl (decide (V.int (0 + (j : Int)) = V.int (i : Int)))))) rfl ?_ ?_
      · rintro j H' hj rfl
        refine ⟨rfl, _, rfl, _, rfl, rfl, _, upd_same, by rw [List.length_map, List.length_range, sizeLine_eq]; omega, ?_⟩
        rw [upd_upd, List.range_succ, List.map_append]
        rfl
      rintro H' rfl
      have e1 : (flagsL.flatten.map fun x => V.bl (kit xe x)) = (flagsL.flatten.map (kit xe)).map V.bl := by rw [List.map_map]; rfl
      have e2 : ((List.range 37).map fun (j : Nat) => V.bl (decide (V.int (0 + (j : Int)) = V.int (i : Int)))) = (flagsL.flatten.map (kit xe)).map V.bl := by rw [rows_eq i hi37 xe hxe, List.map_map]; rfl
      rw [e1] at hf
      rw [e2]
      generalize flagsL.flatten.map (kit xe) = B at hf ⊢
      refine ⟨.list (B.map .bool), .list (B.map .bool), .lst (SqL.of (Same.upd nL2 _ _ hf)) dp_bls, .lst (SqL.of upd_same) dp_bls, shaped_bls B, shaped_bls B, _, rfl, ?_⟩
      rw [refl_bls]
      have sE := sb.trans (Same.upd nL2 (o := .lst (B.map V.bl)))
      refine ⟨_, rfl, ae, He.ga K xe, fs, .ref (He.ga K CE), .ref (He.ga K CE), true, rfl, ha2.same sE, er xe mE, fun u r => r, (k1 xe mE CE (List.mem_cons_self ..)).trans (by rw [show kit xe CE = true from Bool.or_eq_true_iff.mpr (.inr (decide_eq_true rfl))]), true, rfl, ?_⟩
      refine ⟨_, rfl, ae, He.ga K xe, fs, .ty "ValueError", .type "ValueError", true, rfl, ha2.same sE, er xe mE, fun u r => r, k2 xe mE, true, rfl, ?_⟩
      exact ⟨sT.trans sE, _, _, rfl⟩
    · rintro σ H9 ⟨s9, v6, v7, rfl⟩
      have ok := okD_of hok
      refine ⟨_, rfl, pt, rfl, ⟨_, SqL.of (s9 _ _ ht8)⟩, fun L nL => ?_⟩
      refine lc_list (K := K) (a := pt) (xs := ts) (fun i H' => Same (upd H9 L (.lst [])) H') (Same.refl _) (fun i H' _ sm => SqL.of (sm _ _ (Same.upd nL _ _ (s9 _ _ ht8)))) ?_ ?_
      · rintro i y H' hi sm
        obtain ⟨pi, e, rfl, hp⟩ := he8 i y hi
        have sm2 := (s9.trans (Same.upd nL (o := .lst []))).trans sm
        have hv := hx8.same sm2
        refine ⟨rfl, _, rfl, pi, _, 1, v, rfl, rfl, SqT.of (sm2 _ _ hp), rfl, _, rfl, pi, _, 2, v, rfl, rfl, SqT.of (sm2 _ _ hp), rfl, z (show 2 ≤ 1000 by decide), fun q1 n1 => ?_⟩
        have hv1 := hv.same (Same.upd n1 (o := .lst [v, v]))
        refine ⟨q1, .list [d, d], rfl, .lst upd_same (.cons hv1 (.cons hv1 .nil)), ok.1, ok.2.1, z ok.2.2, ?_⟩
        refine ⟨_, rfl, _, rfl, z (show 2 ≤ 1000 by decide), fun q2 n2 => ?_⟩
        have hv2 := hv1.same (Same.upd n2 (o := .lst [v, v]))
        refine ⟨q2, .list [d, d], rfl, .lst upd_same (.cons hv2 (.cons hv2 .nil)), ok.1, ok.2.1, z ok.2.2, rfl, _, rfl, ?_⟩
        exact ite2 (fun h => absurd h (by simp)) fun _ => (sm.trans (Same.upd n1)).trans (Same.upd n2)
      intro H' sm
      refine ⟨z (show 0 ≤ 1000 by decide), fun q1 n1 => ⟨.list [], .list [], .lst (SqL.of (Same.upd n1 _ _ (sm _ _ upd_same))) .nil, .lst (SqL.of upd_same) .nil, by decide +kernel, by decide +kernel, _, rfl, ?_⟩⟩
      refine ite2 (fun h => absurd h (by decide +kernel)) fun _ => ?_
      intro ap nap
      refine ⟨_, rfl, ap, He.ga K CE, [], kit CE, rfl, .inl ⟨upd_same, rfl⟩, er CE (List.mem_cons_self ..), fun y hy => k1 CE (List.mem_cons_self ..) y (List.mem_cons_of_mem _ hy), fun pg Hg sg hg => ?_⟩
      refine ⟨pg, _, rfl, .inl (SqL.of hg), rfl, flat_bls _ _, _, rfl, ?_⟩
      have e3 : inV (.bl true) (flagsL.flatten.map fun x => V.bl (kit CE x)) = false := by
        rw [show (flagsL.flatten.map fun x => V.bl (kit CE x)) = (flagsL.flatten.map (kit CE)).map V.bl by rw [List.map_map]; rfl, plain_none, List.map_map]
        exact inV_false _
      rw [e3]
      exact ⟨_, rfl, ap, He.ga K CE, [], .ty "ValueError", .type "ValueError", true, rfl, .inl ⟨sg _ _ upd_same, rfl⟩, er CE (List.mem_cons_self ..), fun u r => r, k2 CE (List.mem_cons_self ..), q _⟩
end
end Tk00

set_option Elab.async false
set_option linter.all false
set_option maxRecDepth 100000
set_option maxHeartbeats 4000000
namespace Hd
open PySem PySem.Spec PyProof.Rows L2 Tk00
theorem fa_glo : fa = fa.take 10 ++ (flagsL.flatten.map He.Fa.glo ++ fa.drop 47) := by rfl
theorem fa_exc : fa.drop 56 = bareL.flatten.map He.Fa.exc := by rfl
theorem all_eq : allN = Tk00.CE :: allE := by decide +kernel
theorem fl_eq : allN = Tk00.CE :: flagsL.flatten := by decide +kernel
theorem fi_eq : fillL = iniL.map fun d => (d.cls, d.q) := by decide +kernel
theorem ba_sub : ∀ x ∈ bareL.flatten, x ∈ flagsL.flatten := by decide +kernel
theorem fi_sub : ∀ x ∈ fillL.map (·.1), x ∈ flagsL.flatten := by decide +kernel
def okB (d : Hy.IniD) : Bool := (!(d.q == ("self" : Str))) && ((!(d.q == ("__class__" : Str))) && ((!(d.q == ("super" : Str))) && ((!(d.q == ("__debug__" : Str))) && (d.ps.a2.endLine == d.ps.a4.line))))
theorem ini_okB : iniL.all okB = true := by decide +kernel
theorem top_super : (PR.main.scope.names.lookup ("super" : Str)).isSome = false := by kernel_rfl
theorem nt {b : Bool} (h : (!b) = true) : b = false := by cases b <;> first | rfl | cases h
theorem ini_ok : ∀ d ∈ iniL, d.Ok PR := fun d hd => by
  have h := List.all_eq_true.mp ini_okB d hd
  obtain ⟨h1, h⟩ := Hy.ba h
  obtain ⟨h2, h⟩ := Hy.ba h
  obtain ⟨h3, h⟩ := Hy.ba h
  obtain ⟨h4, h5⟩ := Hy.ba h
  exact ⟨top_super, nt h1, nt h2, nt h3, nt h4, h5⟩
theorem facts {w : World} {K : PySem.W.Frag} {h : Heap} {mg : Str → Option Value} {f : Addr} (X : K.In h) (G : h.Ns mainGlobals mg) (hfa : mg ("law" : Str) = some (.ref f)) (c : Hy.SaysY PR fa fn iniL ex K) :
    ∃ fd : FuncData, (∀ (s : Shared) (v : Value), BindsTo s fd ⟨[v], []⟩ [("_law_script", v)]) ∧ ∀ base : Heap, K.In base → base.Ns mainGlobals mg → FnLaw PR w K mg base CX0 f fd ["_law_script"] (spLaw K) := by
  obtain ⟨fdB, FB⟩ := c.d.def_ 0 (d := d_law_begun) rfl
  obtain ⟨fdM, FM⟩ := c.d.def_ 1 (d := d_law_mixed) rfl
  obtain ⟨fdT, FT⟩ := c.d.def_ 2 (d := d_law_take) rfl
  obtain ⟨fdP, FP⟩ := c.d.def_ 3 (d := d_law_pick) rfl
  obtain ⟨fdA, FA⟩ := c.d.def_ 4 (d := d_law_any) rfl
  obtain ⟨fdFl, FFl⟩ := c.d.def_ 5 (d := d_law_flags) rfl
  obtain ⟨fdBa, FBa⟩ := c.d.def_ 6 (d := d_law_bare) rfl
  obtain ⟨fdF, FF⟩ := c.d.def_ 7 (d := d_law_filled) rfl
  obtain ⟨fd, F⟩ := c.d.def_ 8 (d := dlaw) rfl
  have gl : ∀ (i : Nat) (x : Str), fa[i]? = some (.glo x) → mg x = some (.ref (He.ga K x)) := fun i x e => He.glo_ok X G (c.d.fact i e)
  have fr : ∀ (i : Nat) (x : Str), fa[i]? = some (.free x) → mg x = none := fun i x e => He.free_ok X G (c.d.fact i e)
  have gF : ∀ x ∈ flagsL.flatten, mg x = some (.ref (He.ga K x)) := fun x hx => He.glo_ok X G (c.d.facts (by rw [fa_glo]; exact List.mem_append_right _ (List.mem_append_left _ (List.mem_map_of_mem hx))))
  have xB : ∀ x ∈ bareL.flatten, PySem.W.excIn K (He.ga K x) [.type "ValueError", .type "Exception", .type "BaseException", .type "object"] "ValueError.__new__" = true ∧ PySem.W.keepIn K (.ref (He.ga K x)) = true ∧ True := fun x hx => by
    have e := He.exc_ok (c.d.facts (f := .exc x) (List.mem_of_mem_drop (i := 56) (by rw [fa_exc]; exact List.mem_map_of_mem hx)))
    exact ⟨e.1, e.2.1, True.intro⟩
  have xC := He.exc_ok (c.d.fact 55 (f := .exc "CutError") rfl)
  obtain ⟨m1, m2⟩ := Hy.ba c.more
  have er : ∀ x ∈ Tk00.CE :: allE, ErC K (He.ga K x) := fun x hx => Hy.ercB_ok (List.all_eq_true.mp m1 x (by rw [all_eq]; exact hx))
  have m3 := fun (x : Str) (hx : x ∈ Tk00.CE :: allE) => Hy.ba (List.all_eq_true.mp m2 x (by rw [all_eq]; exact hx))
  have k1 : ∀ x ∈ Tk00.CE :: allE, ∀ y ∈ Tk00.CE :: flagsL.flatten, PySem.W.kitOne K (.ref (He.ga K x)) (.ref (He.ga K y)) = some (kit x y) := fun x hx y hy => of_decide_eq_true (List.all_eq_true.mp (m3 x hx).2 y (by rw [fl_eq]; exact hy))
  have k2 : ∀ x ∈ Tk00.CE :: allE, PySem.W.kitOne K (.ref (He.ga K x)) (.type "ValueError") = some true := fun x hx => of_decide_eq_true (m3 x hx).1
  have tx : ∀ x ∈ fillL, PySem.OxX.Txt PR K x.2 (He.ga K x.1) (He.ma K (He.ga K x.1) "__init__") := fun x hx => by
    rw [fi_eq] at hx
    obtain ⟨d, hd, rfl⟩ := List.mem_map.mp hx
    obtain ⟨e1, e2⟩ := c.ini d hd
    exact Hy.ini_txt (ini_ok d hd) e1 e2
  have fc : ∀ x ∈ fillL, FiC K x := fun x hx => ⟨er x.1 (List.mem_cons_of_mem _ (List.mem_append_right _ (List.mem_map_of_mem hx))), (tx x hx).noN⟩
  have e := hfa.symm.trans (gl 8 "law" rfl)
  cases e
  have b := FunD.bindsA (ps := ["_law_script"]) F fun _ _ _ _ _ _ us hl => match us, hl with | [_], _ => rfl
  refine ⟨fd, fun s v => b s [v] rfl, fun base _ _ => ?_⟩
  have gI := fr 48 "int" rfl
  have gIs := fr 50 "isinstance" rfl
  have GT : FnOk PR w K mg base CX0 2 _ fdT ["_law_draw", "_law_amount"] spTake := ok_take FT FM (gl 1 "_law_mixed" rfl) gI
  have GP : FnOk PR w K mg base CX0 3 _ fdP ["_law_draw", "_law_some"] spPick := ok_pick FP FT GT (gl 2 "_law_take" rfl) (fr 49 "len" rfl)
  exact law_fn F FB (ok_begun FB (fr 47 "abs" rfl)) (gl 0 "_law_begun" rfl) FP GP (gl 3 "_law_pick" rfl) FA (ok_any FA FP GP (gl 3 "_law_pick" rfl)) (gl 4 "_law_any" rfl)
    FF (ok_filled FF (fun x hx => gF x (fi_sub x hx)) fc (ad := fun x => He.ma K (He.ga K x) "__init__") tx) (gl 7 "_law_filled" rfl) FBa (ok_bare FBa (fun x hx => gF x (ba_sub x hx)) xB) (gl 6 "_law_bare" rfl) FFl (ok_flags FFl gIs gF) (gl 5 "_law_flags" rfl)
    (fr 53 "enumerate" rfl) (fr 52 "range" rfl) gIs (fr 51 "repr" rfl) (fr 54 "ValueError" rfl) (gl 9 "CutError" rfl) xC.1 xC.2.1 er k1 k2 c.sm
end Hd
open PySem PySem.W PySem.Calls PyProof.Rows
theorem PySem.Challenge.cw_howevercut_k00_errors_of_all_parts_holds : PySem.Challenge.rw_howevercut_k00_errors_of_all_parts.Holds := by
  w_on; o_law
  refine HandSHeadRun.head_any (r := OpenLaw.row PySem.Challenge.rw_howevercut_k00_errors_of_all_parts) (q := view (OpenLaw.row PySem.Challenge.rw_howevercut_k00_errors_of_all_parts).prog [48]) (H := Hd.hk) (ob := Hd.ob) (M := 100000) (loose := Hd.loose) (d := HandSHeadRun.topDef (OpenLaw.row PySem.Challenge.rw_howevercut_k00_errors_of_all_parts).prog 48) (kwd := []) Hd.ob_eq
    (by kernel_rfl) (fun s => by kernel_rfl) Hd.run (by kernel_rfl) (by kernel_rfl) (by kernel_rfl) (by rfl) (by first | assumption | decide +kernel) (by decide +kernel) ⟨rfl, rfl, rfl, rfl, rfl, by decide +kernel⟩ ?hw ?hc
  case hw => w_witness2
  case hc =>
    refine L2.walk_ofG (l := PySem.Challenge.rw_howevercut_k00_errors_of_all_parts) (n := 63) (x := "_law_script") (CX := L2.CX0) rfl (by decide) (by kernel_rfl) ?F (fun _ _ _ _ z => z)
    intro w mg fa h Y G hmg0
    obtain ⟨K, KX, c⟩ := Y
    have hmg : mg ("law" : PySem.Str) = some (.ref fa) := by
      have e : (HandSHeadRun.topDef (OpenLaw.row PySem.Challenge.rw_howevercut_k00_errors_of_all_parts).prog 48).name = ("law" : PySem.Str) := by kernel_rfl
      rw [← e]
      exact hmg0
    obtain ⟨fd, hb, hF⟩ := Hd.facts (w := w) KX G hmg c
    exact ⟨K, fd, Tk00.spLaw K, KX, hb, fun H a ns hl _ hS => ⟨a, ns, rfl, hS, hl, fun _ => rfl⟩, hF⟩

