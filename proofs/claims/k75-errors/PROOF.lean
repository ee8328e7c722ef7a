import PyProof.Rows.All
import Wide.All
import OpenK.AllK
import Wide.FinOn
import PyProof.EqAt
import PyProof.EqKinds
import PyProof.TupleCall
import KE.KExcSuper
import HandS.ForExc
import KE.KExcIs
import HandS.ExcInit
import HandS.ExcValue
import HandS.ExcField
import HandS.IsInst
import HandS.ExcIs
import HandS.ForMost
import PySem.Challenge.RW_allmends_k75_errors_by_position
set_option Elab.async false
set_option linter.all false
set_option maxRecDepth 100000
set_option maxHeartbeats 4000000
/-! An own error class whose __init__ says super().__init__('a text') and then stores its one argument: what making it does. -/
namespace PySem
namespace SupX
open PySem.W PySem.Calls PyProof.Rows PySem.HandSPX
/-! ### the text of __init__, the places left open -/
def iA (fld : Str) (p1 p2 : Pos) : Arguments := { posonlyargs := [], args := [{ arg := "self", annotation := none, pos := p1 }, { arg := fld, annotation := none, pos := p2 }], vararg := none, kwonlyargs := [], kw_defaults := [], kwarg := none, defaults := [] }
def iB (fld txt : Str) (p0 p1 p2 p3 p4 p5 q1 q2 q3 q4 : Pos) : List Stmt :=
  [.Expr (.Call (.Attribute (.Call (.Name "super" p0) [] [] p1) "__init__" p2) [.Constant (.str txt) 0 p3] [] p4) p5, .Assign [.Attribute (.Name "self" q1) fld q2] (.Name fld q3) q4]
def iS (fld : Str) : Scope := { kind := .function, names := [(PySem.Str.ofString "self", .local), (fld, .local), (PySem.Str.ofString "__class__", .free), (PySem.Str.ofString "super", .globalImplicit)], isGenerator := false, isCoroutine := false, more := [] }
/-- which field names are served -/
def okFld (fld : Str) : Bool := decide (fld ≠ "self") && decide (fld ≠ "__class__") && decide (fld ≠ "super") && decide (fld ≠ "__debug__")
/-- what the written part says of the class at C and its __init__ at fI -/
structure SupTxt (prog : Program) (K : Frag) (mg : Str → Option Value) (C fI : Addr) (nm0 fld : Str) : Prop where
  gC : mg nm0 = some (.ref C)
  cls : ∃ nm q N bs bm sn sub ab col dd k0 k1 k2 k3 k5, K.lookup C = some (excClassObj nm q C N bs bm true sn sub ab col dd k0 k1 k2 k3 k5 "ValueError.__new__") ∧ refsVE bm = true
  sa : findIn K (.ref C) "__setattr__" = some (some (.builtin "object.__setattr__"))
  noN : findIn K (.ref C) fld = some none
  iC : findIn K (.ref C) "__init__" = some (some (.ref fI))
  tC : typeIn K (.ref fI) = some (.type "function")
  kC : keepIn K (.ref C) = true
  sup : ks_superIn K C C "__init__" = some (some (.builtin "ValueError.__init__"))
  exV : subIn K (.ref C) (.type "ValueError") = some true
  own : mroIn K C (.ref C) = some true
  nsS : mg "super" = none
  opq : nsIn K cStatics "thirdparty.any" = some none
  okf : okFld fld = true
  fn : ∃ (txt qual : Str) (oc : Value) (od : Option Addr) (doc pm : Value) (an : Option Addr) (cda cc : Addr) (ct : Value) (osl : Array (Option Value)) (p1 p2 a0 a1 a2 a3 a4 a5 q1 q2 q3 q4 : Pos),
    K.lookup fI = some ⟨oc, od, .func (ksFn "__init__" qual (iA fld p1 p2) (iB fld txt a0 a1 a2 a3 a4 a5 q1 q2 q3 q4) (iS fld) .none .none doc pm an (.ref cda) ct cc), osl⟩ ∧ codeIn K (.ref cda) qual = true ∧
    (∃ ccl cdd vs ccs file tf, K.lookup cda = some ⟨ccl, cdd, .fields vs, ccs⟩ ∧ vs[2]? = some (.str file tf) ∧ ((prog.main.file : Str) == file) = true) ∧
    (∃ cl cld csl, K.lookup cc = some ⟨cl, cld, .cell (some (.ref C)), csl⟩) ∧
    (∀ (s : Shared) (x : Addr) (v : Value), BindsTo s (ksFn "__init__" qual (iA fld p1 p2) (iB fld txt a0 a1 a2 a3 a4 a5 q1 q2 q3 q4) (iS fld) .none .none doc pm an (.ref cda) ct cc) ⟨[.ref x, v], []⟩ [("self", .ref x), (fld, v)]) ∧
    (∀ L : Addr, ∃ pl : Sem Bool, eval (.Call (.Attribute (.Call (.Name "super" a0) [] [] a1) "__init__" a2) [.Constant (.str txt) 0 a3] [] a4) (ksEnv qual (iS fld) L fI (.ref cda) cc) = (do
      let ov ← attributeBase (.Call (.Name "super" a0) [] [] a1) "__init__" (ksEnv qual (iS fld) L fI (.ref cda) cc) (eval (.Call (.Name "super" a0) [] [] a1) (ksEnv qual (iS fld) L fI (.ref cda) cc))
      standAt a2.atName
      let (f, first) ← holding [ov] (getMethod ov "__init__" pl)
      callWith a4 f first (backTo a4 (starEach [.Constant (.str txt) 0 a3] (ksEnv qual (iS fld) L fI (.ref cda) cc))) []))
  top : (prog.main.scope.names.lookup ("super" : Str)).isSome = false
theorem one_size (v : Value) : [v].length ≤ sizeLine := by
  rw [sizeLine_eq]
  exact (by decide : 1 ≤ 16777216)
section
variable {prog : Program} {w : World} {A : Around} {E : Value → Shared → Prop} {R : Result → Shared → Prop} {s : Shared} {K : Frag} {mg : Str → Option Value} {C fI : Addr} {nm0 fld : Str}
/-- what __init__ leaves of a fresh exception at x -/
structure InitEnd (h h' : Heap) (x C dx t1 : Addr) (fld : Str) (v : Value) : Prop where
  keep : ∀ b o, b ≠ x → h.get? b = some o → h'.get? b = some o
  obj : h'.get? x = some { cls := .ref C, dict := some dx, data := .fields #[.ref t1, .none, .none, .none, .bool false, .none] }
  dbig : h.objs.size ≤ dx
  dne : dx ≠ x
  ns : h'.Ns1 dx (fun y => if y = fld then some v else none)
/-- the module's names at the heap -/
structure Glob (mg : Str → Option Value) (h : Heap) : Prop where
  g : h.Ns mainGlobals mg
  b : ∃ mb, h.Ns builtinsNs mb ∧ ∀ x : Str, x ≠ "__name__" → mb x = bootBuiltins x
theorem Glob.keeps {h h' : Heap} (G : Glob mg h) (k : ∀ b o, h.get? b = some o → h'.get? b = some o) : Glob mg h' :=
  ⟨G.g.keeps k, let ⟨mb, h1, h2⟩ := G.b; ⟨mb, h1.keeps k, h2⟩⟩
theorem call_mw {u e t0 : Addr} {rest : List Value} {Q : Value → Shared → Prop} {h : Heap} {g : Array GenState} {d : Drawn} {t : Nat} {os : OsState}
    {nm q : Str} {N : Addr} {bs bm : List Value} {hdct : Bool} {sn : List Str} {sub : List Value} {ab : Bool} {col : Option Bool} {dd : Option Addr} {k0 k1 k2 k3 k5 : Option Value}
    (hC : h.get? C = some (excClassObj nm q C N bs bm hdct sn sub ab col dd k0 k1 k2 k3 k5 "ValueError.__new__")) (he : h.get? e = some (excO C t0)) (hu : h.get? u = some (kxs_mw "ValueError.__init__" e)) (hrest : rest.length ≤ sizeLine)
    (hq : ∀ h' t1, (∀ b o, b ≠ e → h.get? b = some o → h'.get? b = some o) → h'.get? e = some (excO C t1) → Q .none ⟨h', g, d, t, os⟩) :
    wpAny (model prog w) A (call (.ref u) rest) Q E ⟨h, g, d, t, os⟩ := by
  refine wpAny_call (codeAny_of_tree ?_)
  show wpAny _ A.in1 (callAny (.ref u) ⟨rest, []⟩) _ _ _
  simp only [callAny]
  refine wpAny_bind (wpAny_load hu ?_)
  simp only [kxs_mw, show (Value.type "method-wrapper" == Value.type "method" || Value.type "method-wrapper" == Value.type "builtin_function_or_method" || Value.type "method-wrapper" == Value.type "method-wrapper") = true by decide, if_true]
  refine KFB.if_so (by decide) ?_
  refine wpAny_bind (check_bound_init F.excBase_ValueError.toExcCallFacts hC he rfl ?_)
  refine wpAny_bind (wpAny_pure (wpAny_pure ?_))
  refine ⟨plainId_quiet F.excBase_ValueError.init.plain _, codeAny_builtin F.excBase_ValueError.initEntry ?_⟩
  wp_walk
  refine hq _ h.objs.size (fun b o hb ho => ?_) ?_
  · rw [Heap.get?_update_other _ _ (Ne.symm hb)]
    exact Heap.get?_push_of_some _ ho
  · rw [Heap.get?_update_self _ (Heap.get?_push_of_some _ he) rfl]
    rfl
theorem kindS {fld : Str} {q : Str} {L f : Addr} {cd : Value} {cc : Addr} : (ksEnv q (iS fld) L f cd cc).kindOf "self" = some .local := rfl
theorem kindF {fld : Str} (ok : okFld fld = true) {q : Str} {L f : Addr} {cd : Value} {cc : Addr} : (ksEnv q (iS fld) L f cd cc).kindOf fld = some .local := by
  have h1 : fld ≠ "self" := by
    unfold okFld at ok
    simp only [Bool.and_eq_true, decide_eq_true_eq] at ok
    exact ok.1.1.1
  show List.lookup fld [(PySem.Str.ofString "self", NameKind.local), (fld, .local), (PySem.Str.ofString "__class__", .free), (PySem.Str.ofString "super", .globalImplicit)] = some .local
  have e1 : (fld == PySem.Str.ofString "self") = false := by simpa using h1
  simp [List.lookup, e1]
theorem look_ne {fld x : Str} (h1 : (x == PySem.Str.ofString "self") = false) (h2 : (x == fld) = false) : (iS fld).names.lookup x = List.lookup x [(PySem.Str.ofString "__class__", NameKind.free), (PySem.Str.ofString "super", .globalImplicit)] := by
  show List.lookup x [(PySem.Str.ofString "self", NameKind.local), (fld, .local), (PySem.Str.ofString "__class__", .free), (PySem.Str.ofString "super", .globalImplicit)] = _
  simp [List.lookup, h1, h2]
theorem ne_cls {fld : Str} (ok : okFld fld = true) : (("__class__" : Str) == fld) = false := by
  unfold okFld at ok
  simp only [Bool.and_eq_true, decide_eq_true_eq] at ok
  have := ok.1.1.2
  simpa using fun z : ("__class__" : Str) = fld => this z.symm
theorem ne_sup {fld : Str} (ok : okFld fld = true) : (("super" : Str) == fld) = false := by
  unfold okFld at ok
  simp only [Bool.and_eq_true, decide_eq_true_eq] at ok
  have := ok.1.2
  simpa using fun z : ("super" : Str) = fld => this z.symm
theorem ne_dbg {fld : Str} (ok : okFld fld = true) : (fld == ("__debug__" : Str)) = false := by
  unfold okFld at ok
  simp only [Bool.and_eq_true, decide_eq_true_eq] at ok
  simpa using ok.2
theorem ne_self {fld : Str} (ok : okFld fld = true) : fld ≠ "self" := by
  unfold okFld at ok
  simp only [Bool.and_eq_true, decide_eq_true_eq] at ok
  exact ok.1.1.1
theorem kindSup {fld : Str} (ok : okFld fld = true) : (iS fld).names.lookup ("super" : Str) = some .globalImplicit := by
  rw [look_ne (by decide +kernel) (ne_sup ok)]
  decide +kernel
theorem kindCls {fld : Str} (ok : okFld fld = true) : (iS fld).names.lookup ("__class__" : Str) = some .free := by
  rw [look_ne (by decide +kernel) (ne_cls ok)]
  decide +kernel
theorem init_walk (T : SupTxt prog K mg C fI nm0 fld) {x t0 : Addr} {v : Value} (X : K.In s.heap) (G : Glob mg s.heap) (hlim : s.heap.NoLimit) (hx : s.heap.get? x = some (excO C t0)) (hnx : K.lookup x = none) (hroom : A.depth < recursionLimit)
    (hq : ∀ h' tk dx t1, InitEnd s.heap h' x C dx t1 fld v → R (.ok (.ret .none)) { s with heap := h', toks := tk }) :
    codeAny (model prog w) A (.call (.ref fI) ⟨[.ref x, v], []⟩) R s := by
  obtain ⟨txt, qual, oc, od, doc, pm, an, cda, cc, ct, osl, p1, p2, a0, a1, a2, a3, a4, a5, q1, q2, q3, q4, ho, hcd, ⟨ccl, cdd, vs, ccs, file, tf, hcode, hvs, hfile⟩, ⟨cl, cld, csl, hcell⟩, hbind0, heval⟩ := T.fn
  obtain ⟨nm, q, N, bs, bm, sn, sub, ab, col, dd, k0, k1, k2, k3, k5, hC, hbm⟩ := T.cls
  have hcl : clsIn K C = some { name := nm, bases := bs, mro := .ref C :: bm, ns := N, qualname := q, hasDict := true, slotNames := sn, subclasses := sub, abstract := ab, collection := col, hasDel := false } := by unfold clsIn; rw [hC] <;> rfl
  have ok := T.okf
  have hfs := ne_self ok
  have hbind : BindsTo s (ksFn "__init__" qual (iA fld p1 p2) (iB fld txt a0 a1 a2 a3 a4 a5 q1 q2 q3 q4) (iS fld) .none .none doc pm an (.ref cda) ct cc) ⟨[.ref x, v], []⟩ [("self", .ref x), (fld, v)] := hbind0 s x v
  refine ks_codeAny_call_defAt (fd := ksFn "__init__" qual (iA fld p1 p2) (iB fld txt a0 a1 a2 a3 a4 a5 q1 q2 q3 q4) (iS fld) .none .none doc pm an (.ref cda) ct cc) (body := iB fld txt a0 a1 a2 a3 a4 a5 q1 q2 q3 q4)
    hroom (X _ _ ho) rfl hlim (codeRec_of X hcd) rfl hbind (fun y hy => ?_) (fun y hy => ?_) (fun h₁ hns k => ?_)
  · have hy' : y ∈ [(PySem.Str.ofString "self", NameKind.local), (fld, .local), (PySem.Str.ofString "__class__", .free), (PySem.Str.ofString "super", .globalImplicit)] := hy
    simp only [List.mem_cons, List.not_mem_nil, or_false] at hy'
    rcases hy' with rfl | rfl | rfl | rfl <;> exact fun z => nomatch z
  · have hy' : y ∈ [(("self" : Str), Value.ref x), (fld, v)] := hy
    simp only [List.mem_cons, List.not_mem_nil, or_false] at hy'
    rcases hy' with rfl | rfl
    · rfl
    · exact kindF (q := qual) (L := 0) (f := 0) (cd := .none) (cc := 0) ok
  · have X₁ : K.In h₁ := X.keeps k
    have hx₁ := k _ _ hx
    have G₁ := G.keeps k
    have hself : (fun y => [(("self" : Str), Value.ref x), (fld, v)].reverse.lookup y) "self" = some (.ref x) := by
      show List.lookup ("self" : Str) [(fld, v), (("self" : Str), Value.ref x)] = some (.ref x)
      have e : (("self" : Str) == fld) = false := by simpa using fun z : ("self" : Str) = fld => hfs z.symm
      simp [List.lookup, e]
    have hfld : (fun y => [(("self" : Str), Value.ref x), (fld, v)].reverse.lookup y) fld = some v := by
      show List.lookup fld [(fld, v), (("self" : Str), Value.ref x)] = some v
      simp [List.lookup]
    show wpAt _ _ _ (execs (_ :: _) (ksEnv qual (iS fld) s.heap.objs.size fI (.ref cda) cc)) _ _ _
    obtain ⟨pl, he⟩ := heval s.heap.objs.size
    refine ks_wpAt_execs_cons (ks_wpAt_Expr_any (ks_wpAt_MethodCall (pl := pl) ?_ he))
    have hD1 := X₁ _ _ hC
    refine ks_wpAt_super_base (env := ksEnv qual (iS fld) s.heap.objs.size fI (.ref cda) cc) (kindSup ok) (kindCls ok) (by decide +kernel) rfl (X₁ _ _ ho) rfl rfl rfl (X₁ _ _ hcode) rfl hvs hfile T.top ?_
    obtain ⟨mb, hb1, hb2⟩ := G₁.b
    refine ks_loadName_global rfl (kindSup ok) (loadGlobal_builtin (env := ksEnv qual (iS fld) s.heap.objs.size fI (.ref cda) cc) G₁.g T.nsS hb1 ((hb2 _ (by decide +kernel)).trans (by decide +kernel)) ⟨rfl, ?_⟩)
    refine wpAny_loadName_free rfl (kindCls ok) rfl ⟨_, X₁ _ _ hcell, rfl⟩ ?_
    refine wpAny_loadName_local rfl kindS hns hself ?_
    refine ks_wpAny_isType_cls hD1 rfl ⟨rfl, ?_⟩
    refine ks_wpAny_call_super (h := h₁) hD1 rfl hx₁ rfl (fun c e => nomatch e) (looks_mroIn X₁ T.own) (fun h₂ e₂ k₂ => ?_)
    have X₂ := X₁.keeps k₂
    have hx₂ := k₂ _ _ hx₁
    have I₂ : InstAt h₂ x (excO C t0) C none := ⟨hx₂, rfl, rfl, trivial⟩
    have hI : Looks (model prog w) h₂ (isInstance (.ref x) (.type "ValueError")) true := I₂.type.andThen (looks_subIn X₂ T.exV)
    have hsp := T.sup
    unfold ks_superIn at hsp
    rw [hcl] at hsp
    refine kxs_getMethod (K := K) kxs_ValueError e₂ (looks_opaque X₂ T.opq) (l₀ := .ref C :: bm) ?_ rfl X₂ hsp hI (ks_ne X₂ I₂ hcl) (by decide +kernel) ?_
    · exact fun A Q E s k q => wpAny_bind ((looks_clsIn X₂ hcl) A _ E s k (wpAny_pure q))
    have hmw : (h₂.push (kxs_mw "ValueError.__init__" x)).get? h₂.objs.size = some (kxs_mw "ValueError.__init__" x) := Heap.get?_push_at rfl rfl
    refine kxs_callWith (i := "ValueError.__init__") (x := x) (by rfl) (evalArgs_plain ?_)
    show wpAny _ _ (spliced [(false, eval (.Constant (.str txt) 0 a3) (ksEnv qual (iS fld) s.heap.objs.size fI (.ref cda) cc))]) _ _ _
    refine Calls.spliced_cons (Calls.Constant_str (Calls.spliced_nil ⟨hmw, ?_⟩))
    have kp : ∀ b o, h₂.get? b = some o → (h₂.push (kxs_mw "ValueError.__init__" x)).get? b = some o := fun b o e => Heap.get?_push_of_some _ e
    refine call_mw (kp _ _ (X₂ _ _ hC)) (kp _ _ hx₂) hmw (one_size _) fun h₃ t1 k₃ hx₃ => ?_
    have hxL : s.heap.objs.size ≠ x := Nat.ne_of_gt (Heap.lt_size hx)
    have kk : ∀ b o, b ≠ x → h₁.get? b = some o → h₃.get? b = some o := fun b o hb e => k₃ b o hb (kp b o (k₂ b o e))
    have knew : ∀ b o, b ≠ x → s.heap.get? b = some o → h₃.get? b = some o := fun b o hb e => kk b o hb (k b o e)
    have X₃ : K.In h₃ := fun b o e => knew b o (fun z => by rw [z, hnx] at e; cases e) (X b o e)
    have hns₃ : h₃.Ns s.heap.objs.size (fun y => [(("self" : Str), Value.ref x), (fld, v)].reverse.lookup y) := by
      obtain ⟨o, es, ep, e, r⟩ := hns
      exact ⟨o, es, ep, kk _ _ hxL e, r⟩
    -- self.fld = v
    refine ks_wpAt_execs_cons (wpAt_of_wpAny (plainObj_wpAny_Assign_Attribute ?_))
    refine wpAny_Name (wpAny_loadName_local rfl (kindF ok) hns₃ hfld ?_) (ne_dbg ok)
    refine wpAny_Name (wpAny_loadName_local rfl kindS hns₃ hself ?_) (by decide +kernel)
    refine set_plain X₃ (ox := excO C t1) (od := none) ⟨hx₃, rfl, rfl, trivial⟩ T.sa ?_
    refine exc_osa X₃ hx₃ hcl (show refsVE (.ref C :: bm) = true from hbm) rfl T.noN (fun h₄ tk₄ dx k₄ dn dne hx₄ hn₄ => ?_)
    refine wpAt_of_wpAny (wpAny_execs_nil ?_)
    have z : s.heap.objs.size < h₃.objs.size := hns₃.lt
    exact hq h₄ tk₄ dx t1 ⟨fun b o hb e => k₄ b o hb (knew b o hb e), hx₄, Nat.le_of_lt (Nat.lt_of_lt_of_le z dn), dne, hn₄⟩
/-- a made one -/
structure Made (h h' : Heap) (e C d : Addr) (fld : Str) (v : Value) : Prop where
  keep : ∀ b o, h.get? b = some o → h'.get? b = some o
  new : h.objs.size ≤ e
  obj : ∃ t1 : Addr, h'.get? e = some { cls := .ref C, dict := some d, data := .fields #[.ref t1, .none, .none, .none, .bool false, .none] }
  dbig : h.objs.size ≤ d
  dne : d ≠ e
  ns : h'.Ns1 d (fun y => if y = fld then some v else none)
theorem made (T : SupTxt prog K mg C fI nm0 fld) {v : Value} (X : K.In s.heap) (G : Glob mg s.heap) (hlim : s.heap.NoLimit) (hroom : A.depth + 1 < recursionLimit)
    (hq : ∀ h' tk e d, Made s.heap h' e C d fld v → R (.ok (.ret (.ref e))) { s with heap := h', toks := tk }) :
    codeAny (model prog w) A (.call (.ref C) ⟨[v], []⟩) R s := by
  obtain ⟨nm, q, N, bs, bm, sn, sub, ab, col, dd, k0, k1, k2, k3, k5, hC, hbm⟩ := T.cls
  obtain ⟨hp, g, dr, tk, os⟩ := s
  have k : ∀ b o, hp.get? b = some o → ((hp.push (kdv_tup [v])).push (excO C hp.objs.size)).get? b = some o := fun b o e => Heap.get?_push_of_some _ (Heap.get?_push_of_some _ e)
  have hget : ((hp.push (kdv_tup [v])).push (excO C hp.objs.size)).get? (hp.objs.size + 1) = some (excO C hp.objs.size) := by heap_get
  have hnx : K.lookup (hp.objs.size + 1) = none := by
    cases e : K.lookup (hp.objs.size + 1) with
    | none => rfl
    | some o =>
      have z : hp.get? (hp.objs.size + 1) = some o := X _ _ e
      exact absurd (Nat.lt_of_succ_lt (Heap.lt_size z)) (Nat.lt_irrefl _)
  refine call_own F.excBase_ValueError (fun X => refsVE_contains X bm hbm) (X _ _ hC) (looks_findIn X T.iC) (fun self => bind_fn X self T.tC) (one_size v) ?_
  refine init_walk (s := ⟨(hp.push (kdv_tup [v])).push (excO C hp.objs.size), g, dr, tk, os⟩) T (X.keeps k) (G.keeps k) (hlim.keeps k) hget hnx ?_ fun h' tk' dx t1 ⟨k', hx, dn, dne, hns⟩ => ?_
  · show A.depth + 1 < recursionLimit
    exact hroom
  · have old : ∀ b o, hp.get? b = some o → h'.get? b = some o := fun b o e => k' b o (Nat.ne_of_lt (Nat.lt_succ_of_lt (Heap.lt_size e))) (k b o e)
    have z : hp.objs.size + 1 + 1 ≤ dx := by
      first
        | (simpa only [Heap.size_push] using dn)
        | exact dn
        | (have q := dn; rw [Heap.size_push, Heap.size_push] at q; exact q)
    exact ⟨rfl, hq h' tk' (hp.objs.size + 1) dx ⟨old, Nat.le_succ _, ⟨t1, hx⟩, Nat.le_trans (Nat.le_trans (Nat.le_succ _) (Nat.le_succ _)) z, dne, hns⟩⟩
end
end SupX
end PySem

set_option Elab.async false
set_option linter.all false
set_option maxRecDepth 100000
set_option maxHeartbeats 4000000
/-! Own exceptions as values over the hand layer: made, asked for their class, their field read. -/
namespace EV
open PySem PySem.Spec PyProof.Rows L2
section
variable {X : Cx} {C fI : Addr} {nm0 fld : Str}
/-- C(v): a new exception at e, its own dict at d -/
def tMkS (C : Addr) (fld : Str) (ta : TA) : TE := fun σ H Q => ta σ H fun vs H1 => ∃ v, vs = [v] ∧ ∀ e d, H1 e = none → H1 d = none → d ≠ e → Q (.ref e) (upd (upd H1 d (exd d [(fld, v)])) e (exo e C (some d)))
theorem relO_one {v : V} {v' : Value} {fld : Str} (r : RelV v v') (f : Str) : RelO (List.lookup f [(fld, v)]) (if f = fld then some v' else none) := relO_put (fs := []) (mA := fun _ => none) r (fun _ => True.intro) f
theorem globOf {pins : List (Addr × Obj)} {σ : L2.St} {H : Hp} {s : Shared} (I : Inv X pins σ H s) : SupX.Glob X.mg s.heap :=
  ⟨I.mod.glob.keeps I.bk, let ⟨mb, h1, h2⟩ := I.mod.blt; ⟨mb, h1.keeps I.bk, h2⟩⟩
theorem laid2 {pins : List (Addr × Obj)} {σ : L2.St} {H1 : Hp} {hp h' : Heap} {g : Array GenState} {dr : Drawn} {tk tk' : Nat} {os : OsState} {e d : Addr} {oe od : HO} (I1 : Inv X pins σ H1 ⟨hp, g, dr, tk, os⟩)
    (keep : ∀ b o, hp.get? b = some o → h'.get? b = some o) (ne : hp.objs.size ≤ e) (nd : hp.objs.size ≤ d) (dne : d ≠ e)
    (okd : ∀ (G : Heap) (H : Hp), G.get? d = h'.get? d → ObjOk X.prog X.w H G d od) (oke : ∀ H : Hp, ObjOk X.prog X.w H h' e oe) : Inv X pins σ (upd (upd H1 d od) e oe) ⟨h', g, dr, tk', os⟩ := by
  obtain ⟨G, g1, g2⟩ := restrict h' fun b => decide (b ≠ e)
  have gk : ∀ b, b ≠ e → G.get? b = h'.get? b := fun b hb => g1 b (decide_eq_true hb)
  have ge : G.get? e = none := g2 e (by simp)
  have old : ∀ b o, hp.get? b = some o → G.get? b = some o := fun b o q => (gk b (Nat.ne_of_lt (Nat.lt_of_lt_of_le (Heap.lt_size q) ne))).trans (keep b o q)
  have J : Inv X pins σ (upd H1 d od) ⟨G, g, dr, tk', os⟩ := I1.laid (t' := tk') old nd (okd G _ (gk d dne))
  have hn : (upd H1 d od) e = none := by rw [upd_ne (Ne.symm dne)]; exact I1.hok.fresh ne
  exact J.laidN (t' := tk') (h' := h') (fun b o q => by
    have hb : b ≠ e := fun z => by
      have q' : G.get? b = some o := q
      rw [z, ge] at q'
      cases q'
    exact (gk b hb).symm.trans q) ge hn (oke _)
theorem pe_mkS {a : Expr} {ta : TA} {p pos : Pos} {k : Nat} (T : SupX.SupTxt X.prog X.K X.mg C fI nm0 fld) (hr : Room k X.A) (ha : PA X [a] ta) (hg : Gl X nm0 := by rfl) (hdb : (nm0 == ("__debug__" : Str)) = false := by decide +kernel)
    (he : starEach (a :: []) X.env = (false, eval a X.env) :: starEach [] X.env := by rfl) (hpl : (backTo pos (starEach [] X.env)).any (·.1) = false := by rfl) :
    PE X (.Call (.Name nm0 p) [a] [] pos) (tMkS C fld ta) := by
  refine ⟨fun pins s σ H Q I h => ?_⟩
  refine wpAny_Call_Name_kw (ld_glob I hg T.gC ?_ hdb)
  refine PySem.W.callWith_K (h₀ := X.base) I.ok.mod.kin T.kC (thn (ha.run pos pins s σ H _ I h) fun us s1 hh => ?_) he hpl
  obtain ⟨vs, H1, I1, r1, v, ev, q1⟩ := hh
  subst ev
  refine ⟨I1.kIn, ?_⟩
  cases r1 with
  | cons rv rn =>
    rename_i v' us'
    cases rn
    show wpAny _ _ (call (.ref C) [v']) _ _ _
    have hlim := I1.nolimit
    have G1 := globOf I1
    obtain ⟨hp, g, dr, tk, os⟩ := s1
    refine wpAny_call (SupX.made T I1.kIn G1 hlim (by have := hr.dp; omega) fun h' tk' e d M => ?_)
    show EP X pins σ Q (.ref e) ⟨h', g, dr, tk', os⟩
    obtain ⟨t1, hoe⟩ := M.obj
    refine ⟨.ref e, _, laid2 (oe := exo e C (some d)) (od := exd d [(fld, v)]) I1 M.keep M.new M.dbig M.dne (fun G H hG => exd_ok (M.ns.at fun o q => hG.trans q) (relO_one rv)) (fun H => exo_ok hoe), rfl, q1 e d (I1.hok.fresh M.new) (I1.hok.fresh M.dbig) M.dne⟩
/-- C(), no own __init__ -/
def tMk0 (C : Addr) : TE := fun _ H Q => ∀ e, H e = none → Q (.ref e) (upd H e (exo e C none))
theorem pe_mk0 {bmB : List Value} {B newId initId : String} {x : Str} {p pos : Pos} (F : ExcBaseFacts B newId initId bmB) (q : PySem.W.excIn X.K C bmB newId = true) (gC : X.mg x = some (.ref C)) (kC : PySem.W.keepIn X.K (.ref C) = true) (hg : Gl X x := by rfl)
    (hdb : (x == ("__debug__" : Str)) = false := by decide +kernel) : PE X (.Call (.Name x p) [] [] pos) (tMk0 C) := by
  refine ⟨fun pins s σ H Q I h => ?_⟩
  refine wpAny_Call_Name_kw (ld_glob I hg gC ?_ hdb)
  refine PySem.W.callWith_K0 I.kIn kC ?_
  show wpAny _ _ (call (.ref C) []) _ _ _
  obtain ⟨bm, N, nm, qn, bs, hdct, sn, sub, ab, col, dd, k0, k1, k2, k3, k5, mN, hC, hN, hni, T⟩ := exc_obj I.kIn q
  obtain ⟨hp, g, dr, tk, os⟩ := s
  refine wpAny_call_exc_subT F T hC hN hni (fun h' e hm => ?_) (by show 0 ≤ sizeLine; exact Nat.zero_le _)
  show EP X pins σ Q (.ref e) ⟨h', g, dr, tk, os⟩
  obtain ⟨t1, hoe, _⟩ := hm.there
  have hn : H e = none := I.hok.gone hm.new
  exact ⟨.ref e, _, I.laidN (t' := tk) (h' := h') (o := exo e C none) hm.keeps hm.new hn (exo_ok hoe), rfl, h e hn⟩
/-- isinstance(e, c), e an exception of an own class -/
def XAt (H : Hp) (a C : Addr) : Prop := ∃ (d : Option Addr) (fs : List (Str × V)), H a = some (exo a C d) ∧ ∀ dd, d = some dd → H dd = some (exd dd fs)
def SameH (H H' : Hp) : Prop := ∀ b o, H b = some o → H' b = some o
theorem XAt.same {H H' : Hp} {a C : Addr} (x : XAt H a C) (k : SameH H H') : XAt H' a C :=
  let ⟨d, fs, e, f⟩ := x; ⟨d, fs, k _ _ e, fun dd q => k _ _ (f dd q)⟩
theorem SameH.refl {H : Hp} : SameH H H := fun _ _ e => e
theorem SameH.trans {H H1 H2 : Hp} (a : SameH H H1) (b : SameH H1 H2) : SameH H H2 := fun c o e => b c o (a c o e)
theorem SameH.new {H : Hp} {p : Addr} {o : HO} (h : H p = none) : SameH H (upd H p o) := fun b u e => by rw [upd_ne (ne_of_none e h)]; exact e
def rIsX (K : PySem.W.Frag) : List V → Hp → VK → Prop := fun xs H Q => ∃ (a C : Addr) (c : V) (u : Value) (b : Bool), xs = [.ref a, c] ∧ ClsV c u ∧ XAt H a C ∧ ExcC K C ∧ PySem.W.kitOne K (.ref C) u = some b ∧ Q (.bl b) H
theorem call_isX : CallR X (.builtin "isinstance") (rIsX X.K) := by
  intro pins s σ H xs us Q I r h
  obtain ⟨a, C, c, u, b, rfl, k, ⟨d, fs, ea, ed⟩, T, e, q⟩ := h
  obtain ⟨u1, u2, rfl, r1, r2⟩ := vals2 r
  have e2 := k.eq r2
  subst e2
  cases r1
  obtain ⟨t1, ho⟩ := exo_at I.hok ea
  have J : ∃ od, PySem.W.InstAt s.heap a { cls := .ref C, dict := d, data := .fields #[.ref t1, .none, .none, .none, .bool false, .none] } C od := by
    cases d with
    | none => exact ⟨none, ho, rfl, rfl, trivial⟩
    | some dd =>
      obtain ⟨mA, ⟨oD, es, ep, hD, _⟩, _⟩ := exd_at I.hok (ed dd rfl)
      exact ⟨some oD, ho, rfl, rfl, hD⟩
  obtain ⟨od, J⟩ := J
  obtain ⟨cd, hcd, _⟩ := PySem.W.any_some T.hd
  refine PySem.W.kia_one (PySem.W.kitx_exc (gt := none) (by rw [hcd]; rfl) T.hg T.hk T.hs T.ha T.hn T.ht T.hm) I.kIn J e (fun z => nomatch z) fun tk => ⟨.bl b, H, I.kept (t' := tk) fun _ _ z => z, rfl, q⟩
/-- e.f, e an exception of an own class with its own dict -/
def tXF (K : PySem.W.Frag) (f : Str) (te : TE) : TE := fun σ H Q => te σ H fun x H1 => ∃ (a C d : Addr) (fs : List (Str × V)) (v : V), x = .ref a ∧ H1 a = some (exo a C (some d)) ∧ H1 d = some (exd d fs) ∧
  XfC K C ∧ PySem.W.findIn K (.ref C) f = some none ∧ fs.lookup f = some v ∧ Q v H1
theorem pe_xF {e : Expr} {te : TE} {f : Str} {pos : Pos} (he : PE X e te) (hb : attributeBase e f X.env (eval e X.env) = eval e X.env := by rfl) : PE X (.Attribute e f pos) (tXF X.K f te) := by
  refine ⟨fun pins s σ H Q I h => ?_⟩
  refine attr_of hb (thn (he.run pins s σ H _ I h) fun u s1 hh => ?_)
  obtain ⟨x, H1, I1, rx, a, C, d, fs, v, ex, ea, ed, T, hno, l, q⟩ := hh
  subst ex
  obtain rfl : u = Value.ref a := rx
  obtain ⟨t1, ho⟩ := exo_at I1.hok ea
  obtain ⟨mA, hns, hr⟩ := exd_at I1.hok ed
  obtain ⟨od, hod, hl⟩ := lookIn_ns hns
  obtain ⟨u, hu, ru⟩ := RelO.some_of (v := v) (o := mA f) (by rw [← l]; exact hr f)
  have J : PySem.W.InstAt s1.heap a { cls := .ref C, dict := some d, data := .fields #[.ref t1, .none, .none, .none, .bool false, .none] } C (some od) := ⟨ho, rfl, rfl, hod⟩
  exact HandSPX.exc_get I1.kIn J T.ga T.gg T.exC (PySem.W.findObj_own T.hdC hno rfl (by rw [hl, hu])) (handed_of ru) ⟨v, H1, I1.tok _, ru, q⟩
end
end EV

set_option Elab.async false
set_option linter.all false
set_option maxRecDepth 100000
set_option maxHeartbeats 4000000
namespace E75
open PySem L2 EV
def top (i : Nat) : Stmt := PySem.Challenge.pw_allmends_k75_errors_by_position.main.body.getD i (.Pass ⟨0, 0, 0, 0⟩)
abbrev sReader : Stmt := top 23
abbrev sNext : Stmt := top 24
abbrev sSame : Stmt := top 25
abbrev sInputs : Stmt := top 26
abbrev sOthers : Stmt := top 27
abbrev sIs : Stmt := top 28
abbrev sAttr : Stmt := top 29
abbrev sLaw : Stmt := top 30
/-- a new list of three ints -/
def spReader (K : PySem.W.Frag) : Sp := fun vs H Q _ => ∃ (a : Addr) (ns : List Int), vs = [.ref a, .int 0] ∧ SqL K H a (ns.map V.int) ∧
  ∀ (p : Addr) (c d : Int), H p = none → Q (.ref p) (upd H p (.lst [.int c, .int 0, .int d]))
def spNext : Sp := fun vs H Q _ => ∃ (r : Addr) (a k b n : Int), vs = [.ref r, .int n] ∧ H r = some (.lst [.int a, .int k, .int b]) ∧ 0 < n ∧ n < 100000 ∧
  ∀ (v k' b' : Int), 0 ≤ v → v < n → Q (.int v) (upd H r (.lst [.int a, .int k', .int b']))
theorem itT {c : Bool} {A B : Prop} (hc : c = true) (h : A) : if c = true then A else B := by
  rw [if_pos hc]
  exact h
theorem itF {c : Bool} {A B : Prop} (hc : c = false) (h : B) : if c = true then A else B := by
  rw [hc, if_neg Bool.false_ne_true]
  exact h
theorem fmod_bd (i : Int) {j : Int} (h : 0 < j) : 0 ≤ Int.fmod i j ∧ Int.fmod i j < j := by
  have e1 : Int.fmod i j = i % j := Int.fmod_eq_emod_of_nonneg _ (by omega)
  rw [e1]
  exact ⟨Int.emod_nonneg _ (by omega), Int.emod_lt_of_pos _ h⟩
structure Blt (mg : Str → Option Value) : Prop where
  len : mg "len" = none
  int : mg "int" = none
  isi : mg "isinstance" = none
  str : mg "str" = none
  bool : mg "bool" = none
  range : mg "range" = none
  all : mg "all" = none
  ve : mg "ValueError" = none
section
variable {P : Program} {w : World} {K : PySem.W.Frag} {mg : Str → Option Value} {base : Heap}
theorem scR : FnScope ["script", "k", "cell"] ["script", "k"] (defScope sReader) := ⟨rfl, rfl, rfl, by decide +kernel, rfl, by decide +kernel, by decide +kernel⟩
theorem ok_reader {f : Addr} {fd : FuncData} (F : Fun K "_law_reader" "_law_reader" sReader f fd) (T : Blt mg) : FnOk P w K mg base CX0 1 f fd ["script", "k"] (spReader K) := by
  refine F.ok scR (fun vs H Q E h => ?_) (fun cdv A outer s H vs Q E hr h => ?_)
  · obtain ⟨a, ns, rfl, _⟩ := h
    rfl
  · obtain ⟨a, ns, rfl, hS, k⟩ := h
    refine ⟨_, pss_cons (ps_set (i := 2) scR.nd rfl (Or.inl rfl) (pe_ifExp (pt_cmpR op_lt (pv 1) (pe_callB call_len_seq (by rfl) T.len PySem.boot_len (pa_cons (pv 0) pa_nil)) (nomark _)) (pe_ix ix_list (pv 0) (pv 1) (fun _ _ => rfl)) pe_int))
      (pss_one (ps_ret (pe_lst (pa_cons (pv 2) (pa_cons pe_int (pa_cons (pe_op op_sub (pv 2) (pe_op op_pow pe_int pe_int)) pa_nil)))))), ?_⟩
    refine ⟨_, rfl, _, rfl, a, _, rfl, .inl hS, _, _, rfl, rfl, _, rfl, ?_⟩
    cases ns with
    | nil =>
      refine itF (by decide) ?_
      refine ⟨_, rfl, _, rfl, _, _, rfl, rfl, ⟨by decide, by decide, by decide⟩, _, _, rfl, rfl, (by show 3 ≤ sizeLine; decide), fun p hp => ?_⟩
      exact k p _ _ hp
    | cons c ns =>
      refine itT (decide_eq_true (by simp)) ?_
      refine ⟨_, rfl, _, rfl, a, _, _, _, rfl, rfl, hS, atI_nat (j := 0) rfl, ?_⟩
      refine ⟨_, rfl, _, rfl, _, _, rfl, rfl, ⟨by decide, by decide, by decide⟩, _, _, rfl, rfl, (by show 3 ≤ sizeLine; decide), fun p hp => ?_⟩
      exact k p _ _ hp
theorem scN : FnScope ["reader", "size", "k", "rest", "mixed"] ["reader", "size"] (defScope sNext) := ⟨rfl, rfl, rfl, by decide +kernel, rfl, by decide +kernel, by decide +kernel⟩
theorem ok_next {f : Addr} {fd : FuncData} (F : Fun K "_law_next" "_law_next" sNext f fd) (T : Blt mg) : FnOk P w K mg base CX0 1 f fd ["reader", "size"] spNext := by
  refine F.ok scN (fun vs H Q E h => ?_) (fun cdv A outer s H vs Q E hr h => ?_)
  · obtain ⟨r, a, k, b, n, rfl, _⟩ := h
    rfl
  · obtain ⟨r, a, kk, b, n, rfl, hR, h0, h1, k⟩ := h
    refine ⟨_, pss_cons (ps_set (i := 2) scN.nd rfl (Or.inl rfl) (pe_ix ix_list (pv 0) pe_int (fun _ _ => rfl)))
      (pss_cons (ps_asg (pe_op op_add (pv 2) pe_int) (pg_sub (pv 0) pe_int set_list))
      (pss_cons (ps_if (PW.pt (pw_and (pt_cmpR op_ge (pe_ix ix_list (pv 0) pe_int (fun _ _ => rfl)) (pe_op op_pow pe_int pe_int) (nomark _)) (pw_and1 (pt_cmpR op_gt (pe_ix ix_list (pv 0) pe_int (fun _ _ => rfl)) pe_int (nomark _)))))
        (pss_cons (ps_set (i := 3) scN.nd rfl (Or.inl rfl) (pe_ix ix_list (pv 0) pe_int (fun _ _ => rfl)))
        (pss_cons (ps_asg (pe_op op_fdivN (pv 3) (pv 1)) (pg_sub (pv 0) pe_int set_list))
        (pss_one (ps_ret (pe_op op_modN (pe_callTy call_int1 (by rfl) T.int (by decide +kernel) (pa_cons (pv 3) pa_nil)) (pv 1)))))) pss_nil)
      (pss_cons (ps_set (i := 4) scN.nd rfl (Or.inl rfl) (pe_op op_modN (pe_callTy call_int1 (by rfl) T.int (by decide +kernel) (pa_cons (pe_op op_add (pe_op op_add (pe_ix ix_list (pv 0) pe_int (fun _ _ => rfl)) (pe_op op_mul pe_int (pv 2))) pe_int) pa_nil)) pe_int))
      (pss_cons (ps_set (i := 4) scN.nd rfl (Or.inl rfl) (pe_op op_modN (pe_callTy call_int1 (by rfl) T.int (by decide +kernel) (pa_cons (pe_op op_mul (pv 4) (pe_op op_add (pv 4) pe_int)) pa_nil)) pe_int))
      (pss_cons (ps_set (i := 4) scN.nd rfl (Or.inl rfl) (pe_op op_modN (pe_callTy call_int1 (by rfl) T.int (by decide +kernel) (pa_cons (pe_op op_add (pe_op op_mul (pv 4) (pe_op op_add (pv 4) pe_int)) (pe_op op_mul pe_int (pv 2))) pa_nil)) pe_int))
      (pss_one (ps_ret (pe_op op_modN (pe_callTy call_int1 (by rfl) T.int (by decide +kernel) (pa_cons (pe_op op_fdivN (pv 4) pe_int) pa_nil)) (pv 1))))))))), ?_⟩
    -- k = reader[1]; reader[1] = k + 1
    have sl : ∀ (H' : Hp) (x y z : Int), H' r = some (.lst [.int x, .int y, .int z]) → SqL K H' r [.int x, .int y, .int z] := fun H' x y z e => SqL.of e
    refine ⟨_, rfl, _, _, _, _, rfl, rfl, sl _ _ _ _ hR, rfl, ?_⟩
    refine ⟨_, rfl, _, _, rfl, rfl, _, rfl, r, _, 1, 1, rfl, rfl, hR, rfl, ?_⟩
    have h2 : (upd H r (.lst [.int a, .int (kk + 1), .int b])) r = some (.lst [.int a, .int (kk + 1), .int b]) := upd_same
    refine ⟨_, rfl, _, _, _, _, rfl, rfl, sl _ _ _ _ h2, rfl, _, _, rfl, rfl, ⟨by decide, by decide, by decide⟩, _, _, rfl, rfl, _, rfl, ?_⟩
    have fin : ∀ (i : Int) (k' b' : Int) (H' : Hp), H' = upd H r (.lst [.int a, .int k', .int b']) → Q (.int (Int.fmod i n)) H' := fun i k' b' H' e => by
      subst e
      have e1 : Int.fmod i n = i % n := Int.fmod_eq_emod_of_nonneg _ (by omega)
      exact k _ _ _ (by rw [e1]; exact Int.emod_nonneg _ (by omega)) (by rw [e1]; exact Int.emod_lt_of_pos _ h0)
    refine ite2 (fun c1 => ?_) (fun c1 => ?_)
    · refine ⟨_, rfl, _, _, _, _, rfl, rfl, sl _ _ _ _ h2, rfl, _, _, rfl, rfl, _, rfl, ?_⟩
      refine ite2 (fun c2 => ?_) (fun c2 => ?_)
      · refine ⟨_, rfl, _, _, _, _, rfl, rfl, sl _ _ _ _ h2, rfl, ?_⟩
        refine ⟨_, rfl, _, rfl, _, _, rfl, rfl, ⟨by omega, by omega⟩, _, rfl, r, _, 2, 2, rfl, rfl, h2, rfl, ?_⟩
        refine ⟨_, rfl, .inl ⟨_, rfl, _, rfl, _, _, rfl, rfl, (by omega), fin _ _ _ _ upd_upd⟩⟩
      · have b1 := fmod_bd (a + 7919 * kk + 13) (j := 2147483647) (by decide)
        refine ⟨_, rfl, _, _, _, _, rfl, rfl, sl _ _ _ _ h2, rfl, _, rfl, _, _, rfl, rfl, .inl ⟨by decide, by decide⟩, _, _, rfl, rfl, _, _, rfl, rfl, .inl ⟨_, rfl, _, _, rfl, rfl, (show (2147483647 : Int) ≠ 0 by decide), ?_⟩⟩
        have b2 := fmod_bd (Int.fmod (a + 7919 * kk + 13) 2147483647 * (Int.fmod (a + 7919 * kk + 13) 2147483647 + 48271)) (j := 2147483629) (by decide)
        refine ⟨_, rfl, _, rfl, _, _, rfl, rfl, _, _, rfl, rfl, .inl ⟨by omega, by omega⟩, .inl ⟨_, rfl, _, _, rfl, rfl, (show (2147483629 : Int) ≠ 0 by decide), ?_⟩⟩
        refine ⟨_, rfl, _, rfl, _, _, rfl, rfl, _, _, rfl, rfl, .inl ⟨by omega, by omega⟩, _, rfl, _, _, rfl, rfl, .inl ⟨by decide, by decide⟩, _, _, rfl, rfl, .inl ⟨_, rfl, _, _, rfl, rfl, (show (2147483647 : Int) ≠ 0 by decide), ?_⟩⟩
        exact ⟨_, rfl, _, _, rfl, rfl, ⟨by decide, by decide⟩, .inl ⟨_, rfl, _, rfl, _, _, rfl, rfl, (by omega), fin _ _ _ _ rfl⟩⟩
    · refine iteF ?_
      have b1 := fmod_bd (a + 7919 * kk + 13) (j := 2147483647) (by decide)
      refine ⟨_, rfl, _, _, _, _, rfl, rfl, sl _ _ _ _ h2, rfl, _, rfl, _, _, rfl, rfl, .inl ⟨by decide, by decide⟩, _, _, rfl, rfl, _, _, rfl, rfl, .inl ⟨_, rfl, _, _, rfl, rfl, (show (2147483647 : Int) ≠ 0 by decide), ?_⟩⟩
      have b2 := fmod_bd (Int.fmod (a + 7919 * kk + 13) 2147483647 * (Int.fmod (a + 7919 * kk + 13) 2147483647 + 48271)) (j := 2147483629) (by decide)
      refine ⟨_, rfl, _, rfl, _, _, rfl, rfl, _, _, rfl, rfl, .inl ⟨by omega, by omega⟩, .inl ⟨_, rfl, _, _, rfl, rfl, (show (2147483629 : Int) ≠ 0 by decide), ?_⟩⟩
      refine ⟨_, rfl, _, rfl, _, _, rfl, rfl, _, _, rfl, rfl, .inl ⟨by omega, by omega⟩, _, rfl, _, _, rfl, rfl, .inl ⟨by decide, by decide⟩, _, _, rfl, rfl, .inl ⟨_, rfl, _, _, rfl, rfl, (show (2147483647 : Int) ≠ 0 by decide), ?_⟩⟩
      exact ⟨_, rfl, _, _, rfl, rfl, ⟨by decide, by decide⟩, .inl ⟨_, rfl, _, rfl, _, _, rfl, rfl, (by omega), fin _ _ _ _ rfl⟩⟩
end
/-- what the walk asks of the classes: C n the n-th of the seventeen -/
def cn : List Str := ["InvalidText", "InvalidProgram", "InvalidContract", "InvalidChange", "InvalidStream", "InvalidPlaces", "InvalidEdit", "InvalidLine", "InvalidName", "Mismatch", "TooLarge", "TooLong", "TooManyCases", "NameTaken", "UnknownName", "NothingToUndo", "NothingToRedo"]
structure Txt (K : PySem.W.Frag) (mg : Str → Option Value) (Cm Ci Cb Cd : Addr) (C : Nat → Addr) : Prop where
  blt : Blt mg
  gM : mg "MendError" = some (.ref Cm)
  gI : mg "InvalidInput" = some (.ref Ci)
  gB : mg "BoundError" = some (.ref Cb)
  gD : mg "DeskError" = some (.ref Cd)
  g : ∀ (n : Nat) (x : Str), cn[n]? = some x → mg x = some (.ref (C n))
  exc : ∀ n, n < 17 → ExcC K (C n)
  kit : ∀ n m, n < 17 → m < 17 → PySem.W.kitOne K (.ref (C n)) (.ref (C m)) = some (decide (m = n))
  kM : ∀ n, n < 17 → PySem.W.kitOne K (.ref (C n)) (.ref Cm) = some true
  kV : ∀ n, n < 17 → PySem.W.kitOne K (.ref (C n)) (.type "ValueError") = some true
  kI : ∀ n, n < 17 → PySem.W.kitOne K (.ref (C n)) (.ref Ci) = some (decide (n < 10))
  kB : ∀ n, n < 17 → PySem.W.kitOne K (.ref (C n)) (.ref Cb) = some (decide (9 < n) && decide (n < 13))
  kD : ∀ n, n < 17 → PySem.W.kitOne K (.ref (C n)) (.ref Cd) = some (decide (12 < n))
def spSame : Sp := fun vs H Q _ => ((∃ z, vs = [.str z, .str z]) ∨ ∃ i, vs = [.int i, .int i]) ∧ Q (.bl true) H
def bls (lo k n : Nat) : List V := (List.range k).map fun m => V.bl (decide (lo + m = n))
def spIns (C : Nat → Addr) (lo k : Nat) : Sp := fun vs H Q _ => ∃ (a : Addr) (n : Nat), vs = [.ref a] ∧ n < 17 ∧ XAt H a (C n) ∧ ∀ (p : Addr) (H' : Hp), SameH H H' → H' p = some (.lst (bls lo k n)) → Q (.ref p) H'
section
variable {P : Program} {w : World} {K : PySem.W.Frag} {mg : Str → Option Value} {base : Heap} {Cm Ci Cb Cd : Addr} {C : Nat → Addr}
theorem scS : FnScope ["told", "due"] ["told", "due"] (defScope sSame) := ⟨rfl, rfl, rfl, by decide +kernel, rfl, by decide +kernel, by decide +kernel⟩
theorem ok_same {f : Addr} {fd : FuncData} (F : Fun K "_law_same" "_law_same" sSame f fd) (T : Blt mg) : FnOk P w K mg base CX0 1 f fd ["told", "due"] spSame := by
  refine F.ok scS (fun vs H Q E h => ?_) (fun cdv A outer s H vs Q E hr h => ?_)
  · obtain ⟨⟨z, rfl⟩ | ⟨z, rfl⟩, _⟩ := h <;> rfl
  · refine ⟨_, pss_cons (ps_if (pt_val (pe_callB call_isi (by rfl) T.isi (by decide +kernel) (pa_cons (pv 1) (pa_cons (pe_bltn (v := .ty "str") (by rfl) T.str (by decide +kernel) rfl) pa_nil))))
        (pss_one (ps_ret (pe_and (pe_callB call_isi (by rfl) T.isi (by decide +kernel) (pa_cons (pv 0) (pa_cons (pe_bltn (v := .ty "str") (by rfl) T.str (by decide +kernel) rfl) pa_nil))) (pe_one (pe_cmpR op_eq (pv 0) (pv 1) (nomark _)))))) pss_nil)
      (pss_one (ps_ret (pe_and (pe_callB call_isi (by rfl) T.isi (by decide +kernel) (pa_cons (pv 0) (pa_cons (pe_bltn (v := .ty "int") (by rfl) T.int (by decide +kernel) rfl) pa_nil)))
        (pe_and (pe_not (pe_callB call_isi (by rfl) T.isi (by decide +kernel) (pa_cons (pv 0) (pa_cons (pe_bltn (v := .ty "bool") (by rfl) T.bool (by decide +kernel) rfl) pa_nil)))) (pe_one (pe_cmpR op_eq (pv 0) (pv 1) (nomark _))))))), ?_⟩
    obtain ⟨⟨z, rfl⟩ | ⟨z, rfl⟩, k⟩ := h
    · refine ⟨_, rfl, _, _, _, _, true, rfl, .ty _, .base (.str z), kit_ty (by decide +kernel), _, rfl, iteT ?_⟩
      refine ⟨_, rfl, _, _, _, _, true, rfl, .ty _, .base (.str z), kit_ty (by decide +kernel), _, rfl, iteT ⟨_, rfl, _, rfl, rfl, ?_⟩⟩
      simpa using k
    · refine ⟨_, rfl, _, _, _, _, false, rfl, .ty _, .base (.int z), kit_ty (by decide +kernel), _, rfl, iteF ?_⟩
      refine ⟨_, rfl, _, _, _, _, true, rfl, .ty _, .base (.int z), kit_ty (by decide +kernel), _, rfl, iteT ?_⟩
      refine ⟨_, rfl, _, _, _, _, false, rfl, .ty _, .base (.int z), kit_ty (by decide +kernel), _, rfl, _, rfl, iteT ⟨_, rfl, _, rfl, rfl, ?_⟩⟩
      simpa using k
theorem scinputs : FnScope ["e", "line"] ["e"] (defScope sInputs) := ⟨rfl, rfl, rfl, by decide +kernel, rfl, by decide +kernel, by decide +kernel⟩
theorem ok_inputs {f : Addr} {fd : FuncData} (F : Fun K "_law_inputs" "_law_inputs" sInputs f fd) (T : Txt K mg Cm Ci Cb Cd C) : FnOk P w K mg base CX0 1 f fd ["e"] (spIns C 0 10) := by
  refine F.ok scinputs (fun vs H Q E h => ?_) (fun cdv A outer s H vs Q E hr h => ?_)
  · obtain ⟨a, n, rfl, _⟩ := h
    rfl
  · obtain ⟨a, n, rfl, hn, xa, k⟩ := h
    refine ⟨_, pss_cons (ps_set (i := 1) scinputs.nd rfl (Or.inl rfl) (pe_lst (pa_cons (pe_callB call_isX (by rfl) T.blt.isi (by decide +kernel) (pa_cons (pv 0) (pa_cons (pe_glob rfl (T.g 0 _ rfl) (v := .ref (C 0)) rfl) pa_nil))) (pa_cons (pe_callB call_isX (by rfl) T.blt.isi (by decide +kernel) (pa_cons (pv 0) (pa_cons (pe_glob rfl (T.g 1 _ rfl) (v := .ref (C 1)) rfl) pa_nil))) (pa_cons (pe_callB call_isX (by rfl) T.blt.isi (by decide +kernel) (pa_cons (pv 0) (pa_cons (pe_glob rfl (T.g 2 _ rfl) (v := .ref (C 2)) rfl) pa_nil))) pa_nil)))))
      (pss_cons (ps_set (i := 1) scinputs.nd rfl (Or.inl rfl) (pe_op op_cat (pv 1) (pe_lst (pa_cons (pe_callB call_isX (by rfl) T.blt.isi (by decide +kernel) (pa_cons (pv 0) (pa_cons (pe_glob rfl (T.g 3 _ rfl) (v := .ref (C 3)) rfl) pa_nil))) (pa_cons (pe_callB call_isX (by rfl) T.blt.isi (by decide +kernel) (pa_cons (pv 0) (pa_cons (pe_glob rfl (T.g 4 _ rfl) (v := .ref (C 4)) rfl) pa_nil))) (pa_cons (pe_callB call_isX (by rfl) T.blt.isi (by decide +kernel) (pa_cons (pv 0) (pa_cons (pe_glob rfl (T.g 5 _ rfl) (v := .ref (C 5)) rfl) pa_nil))) pa_nil))))))
      (pss_one (ps_ret (pe_op op_cat (pv 1) (pe_lst (pa_cons (pe_callB call_isX (by rfl) T.blt.isi (by decide +kernel) (pa_cons (pv 0) (pa_cons (pe_glob rfl (T.g 6 _ rfl) (v := .ref (C 6)) rfl) pa_nil))) (pa_cons (pe_callB call_isX (by rfl) T.blt.isi (by decide +kernel) (pa_cons (pv 0) (pa_cons (pe_glob rfl (T.g 7 _ rfl) (v := .ref (C 7)) rfl) pa_nil))) (pa_cons (pe_callB call_isX (by rfl) T.blt.isi (by decide +kernel) (pa_cons (pv 0) (pa_cons (pe_glob rfl (T.g 8 _ rfl) (v := .ref (C 8)) rfl) pa_nil))) (pa_cons (pe_callB call_isX (by rfl) T.blt.isi (by decide +kernel) (pa_cons (pv 0) (pa_cons (pe_glob rfl (T.g 9 _ rfl) (v := .ref (C 9)) rfl) pa_nil))) pa_nil))))))))), ?_⟩
    refine ⟨_, rfl, a, _, _, _, _, rfl, .own _, xa, T.exc n hn, T.kit n 0 hn (by decide), _, rfl, a, _, _, _, _, rfl, .own _, xa, T.exc n hn, T.kit n 1 hn (by decide), _, rfl, a, _, _, _, _, rfl, .own _, xa, T.exc n hn, T.kit n 2 hn (by decide), (by show 3 ≤ sizeLine; decide), fun p1 hp1 => ?_⟩
    have s1 := SameH.new (o := .lst [V.bl (decide (0 = n)), V.bl (decide (1 = n)), V.bl (decide (2 = n))]) hp1
    have xa1 := xa.same s1
    refine ⟨_, rfl, _, rfl, a, _, _, _, _, rfl, .own _, xa1, T.exc n hn, T.kit n 3 hn (by decide), _, rfl, a, _, _, _, _, rfl, .own _, xa1, T.exc n hn, T.kit n 4 hn (by decide), _, rfl, a, _, _, _, _, rfl, .own _, xa1, T.exc n hn, T.kit n 5 hn (by decide), (by show 3 ≤ sizeLine; decide), fun p2 hp2 => ?_⟩
    have s2 := SameH.new (o := .lst [V.bl (decide (3 = n)), V.bl (decide (4 = n)), V.bl (decide (5 = n))]) hp2
    refine ⟨_, _, _, _, rfl, rfl, s2 _ _ upd_same, upd_same, (by show 3 + 3 ≤ sizeLine; decide), fun p3 hp3 => ?_⟩
    have s3 := SameH.new (o := .lst ([V.bl (decide (0 = n)), V.bl (decide (1 = n)), V.bl (decide (2 = n))] ++ [V.bl (decide (3 = n)), V.bl (decide (4 = n)), V.bl (decide (5 = n))])) hp3
    have xa3 := xa1.same (s2.trans s3)
    refine ⟨_, rfl, _, rfl, a, _, _, _, _, rfl, .own _, xa3, T.exc n hn, T.kit n 6 hn (by decide), _, rfl, a, _, _, _, _, rfl, .own _, xa3, T.exc n hn, T.kit n 7 hn (by decide), _, rfl, a, _, _, _, _, rfl, .own _, xa3, T.exc n hn, T.kit n 8 hn (by decide), _, rfl, a, _, _, _, _, rfl, .own _, xa3, T.exc n hn, T.kit n 9 hn (by decide), (by show 4 ≤ sizeLine; decide), fun p4 hp4 => ?_⟩
    have s4 := SameH.new (o := .lst [V.bl (decide (6 = n)), V.bl (decide (7 = n)), V.bl (decide (8 = n)), V.bl (decide (9 = n))]) hp4
    refine ⟨_, _, _, _, rfl, rfl, s4 _ _ upd_same, upd_same, (by show 6 + 4 ≤ sizeLine; decide), fun p5 hp5 => ?_⟩
    exact k p5 _ (s1.trans (s2.trans (s3.trans (s4.trans (SameH.new hp5))))) upd_same
theorem scothers : FnScope ["e", "line"] ["e"] (defScope sOthers) := ⟨rfl, rfl, rfl, by decide +kernel, rfl, by decide +kernel, by decide +kernel⟩
theorem ok_others {f : Addr} {fd : FuncData} (F : Fun K "_law_others" "_law_others" sOthers f fd) (T : Txt K mg Cm Ci Cb Cd C) : FnOk P w K mg base CX0 1 f fd ["e"] (spIns C 10 7) := by
  refine F.ok scothers (fun vs H Q E h => ?_) (fun cdv A outer s H vs Q E hr h => ?_)
  · obtain ⟨a, n, rfl, _⟩ := h
    rfl
  · obtain ⟨a, n, rfl, hn, xa, k⟩ := h
    refine ⟨_, pss_cons (ps_set (i := 1) scothers.nd rfl (Or.inl rfl) (pe_lst (pa_cons (pe_callB call_isX (by rfl) T.blt.isi (by decide +kernel) (pa_cons (pv 0) (pa_cons (pe_glob rfl (T.g 10 _ rfl) (v := .ref (C 10)) rfl) pa_nil))) (pa_cons (pe_callB call_isX (by rfl) T.blt.isi (by decide +kernel) (pa_cons (pv 0) (pa_cons (pe_glob rfl (T.g 11 _ rfl) (v := .ref (C 11)) rfl) pa_nil))) (pa_cons (pe_callB call_isX (by rfl) T.blt.isi (by decide +kernel) (pa_cons (pv 0) (pa_cons (pe_glob rfl (T.g 12 _ rfl) (v := .ref (C 12)) rfl) pa_nil))) pa_nil)))))
      (pss_cons (ps_set (i := 1) scothers.nd rfl (Or.inl rfl) (pe_op op_cat (pv 1) (pe_lst (pa_cons (pe_callB call_isX (by rfl) T.blt.isi (by decide +kernel) (pa_cons (pv 0) (pa_cons (pe_glob rfl (T.g 13 _ rfl) (v := .ref (C 13)) rfl) pa_nil))) (pa_cons (pe_callB call_isX (by rfl) T.blt.isi (by decide +kernel) (pa_cons (pv 0) (pa_cons (pe_glob rfl (T.g 14 _ rfl) (v := .ref (C 14)) rfl) pa_nil))) pa_nil)))))
      (pss_one (ps_ret (pe_op op_cat (pv 1) (pe_lst (pa_cons (pe_callB call_isX (by rfl) T.blt.isi (by decide +kernel) (pa_cons (pv 0) (pa_cons (pe_glob rfl (T.g 15 _ rfl) (v := .ref (C 15)) rfl) pa_nil))) (pa_cons (pe_callB call_isX (by rfl) T.blt.isi (by decide +kernel) (pa_cons (pv 0) (pa_cons (pe_glob rfl (T.g 16 _ rfl) (v := .ref (C 16)) rfl) pa_nil))) pa_nil))))))), ?_⟩
    refine ⟨_, rfl, a, _, _, _, _, rfl, .own _, xa, T.exc n hn, T.kit n 10 hn (by decide), _, rfl, a, _, _, _, _, rfl, .own _, xa, T.exc n hn, T.kit n 11 hn (by decide), _, rfl, a, _, _, _, _, rfl, .own _, xa, T.exc n hn, T.kit n 12 hn (by decide), (by show 3 ≤ sizeLine; decide), fun p1 hp1 => ?_⟩
    have s1 := SameH.new (o := .lst [V.bl (decide (10 = n)), V.bl (decide (11 = n)), V.bl (decide (12 = n))]) hp1
    have xa1 := xa.same s1
    refine ⟨_, rfl, _, rfl, a, _, _, _, _, rfl, .own _, xa1, T.exc n hn, T.kit n 13 hn (by decide), _, rfl, a, _, _, _, _, rfl, .own _, xa1, T.exc n hn, T.kit n 14 hn (by decide), (by show 2 ≤ sizeLine; decide), fun p2 hp2 => ?_⟩
    have s2 := SameH.new (o := .lst [V.bl (decide (13 = n)), V.bl (decide (14 = n))]) hp2
    refine ⟨_, _, _, _, rfl, rfl, s2 _ _ upd_same, upd_same, (by show 3 + 2 ≤ sizeLine; decide), fun p3 hp3 => ?_⟩
    have s3 := SameH.new (o := .lst ([V.bl (decide (10 = n)), V.bl (decide (11 = n)), V.bl (decide (12 = n))] ++ [V.bl (decide (13 = n)), V.bl (decide (14 = n))])) hp3
    have xa3 := xa1.same (s2.trans s3)
    refine ⟨_, rfl, _, rfl, a, _, _, _, _, rfl, .own _, xa3, T.exc n hn, T.kit n 15 hn (by decide), _, rfl, a, _, _, _, _, rfl, .own _, xa3, T.exc n hn, T.kit n 16 hn (by decide), (by show 2 ≤ sizeLine; decide), fun p4 hp4 => ?_⟩
    have s4 := SameH.new (o := .lst [V.bl (decide (15 = n)), V.bl (decide (16 = n))]) hp4
    refine ⟨_, _, _, _, rfl, rfl, s4 _ _ upd_same, upd_same, (by show 5 + 2 ≤ sizeLine; decide), fun p5 hp5 => ?_⟩
    exact k p5 _ (s1.trans (s2.trans (s3.trans (s4.trans (SameH.new hp5))))) upd_same
end
end E75

set_option Elab.async false
set_option linter.all false
set_option maxRecDepth 100000
set_option maxHeartbeats 4000000
namespace E75
open PySem L2 EV
/-- a def of the text: where it stands, how it binds -/
structure Df (K : PySem.W.Frag) (mg : Str → Option Value) (nm : Str) (st : Stmt) (f : Addr) (fd : FuncData) (ps : List Str) : Prop where
  F : Fun K nm nm st f fd
  g : mg nm = some (.ref f)
  k : PySem.W.keepIn K (.ref f) = true
  b : Binds K fd ps []
section
variable {P : Program} {w : World} {K : PySem.W.Frag} {mg : Str → Option Value} {base : Heap} {Cm Ci Cb Cd : Addr} {C : Nat → Addr}
def spIs (C : Nat → Addr) : Sp := fun vs H Q _ => ∃ (a : Addr) (n : Nat), vs = [.ref a, .int n] ∧ n < 17 ∧ XAt H a (C n) ∧ ∀ H', SameH H H' → Q (.bl true) H'
theorem dpAll_bls {H : Hp} : ∀ bs : List Bool, DpAll K H (bs.map V.bl) (bs.map PyData.bool)
  | [] => .nil
  | b :: r => .cons (.bl b) (dpAll_bls r)
theorem scIs : FnScope ["e", "number", "above", "k"] ["e", "number"] (defScope sIs) := ⟨rfl, rfl, rfl, by decide +kernel, rfl, by decide +kernel, by decide +kernel⟩
theorem ok_is {f fI fO : Addr} {fd fdI fdO : FuncData} (F : Fun K "_law_is" "_law_is" sIs f fd) (T : Txt K mg Cm Ci Cb Cd C) (DI : Df K mg "_law_inputs" sInputs fI fdI ["e"]) (DO : Df K mg "_law_others" sOthers fO fdO ["e"]) :
    FnOk P w K mg base CX0 2 f fd ["e", "number"] (spIs C) := by
  have GI : FnOk P w K mg base CX0 1 fI fdI ["e"] (spIns C 0 10) := ok_inputs DI.F T
  have GO : FnOk P w K mg base CX0 1 fO fdO ["e"] (spIns C 10 7) := ok_others DO.F T
  refine F.ok scIs (fun vs H Q E h => ?_) (fun cdv A outer s H vs Q E hr h => ?_)
  · obtain ⟨a, n, rfl, _⟩ := h
    rfl
  · obtain ⟨a, n, rfl, hn, xa, k⟩ := h
    refine ⟨_, pss_cons (ps_if (PW.pt (pw_or (pt_not (pt_val (pe_callB call_isX (by rfl) T.blt.isi (by decide +kernel) (pa_cons (pv 0) (pa_cons (pe_glob rfl T.gM (v := .ref Cm) rfl) pa_nil)))))
          (pw_or1 (pt_not (pt_val (pe_callB call_isX (by rfl) T.blt.isi (by decide +kernel) (pa_cons (pv 0) (pa_cons (pe_bltn (v := .ty "ValueError") (by rfl) T.blt.ve (by decide +kernel) rfl) pa_nil)))))))) (pss_one (ps_ret pe_bl)) pss_nil)
      (pss_cons (ps_set (i := 2) scIs.nd rfl (Or.inl rfl) (pe_lst (pa_cons (pe_callB call_isX (by rfl) T.blt.isi (by decide +kernel) (pa_cons (pv 0) (pa_cons (pe_glob rfl T.gI (v := .ref Ci) rfl) pa_nil)))
          (pa_cons (pe_callB call_isX (by rfl) T.blt.isi (by decide +kernel) (pa_cons (pv 0) (pa_cons (pe_glob rfl T.gB (v := .ref Cb) rfl) pa_nil)))
          (pa_cons (pe_callB call_isX (by rfl) T.blt.isi (by decide +kernel) (pa_cons (pv 0) (pa_cons (pe_glob rfl T.gD (v := .ref Cd) rfl) pa_nil))) pa_nil)))))
      (pss_cons (ps_if (pt_cmpR (op_neD hr.units) (pv 2) (pe_lst (pa_cons (pe_cmpR op_lt (pv 1) pe_int (nomark _)) (pa_cons (pe_and (pe_cmpR op_lt pe_int (pv 1) (nomark _)) (pe_one (pe_cmpR op_lt (pv 1) pe_int (nomark _)))) (pa_cons (pe_cmpR op_lt pe_int (pv 1) (nomark _)) pa_nil)))) (nomark _)) (pss_one (ps_ret pe_bl)) pss_nil)
      (pss_one (ps_ret (pe_cmpR (op_eqD hr.units) (pe_op op_cat (pe_call GI hr (by rfl) DI.g DI.k DI.b .nil pass0 (pa_cons (pv 0) pa_nil)) (pe_call GO hr (by rfl) DO.g DO.k DO.b .nil pass0 (pa_cons (pv 0) pa_nil)))
        (pe_lc (own := [("k", 3)]) (g := gName 3) (tt := tYes) rfl scIs.nd (pi_range1 (by rfl) T.blt.range (pa_cons pe_int pa_nil)) (blkOk_by (N := ["e", "number", "above", "k"]) (sc := defScope sIs) (by decide +kernel)) (fun _ _ _ _ _ => pg_name (i := 3) scIs.nd rfl (Or.inl rfl)) (fun _ _ _ _ _ => pts_nil)
          (fun _ _ _ _ _ => pe_cmpR op_eq (pv 3) (pv 1) (nomark _))) (nomark _)))))), ?_⟩
    refine ⟨_, rfl, a, _, _, _, _, rfl, .own _, xa, T.exc n hn, T.kM n hn, _, rfl, iteF ⟨_, rfl, a, _, _, _, _, rfl, .ty _, xa, T.exc n hn, T.kV n hn, _, rfl, iteF ?_⟩⟩
    refine ⟨_, rfl, a, _, _, _, _, rfl, .own _, xa, T.exc n hn, T.kI n hn, _, rfl, a, _, _, _, _, rfl, .own _, xa, T.exc n hn, T.kB n hn, _, rfl, a, _, _, _, _, rfl, .own _, xa, T.exc n hn, T.kD n hn, (by show 3 ≤ sizeLine; decide), fun p1 hp1 => ?_⟩
    have s1 := SameH.new (o := .lst [V.bl (decide (n < 10)), V.bl (decide (9 < n) && decide (n < 13)), V.bl (decide (12 < n))]) hp1
    have cat : bls 0 10 n ++ bls 10 7 n = ((List.range 17).map fun m => V.bl (decide (m = n))) := by
      unfold bls
      rfl
    refine ⟨_, rfl, _, rfl, _, _, rfl, rfl, _, rfl, _, _, rfl, rfl, _, rfl, ?_⟩
    refine ite2 (fun c9 => ?_) (fun c9 => ?_)
    · refine ⟨_, rfl, _, _, rfl, rfl, _, rfl, _, _, rfl, rfl, (by show 3 ≤ sizeLine; decide), fun p2 hp2 => ?_⟩ -- c9t
      have s2 := SameH.new (o := .lst [V.bl (decide ((n : Int) < 10)), V.bl (decide ((n : Int) < 13)), V.bl (decide ((12 : Int) < n))]) hp2
      have e1 : decide (n < 10) = decide ((n : Int) < 10) := decide_eq_decide.mpr (by omega)
      have e3 : decide (12 < n) = decide ((12 : Int) < n) := decide_eq_decide.mpr (by omega)
      have c9' := of_decide_eq_true c9
      have ev : PyData.eqv (.list ([decide (n < 10), decide (9 < n) && decide (n < 13), decide (12 < n)].map PyData.bool)) (.list ([decide ((n : Int) < 10), (decide ((n : Int) < 13)), decide ((12 : Int) < n)].map PyData.bool)) = true := by
        rw [show (decide (9 < n) && decide (n < 13)) = decide ((n : Int) < 13) by rw [decide_eq_true (show 9 < n by omega), Bool.true_and]; exact decide_eq_decide.mpr (by omega), e1, e3]
        exact SeqAt.eqv_refl _ rfl
      refine ⟨_, _, .lst (SqL.of (s2 _ _ upd_same)) (dpAll_bls [decide (n < 10), decide (9 < n) && decide (n < 13), decide (12 < n)]), .lst (SqL.of upd_same) (dpAll_bls [decide ((n : Int) < 10), (decide ((n : Int) < 13)), decide ((12 : Int) < n)]), rfl, rfl, _, rfl, itF (by rw [ev]; rfl) ?_⟩
      have s5 := s1.trans s2
      refine ⟨_, rfl, a, n, rfl, hn, xa.same s5, fun p3 H3 s3 e3' => ?_⟩
      refine ⟨_, rfl, a, n, rfl, hn, xa.same (s5.trans s3), fun p4 H4 s4 e4 => ?_⟩
      refine ⟨_, _, _, _, rfl, rfl, s4 _ _ e3', e4, (by show 10 + 7 ≤ sizeLine; decide), fun p5 hp5 => ?_⟩
      rw [cat]
      have s6 := SameH.new (o := .lst ((List.range 17).map fun m => V.bl (decide (m = n)))) hp5
      refine ⟨17, rfl, by decide, by decide, fun D hD => lc_range (lo := 0) (n := 17) (fun i H' => SameH (upd H4 p5 (.lst ((List.range 17).map fun m => V.bl (decide (m = n))))) H' ∧ H' D = some (.lst ((List.range i).map fun m => V.bl (decide (m = n))))) ⟨SameH.new hD, upd_same⟩ (fun i H' hi ⟨sm, eD⟩ => ?_) (fun H' ⟨sm, eD⟩ => ?_)⟩
      · refine ⟨rfl, _, rfl, _, rfl, rfl, _, eD, (by rw [List.length_map, List.length_range]; exact Nat.lt_of_lt_of_le hi (by decide)), ?_⟩
        refine ⟨fun b o e => ?_, ?_⟩
        · rw [upd_ne (ne_of_none e hD)]
          exact sm b o e
        · rw [upd_same, List.range_succ, List.map_append]
          have : decide (V.int (0 + (i : Int)) = V.int (n : Int)) = decide (i = n) := decide_eq_decide.mpr ⟨fun z => by injection z with z; omega, fun z => by rw [z]; simp⟩
          rw [this]
          rfl
      · have ev2 : PyData.eqv (.list (((List.range 17).map fun m => decide (m = n)).map PyData.bool)) (.list (((List.range 17).map fun m => decide (m = n)).map PyData.bool)) = true := SeqAt.eqv_refl _ rfl
        refine ⟨_, _, .lst (SqL.of (sm _ _ upd_same)) (dpAll_bls ((List.range 17).map fun m => decide (m = n))), .lst (SqL.of eD) (dpAll_bls ((List.range 17).map fun m => decide (m = n))), rfl, rfl, ?_⟩
        rw [ev2]
        exact k _ (s5.trans (s3.trans (s4.trans (s6.trans sm))))
    · refine ⟨_, rfl, _, _, rfl, rfl, (by show 3 ≤ sizeLine; decide), fun p2 hp2 => ?_⟩
      have s2 := SameH.new (o := .lst [V.bl (decide ((n : Int) < 10)), V.bl false, V.bl (decide ((12 : Int) < n))]) hp2
      have e1 : decide (n < 10) = decide ((n : Int) < 10) := decide_eq_decide.mpr (by omega)
      have e3 : decide (12 < n) = decide ((12 : Int) < n) := decide_eq_decide.mpr (by omega)
      have c9' : ¬ (9 : Int) < (n : Int) := fun z => c9 (decide_eq_true z)
      have ev : PyData.eqv (.list ([decide (n < 10), decide (9 < n) && decide (n < 13), decide (12 < n)].map PyData.bool)) (.list ([decide ((n : Int) < 10), false, decide ((12 : Int) < n)].map PyData.bool)) = true := by
        rw [show (decide (9 < n) && decide (n < 13)) = false by rw [decide_eq_false (show ¬ 9 < n by omega), Bool.false_and], e1, e3]
        exact SeqAt.eqv_refl _ rfl
      refine ⟨_, _, .lst (SqL.of (s2 _ _ upd_same)) (dpAll_bls [decide (n < 10), decide (9 < n) && decide (n < 13), decide (12 < n)]), .lst (SqL.of upd_same) (dpAll_bls [decide ((n : Int) < 10), false, decide ((12 : Int) < n)]), rfl, rfl, _, rfl, itF (by rw [ev]; rfl) ?_⟩
      have s5 := s1.trans s2
      refine ⟨_, rfl, a, n, rfl, hn, xa.same s5, fun p3 H3 s3 e3' => ?_⟩
      refine ⟨_, rfl, a, n, rfl, hn, xa.same (s5.trans s3), fun p4 H4 s4 e4 => ?_⟩
      refine ⟨_, _, _, _, rfl, rfl, s4 _ _ e3', e4, (by show 10 + 7 ≤ sizeLine; decide), fun p5 hp5 => ?_⟩
      rw [cat]
      have s6 := SameH.new (o := .lst ((List.range 17).map fun m => V.bl (decide (m = n)))) hp5
      refine ⟨17, rfl, by decide, by decide, fun D hD => lc_range (lo := 0) (n := 17) (fun i H' => SameH (upd H4 p5 (.lst ((List.range 17).map fun m => V.bl (decide (m = n))))) H' ∧ H' D = some (.lst ((List.range i).map fun m => V.bl (decide (m = n))))) ⟨SameH.new hD, upd_same⟩ (fun i H' hi ⟨sm, eD⟩ => ?_) (fun H' ⟨sm, eD⟩ => ?_)⟩
      · refine ⟨rfl, _, rfl, _, rfl, rfl, _, eD, (by rw [List.length_map, List.length_range]; exact Nat.lt_of_lt_of_le hi (by decide)), ?_⟩
        refine ⟨fun b o e => ?_, ?_⟩
        · rw [upd_ne (ne_of_none e hD)]
          exact sm b o e
        · rw [upd_same, List.range_succ, List.map_append]
          have : decide (V.int (0 + (i : Int)) = V.int (n : Int)) = decide (i = n) := decide_eq_decide.mpr ⟨fun z => by injection z with z; omega, fun z => by rw [z]; simp⟩
          rw [this]
          rfl
      · have ev2 : PyData.eqv (.list (((List.range 17).map fun m => decide (m = n)).map PyData.bool)) (.list (((List.range 17).map fun m => decide (m = n)).map PyData.bool)) = true := SeqAt.eqv_refl _ rfl
        refine ⟨_, _, .lst (SqL.of (sm _ _ upd_same)) (dpAll_bls ((List.range 17).map fun m => decide (m = n))), .lst (SqL.of eD) (dpAll_bls ((List.range 17).map fun m => decide (m = n))), rfl, rfl, ?_⟩
        rw [ev2]
        exact k _ (s5.trans (s3.trans (s4.trans (s6.trans sm))))
end
end E75

set_option Elab.async false
set_option linter.all false
set_option maxRecDepth 100000
set_option maxHeartbeats 4000000

namespace E75
open PySem L2 EV

structure Mks (P : Program) (K : PySem.W.Frag) (mg : Str → Option Value) (C fI : Nat → Addr) : Prop where
  s0 : SupX.SupTxt P K mg (C 0) (fI 0) "InvalidText" "position"
  s1 : SupX.SupTxt P K mg (C 1) (fI 1) "InvalidProgram" "reason"
  s2 : SupX.SupTxt P K mg (C 2) (fI 2) "InvalidContract" "reason"
  e3 : PySem.W.excIn K (C 3) HandSPX.veTail "ValueError.__new__" = true
  k3 : PySem.W.keepIn K (.ref (C 3)) = true
  e4 : PySem.W.excIn K (C 4) HandSPX.veTail "ValueError.__new__" = true
  k4 : PySem.W.keepIn K (.ref (C 4)) = true
  s5 : SupX.SupTxt P K mg (C 5) (fI 5) "InvalidPlaces" "place"
  s6 : SupX.SupTxt P K mg (C 6) (fI 6) "InvalidEdit" "place"
  s7 : SupX.SupTxt P K mg (C 7) (fI 7) "InvalidLine" "number"
  s8 : SupX.SupTxt P K mg (C 8) (fI 8) "InvalidName" "name"
  e9 : PySem.W.excIn K (C 9) HandSPX.veTail "ValueError.__new__" = true
  k9 : PySem.W.keepIn K (.ref (C 9)) = true
  s10 : SupX.SupTxt P K mg (C 10) (fI 10) "TooLarge" "what"
  s11 : SupX.SupTxt P K mg (C 11) (fI 11) "TooLong" "what"
  s12 : SupX.SupTxt P K mg (C 12) (fI 12) "TooManyCases" "limit"
  s13 : SupX.SupTxt P K mg (C 13) (fI 13) "NameTaken" "name"
  s14 : SupX.SupTxt P K mg (C 14) (fI 14) "UnknownName" "name"
  e15 : PySem.W.excIn K (C 15) HandSPX.veTail "ValueError.__new__" = true
  k15 : PySem.W.keepIn K (.ref (C 15)) = true
  e16 : PySem.W.excIn K (C 16) HandSPX.veTail "ValueError.__new__" = true
  k16 : PySem.W.keepIn K (.ref (C 16)) = true
  xf : ∀ n, n < 17 → XfC K (C n)
section
variable {P : Program} {w : World} {K : PySem.W.Frag} {mg : Str → Option Value} {base : Heap} {Cm Ci Cb Cd : Addr} {C fI : Nat → Addr}
def spAttr : Sp := fun vs H Q _ => ∃ (i : Int) (z : Str), vs = [.int i, .str z] ∧ ∀ H', SameH H H' → Q (.bl true) H'
theorem XAt.mk1 {H : Hp} {e d D : Addr} {f : Str} {v : V} (hd : d ≠ e) : XAt (upd (upd H d (exd d [(f, v)])) e (exo e D (some d))) e D :=
  ⟨some d, _, upd_same, fun dd q => by cases q; rw [upd_ne hd]; exact upd_same⟩
theorem XAt.mk0 {H : Hp} {e D : Addr} : XAt (upd H e (exo e D none)) e D := ⟨none, [], upd_same, fun dd q => nomatch q⟩
theorem SameH.two {H : Hp} {p q : Addr} {o u : HO} (hp : H p = none) (hq : H q = none) (h : p ≠ q) : SameH H (upd (upd H p o) q u) := (SameH.new hp).trans (SameH.new (by rw [upd_ne (Ne.symm h)]; exact hq))
theorem lookOne (f : Str) (v : V) : List.lookup f [(f, v)] = some v := by simp [List.lookup]
theorem scAt : FnScope ["number", "word", "numbers", "words", "told"] ["number", "word"] (defScope sAttr) := ⟨rfl, rfl, rfl, by decide +kernel, rfl, by decide +kernel, by decide +kernel⟩
theorem ok_attr {f fS : Addr} {fd fdS : FuncData} (F : Fun K "_law_attributes" "_law_attributes" sAttr f fd) (T : Txt K mg Cm Ci Cb Cd C) (M : Mks P K mg C fI) (DS : Df K mg "_law_same" sSame fS fdS ["told", "due"]) :
    FnOk P w K mg base CX0 2 f fd ["number", "word"] spAttr := by
  have GS : FnOk P w K mg base CX0 1 fS fdS ["told", "due"] spSame := ok_same DS.F T.blt
  refine F.ok scAt (fun vs H Q E h => ?_) (fun cdv A outer s H vs Q E hr h => ?_)
  · obtain ⟨i, z, rfl, _⟩ := h
    rfl
  · obtain ⟨i, z, rfl, k⟩ := h
    refine ⟨_, pss_cons (ps_set (i := 2) scAt.nd rfl (Or.inl rfl) (pe_lst (pa_cons (pe_xF (pe_mkS M.s0 hr (pa_cons (pv 0) pa_nil))) (pa_cons (pe_xF (pe_mkS M.s5 hr (pa_cons (pv 0) pa_nil))) (pa_cons (pe_xF (pe_mkS M.s6 hr (pa_cons (pv 0) pa_nil))) pa_nil)))))
      (pss_cons (ps_set (i := 2) scAt.nd rfl (Or.inl rfl) (pe_op op_cat (pv 2) (pe_lst (pa_cons (pe_xF (pe_mkS M.s7 hr (pa_cons (pv 0) pa_nil))) (pa_cons (pe_xF (pe_mkS M.s12 hr (pa_cons (pv 0) pa_nil))) pa_nil)))))
      (pss_cons (ps_set (i := 3) scAt.nd rfl (Or.inl rfl) (pe_lst (pa_cons (pe_xF (pe_mkS M.s1 hr (pa_cons (pv 1) pa_nil))) (pa_cons (pe_xF (pe_mkS M.s2 hr (pa_cons (pv 1) pa_nil))) (pa_cons (pe_xF (pe_mkS M.s8 hr (pa_cons (pv 1) pa_nil))) (pa_cons (pe_xF (pe_mkS M.s10 hr (pa_cons (pv 1) pa_nil))) pa_nil))))))
      (pss_cons (ps_set (i := 3) scAt.nd rfl (Or.inl rfl) (pe_op op_cat (pv 3) (pe_lst (pa_cons (pe_xF (pe_mkS M.s11 hr (pa_cons (pv 1) pa_nil))) (pa_cons (pe_xF (pe_mkS M.s13 hr (pa_cons (pv 1) pa_nil))) (pa_cons (pe_xF (pe_mkS M.s14 hr (pa_cons (pv 1) pa_nil))) pa_nil))))))
      (pss_cons (ps_if (pt_not (pt_val (pe_callB (cr_all rfl) (by rfl) T.blt.all (by decide +kernel) (pa_cons (pe_lc (own := [("told", 4)]) (g := gName 4) (tt := tYes) rfl scAt.nd (pi_list (pv 2)) (blkOk_by (N := ["number", "word", "numbers", "words", "told"]) (sc := defScope sAttr) (by decide +kernel)) (fun _ _ _ _ _ => pg_name (i := 4) scAt.nd rfl (Or.inl rfl)) (fun _ _ _ _ _ => pts_nil)
          (fun _ _ _ _ _ => pe_call GS hr (by rfl) DS.g DS.k DS.b .nil pass0 (pa_cons (pv 4) (pa_cons (pv 0) pa_nil)))) pa_nil)))) (pss_one (ps_ret pe_bl)) pss_nil)
      (pss_one (ps_ret (pe_callB (cr_all rfl) (by rfl) T.blt.all (by decide +kernel) (pa_cons (pe_lc (own := [("told", 4)]) (g := gName 4) (tt := tYes) rfl scAt.nd (pi_list (pv 3)) (blkOk_by (N := ["number", "word", "numbers", "words", "told"]) (sc := defScope sAttr) (by decide +kernel)) (fun _ _ _ _ _ => pg_name (i := 4) scAt.nd rfl (Or.inl rfl)) (fun _ _ _ _ _ => pts_nil)
          (fun _ _ _ _ _ => pe_call GS hr (by rfl) DS.g DS.k DS.b .nil pass0 (pa_cons (pv 4) (pa_cons (pv 1) pa_nil)))) pa_nil)))))))), ?_⟩
    refine ⟨_, rfl, _, rfl, fun e1 d1 he1 hd1 ne1 => ⟨e1, C 0, d1, _, _, rfl, upd_same, (by rw [upd_ne ne1]; exact upd_same), M.xf 0 (by decide), M.s0.noN, lookOne _ _, _, rfl, _, rfl, fun e2 d2 he2 hd2 ne2 => ⟨e2, C 5, d2, _, _, rfl, upd_same, (by rw [upd_ne ne2]; exact upd_same), M.xf 5 (by decide), M.s5.noN, lookOne _ _, _, rfl, _, rfl, fun e3 d3 he3 hd3 ne3 => ⟨e3, C 6, d3, _, _, rfl, upd_same, (by rw [upd_ne ne3]; exact upd_same), M.xf 6 (by decide), M.s6.noN, lookOne _ _, (by show 3 ≤ sizeLine; decide), fun p1 hp1 => ?_⟩⟩⟩⟩
    have s1 : SameH H _ := ((((SameH.refl).trans (SameH.two hd1 he1 ne1)).trans (SameH.two hd2 he2 ne2)).trans (SameH.two hd3 he3 ne3)).trans (SameH.new (o := .lst [.int i, .int i, .int i]) hp1)
    refine ⟨_, rfl, _, rfl, _, rfl, fun e4 d4 he4 hd4 ne4 => ⟨e4, C 7, d4, _, _, rfl, upd_same, (by rw [upd_ne ne4]; exact upd_same), M.xf 7 (by decide), M.s7.noN, lookOne _ _, _, rfl, _, rfl, fun e5 d5 he5 hd5 ne5 => ⟨e5, C 12, d5, _, _, rfl, upd_same, (by rw [upd_ne ne5]; exact upd_same), M.xf 12 (by decide), M.s12.noN, lookOne _ _, (by show 2 ≤ sizeLine; decide), fun p2 hp2 => ?_⟩⟩⟩
    have s2 := (((SameH.refl).trans (SameH.two hd4 he4 ne4)).trans (SameH.two hd5 he5 ne5)).trans (SameH.new (o := .lst [.int i, .int i]) hp2)
    refine ⟨_, _, _, _, rfl, rfl, s2 _ _ upd_same, upd_same, (by show 3 + 2 ≤ sizeLine; decide), fun p3 hp3 => ?_⟩
    have s3 := (s1.trans s2).trans (SameH.new (o := .lst ([.int i, .int i, .int i] ++ [.int i, .int i])) hp3)
    refine ⟨_, rfl, _, rfl, fun e6 d6 he6 hd6 ne6 => ⟨e6, C 1, d6, _, _, rfl, upd_same, (by rw [upd_ne ne6]; exact upd_same), M.xf 1 (by decide), M.s1.noN, lookOne _ _, _, rfl, _, rfl, fun e7 d7 he7 hd7 ne7 => ⟨e7, C 2, d7, _, _, rfl, upd_same, (by rw [upd_ne ne7]; exact upd_same), M.xf 2 (by decide), M.s2.noN, lookOne _ _, _, rfl, _, rfl, fun e8 d8 he8 hd8 ne8 => ⟨e8, C 8, d8, _, _, rfl, upd_same, (by rw [upd_ne ne8]; exact upd_same), M.xf 8 (by decide), M.s8.noN, lookOne _ _, _, rfl, _, rfl, fun e9 d9 he9 hd9 ne9 => ⟨e9, C 10, d9, _, _, rfl, upd_same, (by rw [upd_ne ne9]; exact upd_same), M.xf 10 (by decide), M.s10.noN, lookOne _ _, (by show 4 ≤ sizeLine; decide), fun p4 hp4 => ?_⟩⟩⟩⟩⟩
    have s4 := (((((SameH.refl).trans (SameH.two hd6 he6 ne6)).trans (SameH.two hd7 he7 ne7)).trans (SameH.two hd8 he8 ne8)).trans (SameH.two hd9 he9 ne9)).trans (SameH.new (o := .lst [.str z, .str z, .str z, .str z]) hp4)
    refine ⟨_, rfl, _, rfl, _, rfl, fun e10 d10 he10 hd10 ne10 => ⟨e10, C 11, d10, _, _, rfl, upd_same, (by rw [upd_ne ne10]; exact upd_same), M.xf 11 (by decide), M.s11.noN, lookOne _ _, _, rfl, _, rfl, fun e11 d11 he11 hd11 ne11 => ⟨e11, C 13, d11, _, _, rfl, upd_same, (by rw [upd_ne ne11]; exact upd_same), M.xf 13 (by decide), M.s13.noN, lookOne _ _, _, rfl, _, rfl, fun e12 d12 he12 hd12 ne12 => ⟨e12, C 14, d12, _, _, rfl, upd_same, (by rw [upd_ne ne12]; exact upd_same), M.xf 14 (by decide), M.s14.noN, lookOne _ _, (by show 3 ≤ sizeLine; decide), fun p5 hp5 => ?_⟩⟩⟩⟩
    have s5 := ((((SameH.refl).trans (SameH.two hd10 he10 ne10)).trans (SameH.two hd11 he11 ne11)).trans (SameH.two hd12 he12 ne12)).trans (SameH.new (o := .lst [.str z, .str z, .str z]) hp5)
    refine ⟨_, _, _, _, rfl, rfl, s5 _ _ upd_same, upd_same, (by show 4 + 3 ≤ sizeLine; decide), fun p6 hp6 => ?_⟩
    have s6 := (s4.trans s5).trans (SameH.new (o := .lst ([.str z, .str z, .str z, .str z] ++ [.str z, .str z, .str z])) hp6)
    refine ⟨_, rfl, p3, rfl, ⟨_, SqL.of (s6 _ _ upd_same)⟩, fun D hD => lc_list (K := K) (a := p3) (xs := [.int i, .int i, .int i] ++ [.int i, .int i]) (fun j H' => SameH _ H' ∧ H' D = some (.lst (List.replicate j (V.bl true)))) ⟨SameH.new hD, upd_same⟩ (fun j H' _ ⟨sm, _⟩ => SqL.of (sm _ _ (s6 _ _ upd_same))) (fun j x H' hx ⟨sm, eD⟩ => ?_) (fun H' ⟨sm, eD⟩ => ?_)⟩
    · have hj : j < 5 := (List.getElem?_eq_some_iff.mp hx).1
      have hm : x = V.int i := by
        have := List.mem_of_getElem? hx
        simpa using this
      subst hm
      refine ⟨rfl, _, rfl, _, rfl, .inr ⟨i, rfl⟩, _, eD, (by rw [List.length_replicate]; exact Nat.lt_of_lt_of_le hj (by decide)), ?_⟩
      refine ⟨fun b o e => ?_, ?_⟩
      · rw [upd_ne (ne_of_none e hD)]
        exact sm b o e
      · rw [upd_same, List.replicate_succ']
    · refine ⟨_, List.replicate 5 true, rfl, SqL.of eD, _, rfl, iteF ?_⟩
      have s7 := s6.trans sm
      refine ⟨_, rfl, p6, rfl, ⟨_, SqL.of (sm _ _ upd_same)⟩, fun G hG => lc_list (K := K) (a := p6) (xs := [.str z, .str z, .str z, .str z] ++ [.str z, .str z, .str z]) (fun j H' => SameH _ H' ∧ H' G = some (.lst (List.replicate j (V.bl true)))) ⟨SameH.new hG, upd_same⟩ (fun j H' _ ⟨smG, _⟩ => SqL.of (smG _ _ (sm _ _ upd_same))) (fun j x H' hx ⟨smG, eG⟩ => ?_) (fun H' ⟨smG, eG⟩ => ?_)⟩
      · have hj : j < 7 := (List.getElem?_eq_some_iff.mp hx).1
        have hm : x = V.str z := by
          have := List.mem_of_getElem? hx
          simpa using this
        subst hm
        refine ⟨rfl, _, rfl, _, rfl, .inl ⟨z, rfl⟩, _, eG, (by rw [List.length_replicate]; exact Nat.lt_of_lt_of_le hj (by decide)), ?_⟩
        refine ⟨fun b o e => ?_, ?_⟩
        · rw [upd_ne (ne_of_none e hG)]
          exact smG b o e
        · rw [upd_same, List.replicate_succ']
      · exact ⟨_, List.replicate 7 true, rfl, SqL.of eG, k _ ((s3.trans s7).trans smG)⟩
end
end E75

set_option Elab.async false
set_option linter.all false
set_option maxRecDepth 100000
set_option maxHeartbeats 4000000


namespace E75
open PySem L2 EV

theorem atAll {H : Hp} {C : Nat → Addr} {e0 e1 e2 e3 e4 e5 e6 e7 e8 e9 e10 e11 e12 e13 e14 e15 e16 : Addr} (y0 : XAt H e0 (C 0)) (y1 : XAt H e1 (C 1)) (y2 : XAt H e2 (C 2)) (y3 : XAt H e3 (C 3)) (y4 : XAt H e4 (C 4)) (y5 : XAt H e5 (C 5)) (y6 : XAt H e6 (C 6)) (y7 : XAt H e7 (C 7)) (y8 : XAt H e8 (C 8)) (y9 : XAt H e9 (C 9)) (y10 : XAt H e10 (C 10)) (y11 : XAt H e11 (C 11)) (y12 : XAt H e12 (C 12)) (y13 : XAt H e13 (C 13)) (y14 : XAt H e14 (C 14)) (y15 : XAt H e15 (C 15)) (y16 : XAt H e16 (C 16)) :
    ∀ (j : Nat) (v : V), (((([V.ref e0, V.ref e1, V.ref e2, V.ref e3, V.ref e4] ++ [V.ref e5, V.ref e6, V.ref e7, V.ref e8, V.ref e9]) ++ [V.ref e10, V.ref e11, V.ref e12, V.ref e13, V.ref e14]) ++ [V.ref e15, V.ref e16]))[j]? = some v → ∃ e, v = .ref e ∧ XAt H e (C j) := by
  intro j v hv
  match j, hv with
  | 0, hv => cases hv; exact ⟨_, rfl, y0⟩
  | 1, hv => cases hv; exact ⟨_, rfl, y1⟩
  | 2, hv => cases hv; exact ⟨_, rfl, y2⟩
  | 3, hv => cases hv; exact ⟨_, rfl, y3⟩
  | 4, hv => cases hv; exact ⟨_, rfl, y4⟩
  | 5, hv => cases hv; exact ⟨_, rfl, y5⟩
  | 6, hv => cases hv; exact ⟨_, rfl, y6⟩
  | 7, hv => cases hv; exact ⟨_, rfl, y7⟩
  | 8, hv => cases hv; exact ⟨_, rfl, y8⟩
  | 9, hv => cases hv; exact ⟨_, rfl, y9⟩
  | 10, hv => cases hv; exact ⟨_, rfl, y10⟩
  | 11, hv => cases hv; exact ⟨_, rfl, y11⟩
  | 12, hv => cases hv; exact ⟨_, rfl, y12⟩
  | 13, hv => cases hv; exact ⟨_, rfl, y13⟩
  | 14, hv => cases hv; exact ⟨_, rfl, y14⟩
  | 15, hv => cases hv; exact ⟨_, rfl, y15⟩
  | 16, hv => cases hv; exact ⟨_, rfl, y16⟩
  | j + 17, hv => simp at hv
section
variable {P : Program} {w : World} {K : PySem.W.Frag} {mg : Str → Option Value} {base : Heap} {Cm Ci Cb Cd : Addr} {C fI : Nat → Addr}
def spLaw (K : PySem.W.Frag) : Sp := fun vs H Q _ => ∃ (a : Addr) (ns : List Int), vs = [.ref a] ∧ SqL K H a (ns.map V.int) ∧ ∀ H', Q (.bl true) H'
theorem scL : FnScope ["script", "reader", "number", "word", "k", "made"] ["script"] (defScope sLaw) := ⟨rfl, rfl, rfl, by decide +kernel, rfl, by decide +kernel, by decide +kernel⟩
theorem up14 : (Txt.upper "abcxyz0189 _-(").length = 14 := by decide +kernel
theorem len_app (a b : Str) : (a ++ b).length = a.length + b.length := by
  show (a.cps ++ b.cps).size = a.cps.size + b.cps.size
  exact Array.size_append
theorem len_one (c : Nat) : (⟨#[c]⟩ : Str).length = 1 := rfl

theorem ok_law {f fR fN fIs fA fIn fO fS : Addr} {fd fdR fdN fdIs fdA fdIn fdO fdS : FuncData} (F : Fun K "law" "law" sLaw f fd) (T : Txt K mg Cm Ci Cb Cd C) (M : Mks P K mg C fI) (DR : Df K mg "_law_reader" sReader fR fdR ["script", "k"]) (DN : Df K mg "_law_next" sNext fN fdN ["reader", "size"])
    (DI : Df K mg "_law_is" sIs fIs fdIs ["e", "number"]) (DA : Df K mg "_law_attributes" sAttr fA fdA ["number", "word"]) (DIn : Df K mg "_law_inputs" sInputs fIn fdIn ["e"]) (DO : Df K mg "_law_others" sOthers fO fdO ["e"]) (DS : Df K mg "_law_same" sSame fS fdS ["told", "due"]) :
    FnOk P w K mg base CX0 3 f fd ["script"] (spLaw K) := by
  have GR : FnOk P w K mg base CX0 1 fR fdR ["script", "k"] (spReader K) := ok_reader DR.F T.blt
  have GN : FnOk P w K mg base CX0 1 fN fdN ["reader", "size"] spNext := ok_next DN.F T.blt
  have GI : FnOk P w K mg base CX0 2 fIs fdIs ["e", "number"] (spIs C) := ok_is DI.F T DIn DO
  have GA : FnOk P w K mg base CX0 2 fA fdA ["number", "word"] spAttr := ok_attr DA.F T M DS
  refine F.ok scL (fun vs H Q E h => ?_) (fun cdv A outer s H vs Q E hr h => ?_)
  · obtain ⟨a, ns, rfl, _⟩ := h
    rfl
  · obtain ⟨a, ns, rfl, hS, k⟩ := h
    have hr1 : Room 1 _ := hr.mono (by decide)
    refine ⟨_, pss_cons (ps_set (i := 1) scL.nd rfl (Or.inl rfl) (pe_call GR hr1 (by rfl) DR.g DR.k DR.b .nil pass0 (pa_cons (pv 0) (pa_cons pe_int pa_nil))))
      (pss_cons (ps_set (i := 2) scL.nd rfl (Or.inl rfl) (pe_op op_sub (pe_call GN hr1 (by rfl) DN.g DN.k DN.b .nil pass0 (pa_cons (pv 1) (pa_cons pe_int pa_nil))) pe_int))
      (pss_cons (ps_set (i := 3) scL.nd rfl (Or.inl rfl) pe_str)
      (pss_cons (ps_for PassesOwn.never rfl (pi_range1 (by rfl) T.blt.range (pa_cons (pe_op op_add pe_int (pe_call GN hr1 (by rfl) DN.g DN.k DN.b .nil pass0 (pa_cons (pv 1) (pa_cons pe_int pa_nil)))) pa_nil)) (pg_name (i := 4) scL.nd rfl (Or.inl rfl))
        (pss_one (ps_set (i := 3) scL.nd rfl (Or.inl rfl) (pe_op op_add_str (pv 3) (pe_item_str (pe_upper pe_str) (pe_call GN hr1 (by rfl) DN.g DN.k DN.b .nil pass0 (pa_cons (pv 1) (pa_cons pe_int pa_nil))) (fun _ _ => rfl))))))
      (pss_cons (ps_set (i := 5) scL.nd rfl (Or.inl rfl) (pe_lst (pa_cons (pe_mkS M.s0 hr (pa_cons (pv 2) pa_nil)) (pa_cons (pe_mkS M.s1 hr (pa_cons (pv 3) pa_nil)) (pa_cons (pe_mkS M.s2 hr (pa_cons (pv 3) pa_nil)) (pa_cons (pe_mk0 PySem.F.excBase_ValueError M.e3 (T.g 3 _ rfl) M.k3) (pa_cons (pe_mk0 PySem.F.excBase_ValueError M.e4 (T.g 4 _ rfl) M.k4) pa_nil)))))))
      (pss_cons (ps_set (i := 5) scL.nd rfl (Or.inl rfl) (pe_op op_cat (pv 5) (pe_lst (pa_cons (pe_mkS M.s5 hr (pa_cons (pv 2) pa_nil)) (pa_cons (pe_mkS M.s6 hr (pa_cons (pv 2) pa_nil)) (pa_cons (pe_mkS M.s7 hr (pa_cons (pv 2) pa_nil)) (pa_cons (pe_mkS M.s8 hr (pa_cons (pv 3) pa_nil)) (pa_cons (pe_mk0 PySem.F.excBase_ValueError M.e9 (T.g 9 _ rfl) M.k9) pa_nil))))))))
      (pss_cons (ps_set (i := 5) scL.nd rfl (Or.inl rfl) (pe_op op_cat (pv 5) (pe_lst (pa_cons (pe_mkS M.s10 hr (pa_cons (pv 3) pa_nil)) (pa_cons (pe_mkS M.s11 hr (pa_cons (pv 3) pa_nil)) (pa_cons (pe_mkS M.s12 hr (pa_cons (pv 2) pa_nil)) (pa_cons (pe_mkS M.s13 hr (pa_cons (pv 3) pa_nil)) (pa_cons (pe_mkS M.s14 hr (pa_cons (pv 3) pa_nil)) pa_nil))))))))
      (pss_cons (ps_set (i := 5) scL.nd rfl (Or.inl rfl) (pe_op op_cat (pv 5) (pe_lst (pa_cons (pe_mk0 PySem.F.excBase_ValueError M.e15 (T.g 15 _ rfl) M.k15) (pa_cons (pe_mk0 PySem.F.excBase_ValueError M.e16 (T.g 16 _ rfl) M.k16) pa_nil)))))
      (pss_cons (ps_for PassesOwn.never rfl (pi_range1 (by rfl) T.blt.range (pa_cons pe_int pa_nil)) (pg_name (i := 4) scL.nd rfl (Or.inl rfl))
        (pss_one (ps_if (pt_not (pt_val (pe_call GI hr (by rfl) DI.g DI.k DI.b .nil pass0 (pa_cons (pe_ix ix_list (pv 5) (pv 4) (fun _ _ => rfl)) (pa_cons (pv 4) pa_nil))))) (pss_one (ps_ret pe_bl)) pss_nil)))
      (pss_one (ps_ret (pe_and (pe_call GA hr (by rfl) DA.g DA.k DA.b .nil pass0 (pa_cons (pv 2) (pa_cons (pv 3) pa_nil))) (pe_one (pe_cmpR op_eq (pe_xF (pe_ix ix_list (pv 5) pe_int (fun _ _ => rfl))) (pv 2) (nomark _)))))))))))))), ?_⟩
    refine ⟨_, rfl, a, ns, rfl, hS, fun r c0 c1 hr0 => ?_⟩
    have nr : ∀ b o, H b = some o → b ≠ r := fun b o e => ne_of_none e hr0
    refine ⟨_, rfl, r, _, _, _, _, rfl, upd_same, by decide, by decide, fun v k1 c2 hv0 hv1 => ?_⟩
    refine ⟨_, _, rfl, rfl, ?_⟩
    refine ⟨_, rfl, r, _, _, _, _, rfl, upd_same, by decide, by decide, fun v2 k2 c3 hw0 hw1 => ?_⟩
    refine ⟨_, _, rfl, rfl, _, rfl, by omega, by omega, ?_⟩
    refine for_range (lo := 0) (n := (1 + v2).toNat) (fun j σ H' => ∃ (k' b' : Int) (z : Str) (kv : Option V), σ = [some (.ref a), some (.ref r), some (.int (v - 9)), some (.str z), kv, none] ∧ z.length ≤ j ∧ SameH H H' ∧ H' r = some (.lst [.int c0, .int k', .int b']))
      ⟨_, _, ("" : Str), none, rfl, by decide +kernel, fun b o e => by rw [upd_ne (nr b o e), upd_ne (nr b o e), upd_ne (nr b o e)]; exact e, upd_same⟩ (fun j σ H' hj ⟨k', b', z, kv, e, hz, sm, eR⟩ => ?_) (fun σ H' ⟨k', b', z, kv, e, hz, sm, eR⟩ => ?_)
    · subst e
      refine ⟨_, rfl, ⟨_, rfl⟩, _, rfl, rfl, by decide +kernel, _, rfl, r, _, _, _, _, rfl, eR, by decide, by decide, fun v3 k3 c4 h0 h1 => ?_⟩
      have hi : v3.toNat < (Txt.upper "abcxyz0189 _-(").cps.size := by
        have : (Txt.upper "abcxyz0189 _-(").cps.size = 14 := up14
        omega
      refine ⟨_, _, _, rfl, rfl, h0, by omega, by rw [up14]; omega, Array.getElem?_eq_getElem hi, _, _, rfl, rfl, ?_, ?_⟩
      · rw [len_one]
        have : j < 20 := by omega
        show z.length + 1 ≤ sizeLine
        exact Nat.le_trans (by omega : z.length + 1 ≤ 100) (by decide)
      · refine ⟨_, _, _, _, rfl, ?_, fun b o e => ?_, upd_same⟩
        · rw [len_app, len_one]
          omega
        · have hb : b ≠ r := nr b o e
          rw [upd_ne hb]
          exact sm b o e
    · subst e
      refine ⟨_, rfl, _, rfl, fun e0 d0 he0 hd0 ne0 => ⟨_, rfl, _, rfl, fun e1 d1 he1 hd1 ne1 => ⟨_, rfl, _, rfl, fun e2 d2 he2 hd2 ne2 => fun e3 he3 => fun e4 he4 => ⟨(by show 5 ≤ sizeLine; decide), fun p0 hp0 => ?_⟩⟩⟩⟩
      have g0 := ((((((SameH.refl).trans (SameH.two hd0 he0 ne0)).trans (SameH.two hd1 he1 ne1)).trans (SameH.two hd2 he2 ne2)).trans (SameH.new he3)).trans (SameH.new he4)).trans (SameH.new (o := .lst [V.ref e0, V.ref e1, V.ref e2, V.ref e3, V.ref e4]) hp0)
      have x0 := (XAt.mk1 (D := C 0) (f := "position") (v := .int (v - 9)) ne0).same ((((((SameH.refl).trans (SameH.two hd1 he1 ne1)).trans (SameH.two hd2 he2 ne2)).trans (SameH.new he3)).trans (SameH.new he4)).trans (SameH.new (o := .lst [V.ref e0, V.ref e1, V.ref e2, V.ref e3, V.ref e4]) hp0))
      have x1 := (XAt.mk1 (D := C 1) (f := "reason") (v := .str z) ne1).same (((((SameH.refl).trans (SameH.two hd2 he2 ne2)).trans (SameH.new he3)).trans (SameH.new he4)).trans (SameH.new (o := .lst [V.ref e0, V.ref e1, V.ref e2, V.ref e3, V.ref e4]) hp0))
      have x2 := (XAt.mk1 (D := C 2) (f := "reason") (v := .str z) ne2).same ((((SameH.refl).trans (SameH.new he3)).trans (SameH.new he4)).trans (SameH.new (o := .lst [V.ref e0, V.ref e1, V.ref e2, V.ref e3, V.ref e4]) hp0))
      have x3 := (XAt.mk0 (D := C 3)).same (((SameH.refl).trans (SameH.new he4)).trans (SameH.new (o := .lst [V.ref e0, V.ref e1, V.ref e2, V.ref e3, V.ref e4]) hp0))
      have x4 := (XAt.mk0 (D := C 4)).same ((SameH.refl).trans (SameH.new (o := .lst [V.ref e0, V.ref e1, V.ref e2, V.ref e3, V.ref e4]) hp0))
      refine ⟨_, rfl, _, rfl, _, rfl, fun e5 d5 he5 hd5 ne5 => ⟨_, rfl, _, rfl, fun e6 d6 he6 hd6 ne6 => ⟨_, rfl, _, rfl, fun e7 d7 he7 hd7 ne7 => ⟨_, rfl, _, rfl, fun e8 d8 he8 hd8 ne8 => fun e9 he9 => ⟨(by show 5 ≤ sizeLine; decide), fun p1 hp1 => ?_⟩⟩⟩⟩⟩
      have g1 := ((((((SameH.refl).trans (SameH.two hd5 he5 ne5)).trans (SameH.two hd6 he6 ne6)).trans (SameH.two hd7 he7 ne7)).trans (SameH.two hd8 he8 ne8)).trans (SameH.new he9)).trans (SameH.new (o := .lst [V.ref e5, V.ref e6, V.ref e7, V.ref e8, V.ref e9]) hp1)
      have x5 := (XAt.mk1 (D := C 5) (f := "place") (v := .int (v - 9)) ne5).same ((((((SameH.refl).trans (SameH.two hd6 he6 ne6)).trans (SameH.two hd7 he7 ne7)).trans (SameH.two hd8 he8 ne8)).trans (SameH.new he9)).trans (SameH.new (o := .lst [V.ref e5, V.ref e6, V.ref e7, V.ref e8, V.ref e9]) hp1))
      have x6 := (XAt.mk1 (D := C 6) (f := "place") (v := .int (v - 9)) ne6).same (((((SameH.refl).trans (SameH.two hd7 he7 ne7)).trans (SameH.two hd8 he8 ne8)).trans (SameH.new he9)).trans (SameH.new (o := .lst [V.ref e5, V.ref e6, V.ref e7, V.ref e8, V.ref e9]) hp1))
      have x7 := (XAt.mk1 (D := C 7) (f := "number") (v := .int (v - 9)) ne7).same ((((SameH.refl).trans (SameH.two hd8 he8 ne8)).trans (SameH.new he9)).trans (SameH.new (o := .lst [V.ref e5, V.ref e6, V.ref e7, V.ref e8, V.ref e9]) hp1))
      have x8 := (XAt.mk1 (D := C 8) (f := "name") (v := .str z) ne8).same (((SameH.refl).trans (SameH.new he9)).trans (SameH.new (o := .lst [V.ref e5, V.ref e6, V.ref e7, V.ref e8, V.ref e9]) hp1))
      have x9 := (XAt.mk0 (D := C 9)).same ((SameH.refl).trans (SameH.new (o := .lst [V.ref e5, V.ref e6, V.ref e7, V.ref e8, V.ref e9]) hp1))
      refine ⟨_, _, _, _, rfl, rfl, g1 _ _ upd_same, upd_same, (by show 5 + 5 ≤ sizeLine; decide), fun q1 hq1 => ?_⟩
      have c1 := SameH.new (o := .lst ([V.ref e0, V.ref e1, V.ref e2, V.ref e3, V.ref e4] ++ [V.ref e5, V.ref e6, V.ref e7, V.ref e8, V.ref e9])) hq1
      refine ⟨_, rfl, _, rfl, _, rfl, fun e10 d10 he10 hd10 ne10 => ⟨_, rfl, _, rfl, fun e11 d11 he11 hd11 ne11 => ⟨_, rfl, _, rfl, fun e12 d12 he12 hd12 ne12 => ⟨_, rfl, _, rfl, fun e13 d13 he13 hd13 ne13 => ⟨_, rfl, _, rfl, fun e14 d14 he14 hd14 ne14 => ⟨(by show 5 ≤ sizeLine; decide), fun p2 hp2 => ?_⟩⟩⟩⟩⟩⟩
      have g2 := ((((((SameH.refl).trans (SameH.two hd10 he10 ne10)).trans (SameH.two hd11 he11 ne11)).trans (SameH.two hd12 he12 ne12)).trans (SameH.two hd13 he13 ne13)).trans (SameH.two hd14 he14 ne14)).trans (SameH.new (o := .lst [V.ref e10, V.ref e11, V.ref e12, V.ref e13, V.ref e14]) hp2)
      have x10 := (XAt.mk1 (D := C 10) (f := "what") (v := .str z) ne10).same ((((((SameH.refl).trans (SameH.two hd11 he11 ne11)).trans (SameH.two hd12 he12 ne12)).trans (SameH.two hd13 he13 ne13)).trans (SameH.two hd14 he14 ne14)).trans (SameH.new (o := .lst [V.ref e10, V.ref e11, V.ref e12, V.ref e13, V.ref e14]) hp2))
      have x11 := (XAt.mk1 (D := C 11) (f := "what") (v := .str z) ne11).same (((((SameH.refl).trans (SameH.two hd12 he12 ne12)).trans (SameH.two hd13 he13 ne13)).trans (SameH.two hd14 he14 ne14)).trans (SameH.new (o := .lst [V.ref e10, V.ref e11, V.ref e12, V.ref e13, V.ref e14]) hp2))
      have x12 := (XAt.mk1 (D := C 12) (f := "limit") (v := .int (v - 9)) ne12).same ((((SameH.refl).trans (SameH.two hd13 he13 ne13)).trans (SameH.two hd14 he14 ne14)).trans (SameH.new (o := .lst [V.ref e10, V.ref e11, V.ref e12, V.ref e13, V.ref e14]) hp2))
      have x13 := (XAt.mk1 (D := C 13) (f := "name") (v := .str z) ne13).same (((SameH.refl).trans (SameH.two hd14 he14 ne14)).trans (SameH.new (o := .lst [V.ref e10, V.ref e11, V.ref e12, V.ref e13, V.ref e14]) hp2))
      have x14 := (XAt.mk1 (D := C 14) (f := "name") (v := .str z) ne14).same ((SameH.refl).trans (SameH.new (o := .lst [V.ref e10, V.ref e11, V.ref e12, V.ref e13, V.ref e14]) hp2))
      refine ⟨_, _, _, _, rfl, rfl, g2 _ _ upd_same, upd_same, (by show 10 + 5 ≤ sizeLine; decide), fun q2 hq2 => ?_⟩
      have c2 := SameH.new (o := .lst (([V.ref e0, V.ref e1, V.ref e2, V.ref e3, V.ref e4] ++ [V.ref e5, V.ref e6, V.ref e7, V.ref e8, V.ref e9]) ++ [V.ref e10, V.ref e11, V.ref e12, V.ref e13, V.ref e14])) hq2
      refine ⟨_, rfl, fun e15 he15 => fun e16 he16 => ⟨(by show 2 ≤ sizeLine; decide), fun p3 hp3 => ?_⟩⟩
      have g3 := (((SameH.refl).trans (SameH.new he15)).trans (SameH.new he16)).trans (SameH.new (o := .lst [V.ref e15, V.ref e16]) hp3)
      have x15 := (XAt.mk0 (D := C 15)).same (((SameH.refl).trans (SameH.new he16)).trans (SameH.new (o := .lst [V.ref e15, V.ref e16]) hp3))
      have x16 := (XAt.mk0 (D := C 16)).same ((SameH.refl).trans (SameH.new (o := .lst [V.ref e15, V.ref e16]) hp3))
      refine ⟨_, _, _, _, rfl, rfl, g3 _ _ upd_same, upd_same, (by show 15 + 2 ≤ sizeLine; decide), fun q3 hq3 => ?_⟩
      have c3 := SameH.new (o := .lst ((([V.ref e0, V.ref e1, V.ref e2, V.ref e3, V.ref e4] ++ [V.ref e5, V.ref e6, V.ref e7, V.ref e8, V.ref e9]) ++ [V.ref e10, V.ref e11, V.ref e12, V.ref e13, V.ref e14]) ++ [V.ref e15, V.ref e16])) hq3
      have hall := sm.trans (g0.trans (((((((SameH.refl).trans g1).trans c1).trans g2).trans c2).trans g3).trans c3))
      have y0 := x0.same (((((((SameH.refl).trans g1).trans c1).trans g2).trans c2).trans g3).trans c3)
      have y1 := x1.same (((((((SameH.refl).trans g1).trans c1).trans g2).trans c2).trans g3).trans c3)
      have y2 := x2.same (((((((SameH.refl).trans g1).trans c1).trans g2).trans c2).trans g3).trans c3)
      have y3 := x3.same (((((((SameH.refl).trans g1).trans c1).trans g2).trans c2).trans g3).trans c3)
      have y4 := x4.same (((((((SameH.refl).trans g1).trans c1).trans g2).trans c2).trans g3).trans c3)
      have y5 := x5.same ((((((SameH.refl).trans c1).trans g2).trans c2).trans g3).trans c3)
      have y6 := x6.same ((((((SameH.refl).trans c1).trans g2).trans c2).trans g3).trans c3)
      have y7 := x7.same ((((((SameH.refl).trans c1).trans g2).trans c2).trans g3).trans c3)
      have y8 := x8.same ((((((SameH.refl).trans c1).trans g2).trans c2).trans g3).trans c3)
      have y9 := x9.same ((((((SameH.refl).trans c1).trans g2).trans c2).trans g3).trans c3)
      have y10 := x10.same ((((SameH.refl).trans c2).trans g3).trans c3)
      have y11 := x11.same ((((SameH.refl).trans c2).trans g3).trans c3)
      have y12 := x12.same ((((SameH.refl).trans c2).trans g3).trans c3)
      have y13 := x13.same ((((SameH.refl).trans c2).trans g3).trans c3)
      have y14 := x14.same ((((SameH.refl).trans c2).trans g3).trans c3)
      have y15 := x15.same ((SameH.refl).trans c3)
      have y16 := x16.same ((SameH.refl).trans c3)
      have S0 : SameH (upd (upd H' d0 (exd d0 [("position", .int (v - 9))])) e0 (exo e0 (C 0) (some d0))) _ := (((((((SameH.refl).trans (SameH.two hd1 he1 ne1)).trans (SameH.two hd2 he2 ne2)).trans (SameH.new he3)).trans (SameH.new he4)).trans (SameH.new (o := .lst [V.ref e0, V.ref e1, V.ref e2, V.ref e3, V.ref e4]) hp0))).trans ((((((((SameH.refl).trans g1).trans c1).trans g2).trans c2).trans g3).trans c3))
      have h1 := S0 _ _ upd_same
      have h2 := S0 _ _ (show (upd (upd H' d0 (exd d0 [("position", .int (v - 9))])) e0 (exo e0 (C 0) (some d0))) d0 = some (exd d0 [("position", .int (v - 9))]) by rw [upd_ne ne0]; exact upd_same)
      have at_ := atAll y0 y1 y2 y3 y4 y5 y6 y7 y8 y9 y10 y11 y12 y13 y14 y15 y16
      have hl17 : (((([V.ref e0, V.ref e1, V.ref e2, V.ref e3, V.ref e4] ++ [V.ref e5, V.ref e6, V.ref e7, V.ref e8, V.ref e9]) ++ [V.ref e10, V.ref e11, V.ref e12, V.ref e13, V.ref e14]) ++ [V.ref e15, V.ref e16])).length = 17 := rfl
      refine ⟨17, rfl, by decide, by decide, for_range (lo := 0) (n := 17) (fun j σ H' => ∃ kv : Option V, σ = [some (.ref a), some (.ref r), some (.int (v - 9)), some (.str z), kv, some (.ref q3)] ∧ SameH _ H')
        ⟨_, rfl, SameH.refl⟩ (fun j σ H' hj ⟨kv, e, sk⟩ => ?_) (fun σ H' ⟨kv, e, sk⟩ => ?_)⟩
      · subst e
        obtain ⟨vv, hv⟩ : ∃ v, (((([V.ref e0, V.ref e1, V.ref e2, V.ref e3, V.ref e4] ++ [V.ref e5, V.ref e6, V.ref e7, V.ref e8, V.ref e9]) ++ [V.ref e10, V.ref e11, V.ref e12, V.ref e13, V.ref e14]) ++ [V.ref e15, V.ref e16]))[j]? = some v := ⟨_, List.getElem?_eq_getElem (by rw [hl17]; exact hj)⟩
        obtain ⟨e, rfl, xe⟩ := at_ j vv hv
        refine ⟨_, rfl, _, rfl, q3, _, _, _, rfl, rfl, SqL.of (sk _ _ upd_same), (by rw [show (0 : Int) + (j : Int) = (j : Int) by omega]; exact atI_nat hv), _, rfl, e, j, (by rw [show (0 : Int) + (j : Int) = (j : Int) by omega]; rfl), hj, xe.same sk, fun H2 s2 => ?_⟩
        exact ⟨_, rfl, iteF ⟨_, rfl, sk.trans s2⟩⟩
      · subst e
        refine ⟨_, rfl, _, rfl, (v - 9), z, rfl, fun H2 s2 => ⟨_, rfl, iteT ?_⟩⟩
        exact ⟨_, rfl, q3, _, _, _, rfl, rfl, SqL.of ((sk.trans s2) _ _ upd_same), atI_nat (j := 0) rfl, e0, C 0, d0, _, _, rfl, (sk.trans s2) _ _ h1, (sk.trans s2) _ _ h2, M.xf 0 (by decide), M.s0.noN, lookOne _ _, _, rfl, rfl, by
          rw [decide_eq_true rfl]
          exact k _⟩
end
end E75

set_option Elab.async false
set_option linter.all false
set_option maxRecDepth 100000
set_option maxHeartbeats 4000000



namespace E75
open PySem L2 EV

/-- the facts that are looked up of an error class with one field -/
def supB (K : PySem.W.Frag) (C fI : Addr) (fld : Str) : Bool :=
  decide (PySem.W.findIn K (.ref C) "__setattr__" = some (some (.builtin "object.__setattr__"))) && decide (PySem.W.findIn K (.ref C) fld = some none) && decide (PySem.W.findIn K (.ref C) "__init__" = some (some (.ref fI))) &&
  decide (PySem.W.typeIn K (.ref fI) = some (.type "function")) && PySem.W.keepIn K (.ref C) && decide (PySem.W.ks_superIn K C C "__init__" = some (some (.builtin "ValueError.__init__"))) &&
  decide (PySem.W.subIn K (.ref C) (.type "ValueError") = some true) && decide (PySem.W.mroIn K C (.ref C) = some true) && SupX.okFld fld
theorem sup_of {prog : Program} {K : PySem.W.Frag} {mg : Str → Option Value} {C fI : Addr} {nm0 fld : Str} (gC : mg nm0 = some (.ref C)) (b : supB K C fI fld = true)
    (cls : ∃ nm q N bs bm sn sub ab col dd k0 k1 k2 k3 k5, K.lookup C = some (excClassObj nm q C N bs bm true sn sub ab col dd k0 k1 k2 k3 k5 "ValueError.__new__") ∧ HandSPX.refsVE bm = true)
    (nsS : mg "super" = none) (opq : PySem.W.nsIn K cStatics "thirdparty.any" = some none)
    (fn : ∃ (txt qual : Str) (oc : Value) (od : Option Addr) (doc pm : Value) (an : Option Addr) (cda cc : Addr) (ct : Value) (osl : Array (Option Value)) (p1 p2 a0 a1 a2 a3 a4 a5 q1 q2 q3 q4 : Pos),
      K.lookup fI = some ⟨oc, od, .func (PySem.W.ksFn "__init__" qual (SupX.iA fld p1 p2) (SupX.iB fld txt a0 a1 a2 a3 a4 a5 q1 q2 q3 q4) (SupX.iS fld) .none .none doc pm an (.ref cda) ct cc), osl⟩ ∧ PySem.W.codeIn K (.ref cda) qual = true ∧
      (∃ ccl cdd vs ccs file tf, K.lookup cda = some ⟨ccl, cdd, .fields vs, ccs⟩ ∧ vs[2]? = some (.str file tf) ∧ ((prog.main.file : Str) == file) = true) ∧
      (∃ cl cld csl, K.lookup cc = some ⟨cl, cld, .cell (some (.ref C)), csl⟩) ∧
      (∀ (s : Shared) (x : Addr) (v : Value), BindsTo s (PySem.W.ksFn "__init__" qual (SupX.iA fld p1 p2) (SupX.iB fld txt a0 a1 a2 a3 a4 a5 q1 q2 q3 q4) (SupX.iS fld) .none .none doc pm an (.ref cda) ct cc) ⟨[.ref x, v], []⟩ [("self", .ref x), (fld, v)]) ∧
      (∀ L : Addr, ∃ pl : Sem Bool, eval (.Call (.Attribute (.Call (.Name "super" a0) [] [] a1) "__init__" a2) [.Constant (.str txt) 0 a3] [] a4) (PySem.W.ksEnv qual (SupX.iS fld) L fI (.ref cda) cc) = (do
        let ov ← attributeBase (.Call (.Name "super" a0) [] [] a1) "__init__" (PySem.W.ksEnv qual (SupX.iS fld) L fI (.ref cda) cc) (eval (.Call (.Name "super" a0) [] [] a1) (PySem.W.ksEnv qual (SupX.iS fld) L fI (.ref cda) cc))
        standAt a2.atName
        let (f, first) ← holding [ov] (getMethod ov "__init__" pl)
        callWith a4 f first (backTo a4 (starEach [.Constant (.str txt) 0 a3] (PySem.W.ksEnv qual (SupX.iS fld) L fI (.ref cda) cc))) [])))
    (top : (prog.main.scope.names.lookup ("super" : Str)).isSome = false) : SupX.SupTxt prog K mg C fI nm0 fld := by
  unfold supB at b
  simp only [Bool.and_eq_true, decide_eq_true_eq] at b
  obtain ⟨⟨⟨⟨⟨⟨⟨⟨b1, b2⟩, b3⟩, b4⟩, b5⟩, b6⟩, b7⟩, b8⟩, b9⟩ := b
  exact ⟨gC, cls, b1, b2, b3, b4, b5, b6, b7, b8, nsS, opq, b9, fn, top⟩
/-- .. and of all seventeen -/
def excB (K : PySem.W.Frag) (D : Addr) : Bool :=
  decide (PySem.W.findIn K (.ref D) "__getattribute__" = some (some (.builtin "BaseException.__getattribute__"))) && decide (PySem.W.findIn K (.ref D) "__getattr__" = some none) && decide (PySem.W.subIn K (.ref D) (.type "BaseException") = some true) &&
  PySem.W.hasDictIn K D && decide (PySem.W.findIn K (.ref D) "__class__" = some (some (.builtin "object.__class__"))) && decide (PySem.W.specialIn K (.builtin "object.__class__") "__get__" = some (some (.builtin "getset_descriptor.__get__"))) &&
  decide (PySem.W.takesIn K (.builtin "object.__class__") = some true) && decide (PySem.W.mroIn K D (.type "object") = some true)
def oneB (K : PySem.W.Frag) (Cm Ci Cb Cd : Addr) (cs : List Addr) (n : Nat) : Bool :=
  excB K (cs.getD n 0) && (List.range 17).all (fun m => decide (PySem.W.kitOne K (.ref (cs.getD n 0)) (.ref (cs.getD m 0)) = some (decide (m = n)))) &&
  decide (PySem.W.kitOne K (.ref (cs.getD n 0)) (.ref Cm) = some true) && decide (PySem.W.kitOne K (.ref (cs.getD n 0)) (.type "ValueError") = some true) && decide (PySem.W.kitOne K (.ref (cs.getD n 0)) (.ref Ci) = some (decide (n < 10))) &&
  decide (PySem.W.kitOne K (.ref (cs.getD n 0)) (.ref Cb) = some (decide (9 < n) && decide (n < 13))) && decide (PySem.W.kitOne K (.ref (cs.getD n 0)) (.ref Cd) = some (decide (12 < n)))
def txtB (K : PySem.W.Frag) (Cm Ci Cb Cd : Addr) (cs : List Addr) : Bool := (List.range 17).all fun n => oneB K Cm Ci Cb Cd cs n
theorem one_of {K : PySem.W.Frag} {Cm Ci Cb Cd : Addr} {cs : List Addr} {n : Nat} (b : txtB K Cm Ci Cb Cd cs = true) (hn : n < 17) : oneB K Cm Ci Cb Cd cs n = true := List.all_eq_true.mp b n (List.mem_range.mpr hn)
theorem txt_of {K : PySem.W.Frag} {mg : Str → Option Value} {Cm Ci Cb Cd : Addr} {cs : List Addr} (blt : Blt mg) (gM : mg "MendError" = some (.ref Cm)) (gI : mg "InvalidInput" = some (.ref Ci)) (gB : mg "BoundError" = some (.ref Cb)) (gD : mg "DeskError" = some (.ref Cd))
    (g : ∀ (n : Nat) (x : Str), cn[n]? = some x → mg x = some (.ref (cs.getD n 0))) (b : txtB K Cm Ci Cb Cd cs = true) : Txt K mg Cm Ci Cb Cd (fun n => cs.getD n 0) := by
  have one : ∀ n, n < 17 → _ := fun n hn => one_of b hn
  refine ⟨blt, gM, gI, gB, gD, g, fun n hn => ?_, fun n m hn hm => ?_, fun n hn => ?_, fun n hn => ?_, fun n hn => ?_, fun n hn => ?_, fun n hn => ?_⟩ <;> have z := one n hn <;> unfold oneB at z <;> simp only [Bool.and_eq_true, decide_eq_true_eq] at z <;> obtain ⟨⟨⟨⟨⟨⟨z1, z2⟩, z3⟩, z4⟩, z5⟩, z6⟩, z7⟩ := z
  · unfold excB at z1
    simp only [Bool.and_eq_true, decide_eq_true_eq] at z1
    obtain ⟨⟨⟨⟨⟨⟨⟨y1, y2⟩, y3⟩, y4⟩, y5⟩, y6⟩, y7⟩, y8⟩ := z1
    exact ⟨y1, y2, y3, y4, y5, y6, y7, y8⟩
  · exact of_decide_eq_true (List.all_eq_true.mp z2 m (List.mem_range.mpr hm))
  · exact z3
  · exact z4
  · exact z5
  · exact z6
  · exact z7
def xfAll (K : PySem.W.Frag) (cs : List Addr) : Bool := (List.range 17).all fun n => xfB K (cs.getD n 0)

theorem all_mk {l : PySem.W.OpenLaw} {w : World} {K : PySem.W.Frag} {h : Heap} {mg : Str → Option Value} {fa UM UI UB UD C0 C1 C2 C3 C4 C5 C6 C7 C8 C9 C10 C11 C12 C13 C14 C15 C16 : Addr} (X : K.In h) (G : h.Ns mainGlobals mg) (hfa : mg "law" = some (.ref fa))
    {oc0 kV0 dc0 pm0 cd0 ct0 : Value} {od0 an0 : Option Addr} {sl0 : Array (Option Value)} {g0 : Addr}
    {oc1 kV1 dc1 pm1 cd1 ct1 : Value} {od1 an1 : Option Addr} {sl1 : Array (Option Value)} {g1 : Addr}
    {oc2 kV2 dc2 pm2 cd2 ct2 : Value} {od2 an2 : Option Addr} {sl2 : Array (Option Value)} {g2 : Addr}
    {oc3 kV3 dc3 pm3 cd3 ct3 : Value} {od3 an3 : Option Addr} {sl3 : Array (Option Value)} {g3 : Addr}
    {oc4 kV4 dc4 pm4 cd4 ct4 : Value} {od4 an4 : Option Addr} {sl4 : Array (Option Value)} {g4 : Addr}
    {oc5 kV5 dc5 pm5 cd5 ct5 : Value} {od5 an5 : Option Addr} {sl5 : Array (Option Value)} {g5 : Addr}
    {oc6 kV6 dc6 pm6 cd6 ct6 : Value} {od6 an6 : Option Addr} {sl6 : Array (Option Value)} {g6 : Addr}
    {oc7 kV7 dc7 pm7 cd7 ct7 : Value} {od7 an7 : Option Addr} {sl7 : Array (Option Value)} {g7 : Addr}
    {nm0 qn0 jf0 : Str} {N0 i0 icd0 icc0 : Addr} {bs0 bm0 sub0 : List Value} {sn0 : List Str} {ab0 : Bool} {col0 : Option Bool} {dd0 iod0 ian0 jdd0 hdd0 : Option Addr} {ka0 kb0 kc0 ke0 kf0 : Option Value} {ioc0 idc0 ipm0 ict0 jcl0 hcl0 : Value} {isl0 jsl0 hsl0 : Array (Option Value)} {jvs0 : Array Value} {jt0 : Tok}
    {nm1 qn1 jf1 : Str} {N1 i1 icd1 icc1 : Addr} {bs1 bm1 sub1 : List Value} {sn1 : List Str} {ab1 : Bool} {col1 : Option Bool} {dd1 iod1 ian1 jdd1 hdd1 : Option Addr} {ka1 kb1 kc1 ke1 kf1 : Option Value} {ioc1 idc1 ipm1 ict1 jcl1 hcl1 : Value} {isl1 jsl1 hsl1 : Array (Option Value)} {jvs1 : Array Value} {jt1 : Tok}
    {nm2 qn2 jf2 : Str} {N2 i2 icd2 icc2 : Addr} {bs2 bm2 sub2 : List Value} {sn2 : List Str} {ab2 : Bool} {col2 : Option Bool} {dd2 iod2 ian2 jdd2 hdd2 : Option Addr} {ka2 kb2 kc2 ke2 kf2 : Option Value} {ioc2 idc2 ipm2 ict2 jcl2 hcl2 : Value} {isl2 jsl2 hsl2 : Array (Option Value)} {jvs2 : Array Value} {jt2 : Tok}
    {nm5 qn5 jf5 : Str} {N5 i5 icd5 icc5 : Addr} {bs5 bm5 sub5 : List Value} {sn5 : List Str} {ab5 : Bool} {col5 : Option Bool} {dd5 iod5 ian5 jdd5 hdd5 : Option Addr} {ka5 kb5 kc5 ke5 kf5 : Option Value} {ioc5 idc5 ipm5 ict5 jcl5 hcl5 : Value} {isl5 jsl5 hsl5 : Array (Option Value)} {jvs5 : Array Value} {jt5 : Tok}
    {nm6 qn6 jf6 : Str} {N6 i6 icd6 icc6 : Addr} {bs6 bm6 sub6 : List Value} {sn6 : List Str} {ab6 : Bool} {col6 : Option Bool} {dd6 iod6 ian6 jdd6 hdd6 : Option Addr} {ka6 kb6 kc6 ke6 kf6 : Option Value} {ioc6 idc6 ipm6 ict6 jcl6 hcl6 : Value} {isl6 jsl6 hsl6 : Array (Option Value)} {jvs6 : Array Value} {jt6 : Tok}
    {nm7 qn7 jf7 : Str} {N7 i7 icd7 icc7 : Addr} {bs7 bm7 sub7 : List Value} {sn7 : List Str} {ab7 : Bool} {col7 : Option Bool} {dd7 iod7 ian7 jdd7 hdd7 : Option Addr} {ka7 kb7 kc7 ke7 kf7 : Option Value} {ioc7 idc7 ipm7 ict7 jcl7 hcl7 : Value} {isl7 jsl7 hsl7 : Array (Option Value)} {jvs7 : Array Value} {jt7 : Tok}
    {nm8 qn8 jf8 : Str} {N8 i8 icd8 icc8 : Addr} {bs8 bm8 sub8 : List Value} {sn8 : List Str} {ab8 : Bool} {col8 : Option Bool} {dd8 iod8 ian8 jdd8 hdd8 : Option Addr} {ka8 kb8 kc8 ke8 kf8 : Option Value} {ioc8 idc8 ipm8 ict8 jcl8 hcl8 : Value} {isl8 jsl8 hsl8 : Array (Option Value)} {jvs8 : Array Value} {jt8 : Tok}
    {nm10 qn10 jf10 : Str} {N10 i10 icd10 icc10 : Addr} {bs10 bm10 sub10 : List Value} {sn10 : List Str} {ab10 : Bool} {col10 : Option Bool} {dd10 iod10 ian10 jdd10 hdd10 : Option Addr} {ka10 kb10 kc10 ke10 kf10 : Option Value} {ioc10 idc10 ipm10 ict10 jcl10 hcl10 : Value} {isl10 jsl10 hsl10 : Array (Option Value)} {jvs10 : Array Value} {jt10 : Tok}
    {nm11 qn11 jf11 : Str} {N11 i11 icd11 icc11 : Addr} {bs11 bm11 sub11 : List Value} {sn11 : List Str} {ab11 : Bool} {col11 : Option Bool} {dd11 iod11 ian11 jdd11 hdd11 : Option Addr} {ka11 kb11 kc11 ke11 kf11 : Option Value} {ioc11 idc11 ipm11 ict11 jcl11 hcl11 : Value} {isl11 jsl11 hsl11 : Array (Option Value)} {jvs11 : Array Value} {jt11 : Tok}
    {nm12 qn12 jf12 : Str} {N12 i12 icd12 icc12 : Addr} {bs12 bm12 sub12 : List Value} {sn12 : List Str} {ab12 : Bool} {col12 : Option Bool} {dd12 iod12 ian12 jdd12 hdd12 : Option Addr} {ka12 kb12 kc12 ke12 kf12 : Option Value} {ioc12 idc12 ipm12 ict12 jcl12 hcl12 : Value} {isl12 jsl12 hsl12 : Array (Option Value)} {jvs12 : Array Value} {jt12 : Tok}
    {nm13 qn13 jf13 : Str} {N13 i13 icd13 icc13 : Addr} {bs13 bm13 sub13 : List Value} {sn13 : List Str} {ab13 : Bool} {col13 : Option Bool} {dd13 iod13 ian13 jdd13 hdd13 : Option Addr} {ka13 kb13 kc13 ke13 kf13 : Option Value} {ioc13 idc13 ipm13 ict13 jcl13 hcl13 : Value} {isl13 jsl13 hsl13 : Array (Option Value)} {jvs13 : Array Value} {jt13 : Tok}
    {nm14 qn14 jf14 : Str} {N14 i14 icd14 icc14 : Addr} {bs14 bm14 sub14 : List Value} {sn14 : List Str} {ab14 : Bool} {col14 : Option Bool} {dd14 iod14 ian14 jdd14 hdd14 : Option Addr} {ka14 kb14 kc14 ke14 kf14 : Option Value} {ioc14 idc14 ipm14 ict14 jcl14 hcl14 : Value} {isl14 jsl14 hsl14 : Array (Option Value)} {jvs14 : Array Value} {jt14 : Tok}
    (aC0 : PySem.W.nsIn K mainGlobals "InvalidText" = some (some (.ref C0)))
    (aC1 : PySem.W.nsIn K mainGlobals "InvalidProgram" = some (some (.ref C1)))
    (aC2 : PySem.W.nsIn K mainGlobals "InvalidContract" = some (some (.ref C2)))
    (aC3 : PySem.W.nsIn K mainGlobals "InvalidChange" = some (some (.ref C3)))
    (aC4 : PySem.W.nsIn K mainGlobals "InvalidStream" = some (some (.ref C4)))
    (aC5 : PySem.W.nsIn K mainGlobals "InvalidPlaces" = some (some (.ref C5)))
    (aC6 : PySem.W.nsIn K mainGlobals "InvalidEdit" = some (some (.ref C6)))
    (aC7 : PySem.W.nsIn K mainGlobals "InvalidLine" = some (some (.ref C7)))
    (aC8 : PySem.W.nsIn K mainGlobals "InvalidName" = some (some (.ref C8)))
    (aC9 : PySem.W.nsIn K mainGlobals "Mismatch" = some (some (.ref C9)))
    (aC10 : PySem.W.nsIn K mainGlobals "TooLarge" = some (some (.ref C10)))
    (aC11 : PySem.W.nsIn K mainGlobals "TooLong" = some (some (.ref C11)))
    (aC12 : PySem.W.nsIn K mainGlobals "TooManyCases" = some (some (.ref C12)))
    (aC13 : PySem.W.nsIn K mainGlobals "NameTaken" = some (some (.ref C13)))
    (aC14 : PySem.W.nsIn K mainGlobals "UnknownName" = some (some (.ref C14)))
    (aC15 : PySem.W.nsIn K mainGlobals "NothingToUndo" = some (some (.ref C15)))
    (aC16 : PySem.W.nsIn K mainGlobals "NothingToRedo" = some (some (.ref C16)))
    (aM : PySem.W.nsIn K mainGlobals "MendError" = some (some (.ref UM)))
    (aI : PySem.W.nsIn K mainGlobals "InvalidInput" = some (some (.ref UI)))
    (aB : PySem.W.nsIn K mainGlobals "BoundError" = some (some (.ref UB)))
    (aD : PySem.W.nsIn K mainGlobals "DeskError" = some (some (.ref UD)))
    (z_len : PySem.W.nsIn K mainGlobals "len" = some none)
    (z_int : PySem.W.nsIn K mainGlobals "int" = some none)
    (z_isinstance : PySem.W.nsIn K mainGlobals "isinstance" = some none)
    (z_str : PySem.W.nsIn K mainGlobals "str" = some none)
    (z_bool : PySem.W.nsIn K mainGlobals "bool" = some none)
    (z_range : PySem.W.nsIn K mainGlobals "range" = some none)
    (z_all : PySem.W.nsIn K mainGlobals "all" = some none)
    (z_ValueError : PySem.W.nsIn K mainGlobals "ValueError" = some none)
    (z_super : PySem.W.nsIn K mainGlobals "super" = some none)
    (d0 : PySem.W.nsIn K mainGlobals "_law_reader" = some (some (.ref g0)))
    (l0 : K.lookup g0 = some ⟨oc0, od0, .func (PySem.W.fnOf "_law_reader" "_law_reader" (defArgs sReader) (defBody sReader) (defScope sReader) .none kV0 dc0 pm0 an0 cd0 ct0), sl0⟩)
    (c0 : PySem.W.codeIn K cd0 "_law_reader" = true)
    (k0 : PySem.W.keepIn K (.ref g0) = true)
    (d1 : PySem.W.nsIn K mainGlobals "_law_next" = some (some (.ref g1)))
    (l1 : K.lookup g1 = some ⟨oc1, od1, .func (PySem.W.fnOf "_law_next" "_law_next" (defArgs sNext) (defBody sNext) (defScope sNext) .none kV1 dc1 pm1 an1 cd1 ct1), sl1⟩)
    (c1 : PySem.W.codeIn K cd1 "_law_next" = true)
    (k1 : PySem.W.keepIn K (.ref g1) = true)
    (d2 : PySem.W.nsIn K mainGlobals "_law_same" = some (some (.ref g2)))
    (l2 : K.lookup g2 = some ⟨oc2, od2, .func (PySem.W.fnOf "_law_same" "_law_same" (defArgs sSame) (defBody sSame) (defScope sSame) .none kV2 dc2 pm2 an2 cd2 ct2), sl2⟩)
    (c2 : PySem.W.codeIn K cd2 "_law_same" = true)
    (k2 : PySem.W.keepIn K (.ref g2) = true)
    (d3 : PySem.W.nsIn K mainGlobals "_law_inputs" = some (some (.ref g3)))
    (l3 : K.lookup g3 = some ⟨oc3, od3, .func (PySem.W.fnOf "_law_inputs" "_law_inputs" (defArgs sInputs) (defBody sInputs) (defScope sInputs) .none kV3 dc3 pm3 an3 cd3 ct3), sl3⟩)
    (c3 : PySem.W.codeIn K cd3 "_law_inputs" = true)
    (k3 : PySem.W.keepIn K (.ref g3) = true)
    (d4 : PySem.W.nsIn K mainGlobals "_law_others" = some (some (.ref g4)))
    (l4 : K.lookup g4 = some ⟨oc4, od4, .func (PySem.W.fnOf "_law_others" "_law_others" (defArgs sOthers) (defBody sOthers) (defScope sOthers) .none kV4 dc4 pm4 an4 cd4 ct4), sl4⟩)
    (c4 : PySem.W.codeIn K cd4 "_law_others" = true)
    (k4 : PySem.W.keepIn K (.ref g4) = true)
    (d5 : PySem.W.nsIn K mainGlobals "_law_is" = some (some (.ref g5)))
    (l5 : K.lookup g5 = some ⟨oc5, od5, .func (PySem.W.fnOf "_law_is" "_law_is" (defArgs sIs) (defBody sIs) (defScope sIs) .none kV5 dc5 pm5 an5 cd5 ct5), sl5⟩)
    (c5 : PySem.W.codeIn K cd5 "_law_is" = true)
    (k5 : PySem.W.keepIn K (.ref g5) = true)
    (d6 : PySem.W.nsIn K mainGlobals "_law_attributes" = some (some (.ref g6)))
    (l6 : K.lookup g6 = some ⟨oc6, od6, .func (PySem.W.fnOf "_law_attributes" "_law_attributes" (defArgs sAttr) (defBody sAttr) (defScope sAttr) .none kV6 dc6 pm6 an6 cd6 ct6), sl6⟩)
    (c6 : PySem.W.codeIn K cd6 "_law_attributes" = true)
    (k6 : PySem.W.keepIn K (.ref g6) = true)
    (d7 : PySem.W.nsIn K mainGlobals "law" = some (some (.ref g7)))
    (l7 : K.lookup g7 = some ⟨oc7, od7, .func (PySem.W.fnOf "law" "law" (defArgs sLaw) (defBody sLaw) (defScope sLaw) .none kV7 dc7 pm7 an7 cd7 ct7), sl7⟩)
    (c7 : PySem.W.codeIn K cd7 "law" = true)
    (k7 : PySem.W.keepIn K (.ref g7) = true)
    (tb : txtB K UM UI UB UD [C0, C1, C2, C3, C4, C5, C6, C7, C8, C9, C10, C11, C12, C13, C14, C15, C16] = true)
    (xb : xfAll K [C0, C1, C2, C3, C4, C5, C6, C7, C8, C9, C10, C11, C12, C13, C14, C15, C16] = true)
    (opq : PySem.W.nsIn K cStatics "thirdparty.any" = some none)
    (tp : (l.prog.main.scope.names.lookup ("super" : Str)).isSome = false)
    (xL0 : K.lookup C0 = some (excClassObj nm0 qn0 C0 N0 bs0 bm0 true sn0 sub0 ab0 col0 dd0 ka0 kb0 kc0 ke0 kf0 "ValueError.__new__"))
    (rv0 : HandSPX.refsVE bm0 = true)
    (fI0 : PySem.W.findIn K (.ref C0) "__init__" = some (some (.ref i0)))
    (lI0 : K.lookup i0 = some ⟨ioc0, iod0, .func (PySem.W.ksFn "__init__" "InvalidText.__init__" (SupX.iA "position" ⟨12, 17, 12, 21⟩ ⟨12, 23, 12, 31⟩) (SupX.iB "position" "the text does not fit" ⟨13, 8, 13, 13⟩ ⟨13, 8, 13, 15⟩ ⟨13, 8, 13, 24⟩ ⟨13, 25, 13, 48⟩ ⟨13, 8, 13, 49⟩ ⟨13, 8, 13, 49⟩ ⟨14, 8, 14, 12⟩ ⟨14, 8, 14, 21⟩ ⟨14, 24, 14, 32⟩ ⟨14, 8, 14, 32⟩) (SupX.iS "position") .none .none idc0 ipm0 ian0 (.ref icd0) ict0 icc0), isl0⟩)
    (cI0 : PySem.W.codeIn K (.ref icd0) "InvalidText.__init__" = true)
    (oI0 : K.lookup icd0 = some ⟨jcl0, jdd0, .fields jvs0, jsl0⟩)
    (vI0 : jvs0[2]? = some (.str jf0 jt0))
    (eI0 : ((l.prog.main.file : Str) == jf0) = true)
    (ceI0 : K.lookup icc0 = some ⟨hcl0, hdd0, .cell (some (.ref C0)), hsl0⟩)
    (sB0 : supB K C0 i0 "position" = true)
    (xL1 : K.lookup C1 = some (excClassObj nm1 qn1 C1 N1 bs1 bm1 true sn1 sub1 ab1 col1 dd1 ka1 kb1 kc1 ke1 kf1 "ValueError.__new__"))
    (rv1 : HandSPX.refsVE bm1 = true)
    (fI1 : PySem.W.findIn K (.ref C1) "__init__" = some (some (.ref i1)))
    (lI1 : K.lookup i1 = some ⟨ioc1, iod1, .func (PySem.W.ksFn "__init__" "InvalidProgram.__init__" (SupX.iA "reason" ⟨17, 17, 17, 21⟩ ⟨17, 23, 17, 29⟩) (SupX.iB "reason" "the program breaks a rule" ⟨18, 8, 18, 13⟩ ⟨18, 8, 18, 15⟩ ⟨18, 8, 18, 24⟩ ⟨18, 25, 18, 52⟩ ⟨18, 8, 18, 53⟩ ⟨18, 8, 18, 53⟩ ⟨19, 8, 19, 12⟩ ⟨19, 8, 19, 19⟩ ⟨19, 22, 19, 28⟩ ⟨19, 8, 19, 28⟩) (SupX.iS "reason") .none .none idc1 ipm1 ian1 (.ref icd1) ict1 icc1), isl1⟩)
    (cI1 : PySem.W.codeIn K (.ref icd1) "InvalidProgram.__init__" = true)
    (oI1 : K.lookup icd1 = some ⟨jcl1, jdd1, .fields jvs1, jsl1⟩)
    (vI1 : jvs1[2]? = some (.str jf1 jt1))
    (eI1 : ((l.prog.main.file : Str) == jf1) = true)
    (ceI1 : K.lookup icc1 = some ⟨hcl1, hdd1, .cell (some (.ref C1)), hsl1⟩)
    (sB1 : supB K C1 i1 "reason" = true)
    (xL2 : K.lookup C2 = some (excClassObj nm2 qn2 C2 N2 bs2 bm2 true sn2 sub2 ab2 col2 dd2 ka2 kb2 kc2 ke2 kf2 "ValueError.__new__"))
    (rv2 : HandSPX.refsVE bm2 = true)
    (fI2 : PySem.W.findIn K (.ref C2) "__init__" = some (some (.ref i2)))
    (lI2 : K.lookup i2 = some ⟨ioc2, iod2, .func (PySem.W.ksFn "__init__" "InvalidContract.__init__" (SupX.iA "reason" ⟨22, 17, 22, 21⟩ ⟨22, 23, 22, 29⟩) (SupX.iB "reason" "the contract breaks a rule" ⟨23, 8, 23, 13⟩ ⟨23, 8, 23, 15⟩ ⟨23, 8, 23, 24⟩ ⟨23, 25, 23, 53⟩ ⟨23, 8, 23, 54⟩ ⟨23, 8, 23, 54⟩ ⟨24, 8, 24, 12⟩ ⟨24, 8, 24, 19⟩ ⟨24, 22, 24, 28⟩ ⟨24, 8, 24, 28⟩) (SupX.iS "reason") .none .none idc2 ipm2 ian2 (.ref icd2) ict2 icc2), isl2⟩)
    (cI2 : PySem.W.codeIn K (.ref icd2) "InvalidContract.__init__" = true)
    (oI2 : K.lookup icd2 = some ⟨jcl2, jdd2, .fields jvs2, jsl2⟩)
    (vI2 : jvs2[2]? = some (.str jf2 jt2))
    (eI2 : ((l.prog.main.file : Str) == jf2) = true)
    (ceI2 : K.lookup icc2 = some ⟨hcl2, hdd2, .cell (some (.ref C2)), hsl2⟩)
    (sB2 : supB K C2 i2 "reason" = true)
    (eN3 : PySem.W.excIn K C3 HandSPX.veTail "ValueError.__new__" = true)
    (kN3 : PySem.W.keepIn K (.ref C3) = true)
    (eN4 : PySem.W.excIn K C4 HandSPX.veTail "ValueError.__new__" = true)
    (kN4 : PySem.W.keepIn K (.ref C4) = true)
    (xL5 : K.lookup C5 = some (excClassObj nm5 qn5 C5 N5 bs5 bm5 true sn5 sub5 ab5 col5 dd5 ka5 kb5 kc5 ke5 kf5 "ValueError.__new__"))
    (rv5 : HandSPX.refsVE bm5 = true)
    (fI5 : PySem.W.findIn K (.ref C5) "__init__" = some (some (.ref i5)))
    (lI5 : K.lookup i5 = some ⟨ioc5, iod5, .func (PySem.W.ksFn "__init__" "InvalidPlaces.__init__" (SupX.iA "place" ⟨31, 17, 31, 21⟩ ⟨31, 23, 31, 28⟩) (SupX.iB "place" "the place does not fit" ⟨32, 8, 32, 13⟩ ⟨32, 8, 32, 15⟩ ⟨32, 8, 32, 24⟩ ⟨32, 25, 32, 49⟩ ⟨32, 8, 32, 50⟩ ⟨32, 8, 32, 50⟩ ⟨33, 8, 33, 12⟩ ⟨33, 8, 33, 18⟩ ⟨33, 21, 33, 26⟩ ⟨33, 8, 33, 26⟩) (SupX.iS "place") .none .none idc5 ipm5 ian5 (.ref icd5) ict5 icc5), isl5⟩)
    (cI5 : PySem.W.codeIn K (.ref icd5) "InvalidPlaces.__init__" = true)
    (oI5 : K.lookup icd5 = some ⟨jcl5, jdd5, .fields jvs5, jsl5⟩)
    (vI5 : jvs5[2]? = some (.str jf5 jt5))
    (eI5 : ((l.prog.main.file : Str) == jf5) = true)
    (ceI5 : K.lookup icc5 = some ⟨hcl5, hdd5, .cell (some (.ref C5)), hsl5⟩)
    (sB5 : supB K C5 i5 "place" = true)
    (xL6 : K.lookup C6 = some (excClassObj nm6 qn6 C6 N6 bs6 bm6 true sn6 sub6 ab6 col6 dd6 ka6 kb6 kc6 ke6 kf6 "ValueError.__new__"))
    (rv6 : HandSPX.refsVE bm6 = true)
    (fI6 : PySem.W.findIn K (.ref C6) "__init__" = some (some (.ref i6)))
    (lI6 : K.lookup i6 = some ⟨ioc6, iod6, .func (PySem.W.ksFn "__init__" "InvalidEdit.__init__" (SupX.iA "place" ⟨36, 17, 36, 21⟩ ⟨36, 23, 36, 28⟩) (SupX.iB "place" "the edit does not fit its place" ⟨37, 8, 37, 13⟩ ⟨37, 8, 37, 15⟩ ⟨37, 8, 37, 24⟩ ⟨37, 25, 37, 58⟩ ⟨37, 8, 37, 59⟩ ⟨37, 8, 37, 59⟩ ⟨38, 8, 38, 12⟩ ⟨38, 8, 38, 18⟩ ⟨38, 21, 38, 26⟩ ⟨38, 8, 38, 26⟩) (SupX.iS "place") .none .none idc6 ipm6 ian6 (.ref icd6) ict6 icc6), isl6⟩)
    (cI6 : PySem.W.codeIn K (.ref icd6) "InvalidEdit.__init__" = true)
    (oI6 : K.lookup icd6 = some ⟨jcl6, jdd6, .fields jvs6, jsl6⟩)
    (vI6 : jvs6[2]? = some (.str jf6 jt6))
    (eI6 : ((l.prog.main.file : Str) == jf6) = true)
    (ceI6 : K.lookup icc6 = some ⟨hcl6, hdd6, .cell (some (.ref C6)), hsl6⟩)
    (sB6 : supB K C6 i6 "place" = true)
    (xL7 : K.lookup C7 = some (excClassObj nm7 qn7 C7 N7 bs7 bm7 true sn7 sub7 ab7 col7 dd7 ka7 kb7 kc7 ke7 kf7 "ValueError.__new__"))
    (rv7 : HandSPX.refsVE bm7 = true)
    (fI7 : PySem.W.findIn K (.ref C7) "__init__" = some (some (.ref i7)))
    (lI7 : K.lookup i7 = some ⟨ioc7, iod7, .func (PySem.W.ksFn "__init__" "InvalidLine.__init__" (SupX.iA "number" ⟨41, 17, 41, 21⟩ ⟨41, 23, 41, 29⟩) (SupX.iB "number" "the line does not fit" ⟨42, 8, 42, 13⟩ ⟨42, 8, 42, 15⟩ ⟨42, 8, 42, 24⟩ ⟨42, 25, 42, 48⟩ ⟨42, 8, 42, 49⟩ ⟨42, 8, 42, 49⟩ ⟨43, 8, 43, 12⟩ ⟨43, 8, 43, 19⟩ ⟨43, 22, 43, 28⟩ ⟨43, 8, 43, 28⟩) (SupX.iS "number") .none .none idc7 ipm7 ian7 (.ref icd7) ict7 icc7), isl7⟩)
    (cI7 : PySem.W.codeIn K (.ref icd7) "InvalidLine.__init__" = true)
    (oI7 : K.lookup icd7 = some ⟨jcl7, jdd7, .fields jvs7, jsl7⟩)
    (vI7 : jvs7[2]? = some (.str jf7 jt7))
    (eI7 : ((l.prog.main.file : Str) == jf7) = true)
    (ceI7 : K.lookup icc7 = some ⟨hcl7, hdd7, .cell (some (.ref C7)), hsl7⟩)
    (sB7 : supB K C7 i7 "number" = true)
    (xL8 : K.lookup C8 = some (excClassObj nm8 qn8 C8 N8 bs8 bm8 true sn8 sub8 ab8 col8 dd8 ka8 kb8 kc8 ke8 kf8 "ValueError.__new__"))
    (rv8 : HandSPX.refsVE bm8 = true)
    (fI8 : PySem.W.findIn K (.ref C8) "__init__" = some (some (.ref i8)))
    (lI8 : K.lookup i8 = some ⟨ioc8, iod8, .func (PySem.W.ksFn "__init__" "InvalidName.__init__" (SupX.iA "name" ⟨46, 17, 46, 21⟩ ⟨46, 23, 46, 27⟩) (SupX.iB "name" "the name does not fit" ⟨47, 8, 47, 13⟩ ⟨47, 8, 47, 15⟩ ⟨47, 8, 47, 24⟩ ⟨47, 25, 47, 48⟩ ⟨47, 8, 47, 49⟩ ⟨47, 8, 47, 49⟩ ⟨48, 8, 48, 12⟩ ⟨48, 8, 48, 17⟩ ⟨48, 20, 48, 24⟩ ⟨48, 8, 48, 24⟩) (SupX.iS "name") .none .none idc8 ipm8 ian8 (.ref icd8) ict8 icc8), isl8⟩)
    (cI8 : PySem.W.codeIn K (.ref icd8) "InvalidName.__init__" = true)
    (oI8 : K.lookup icd8 = some ⟨jcl8, jdd8, .fields jvs8, jsl8⟩)
    (vI8 : jvs8[2]? = some (.str jf8 jt8))
    (eI8 : ((l.prog.main.file : Str) == jf8) = true)
    (ceI8 : K.lookup icc8 = some ⟨hcl8, hdd8, .cell (some (.ref C8)), hsl8⟩)
    (sB8 : supB K C8 i8 "name" = true)
    (eN9 : PySem.W.excIn K C9 HandSPX.veTail "ValueError.__new__" = true)
    (kN9 : PySem.W.keepIn K (.ref C9) = true)
    (xL10 : K.lookup C10 = some (excClassObj nm10 qn10 C10 N10 bs10 bm10 true sn10 sub10 ab10 col10 dd10 ka10 kb10 kc10 ke10 kf10 "ValueError.__new__"))
    (rv10 : HandSPX.refsVE bm10 = true)
    (fI10 : PySem.W.findIn K (.ref C10) "__init__" = some (some (.ref i10)))
    (lI10 : K.lookup i10 = some ⟨ioc10, iod10, .func (PySem.W.ksFn "__init__" "TooLarge.__init__" (SupX.iA "what" ⟨53, 17, 53, 21⟩ ⟨53, 23, 53, 27⟩) (SupX.iB "what" "too large" ⟨54, 8, 54, 13⟩ ⟨54, 8, 54, 15⟩ ⟨54, 8, 54, 24⟩ ⟨54, 25, 54, 36⟩ ⟨54, 8, 54, 37⟩ ⟨54, 8, 54, 37⟩ ⟨55, 8, 55, 12⟩ ⟨55, 8, 55, 17⟩ ⟨55, 20, 55, 24⟩ ⟨55, 8, 55, 24⟩) (SupX.iS "what") .none .none idc10 ipm10 ian10 (.ref icd10) ict10 icc10), isl10⟩)
    (cI10 : PySem.W.codeIn K (.ref icd10) "TooLarge.__init__" = true)
    (oI10 : K.lookup icd10 = some ⟨jcl10, jdd10, .fields jvs10, jsl10⟩)
    (vI10 : jvs10[2]? = some (.str jf10 jt10))
    (eI10 : ((l.prog.main.file : Str) == jf10) = true)
    (ceI10 : K.lookup icc10 = some ⟨hcl10, hdd10, .cell (some (.ref C10)), hsl10⟩)
    (sB10 : supB K C10 i10 "what" = true)
    (xL11 : K.lookup C11 = some (excClassObj nm11 qn11 C11 N11 bs11 bm11 true sn11 sub11 ab11 col11 dd11 ka11 kb11 kc11 ke11 kf11 "ValueError.__new__"))
    (rv11 : HandSPX.refsVE bm11 = true)
    (fI11 : PySem.W.findIn K (.ref C11) "__init__" = some (some (.ref i11)))
    (lI11 : K.lookup i11 = some ⟨ioc11, iod11, .func (PySem.W.ksFn "__init__" "TooLong.__init__" (SupX.iA "what" ⟨58, 17, 58, 21⟩ ⟨58, 23, 58, 27⟩) (SupX.iB "what" "too long" ⟨59, 8, 59, 13⟩ ⟨59, 8, 59, 15⟩ ⟨59, 8, 59, 24⟩ ⟨59, 25, 59, 35⟩ ⟨59, 8, 59, 36⟩ ⟨59, 8, 59, 36⟩ ⟨60, 8, 60, 12⟩ ⟨60, 8, 60, 17⟩ ⟨60, 20, 60, 24⟩ ⟨60, 8, 60, 24⟩) (SupX.iS "what") .none .none idc11 ipm11 ian11 (.ref icd11) ict11 icc11), isl11⟩)
    (cI11 : PySem.W.codeIn K (.ref icd11) "TooLong.__init__" = true)
    (oI11 : K.lookup icd11 = some ⟨jcl11, jdd11, .fields jvs11, jsl11⟩)
    (vI11 : jvs11[2]? = some (.str jf11 jt11))
    (eI11 : ((l.prog.main.file : Str) == jf11) = true)
    (ceI11 : K.lookup icc11 = some ⟨hcl11, hdd11, .cell (some (.ref C11)), hsl11⟩)
    (sB11 : supB K C11 i11 "what" = true)
    (xL12 : K.lookup C12 = some (excClassObj nm12 qn12 C12 N12 bs12 bm12 true sn12 sub12 ab12 col12 dd12 ka12 kb12 kc12 ke12 kf12 "ValueError.__new__"))
    (rv12 : HandSPX.refsVE bm12 = true)
    (fI12 : PySem.W.findIn K (.ref C12) "__init__" = some (some (.ref i12)))
    (lI12 : K.lookup i12 = some ⟨ioc12, iod12, .func (PySem.W.ksFn "__init__" "TooManyCases.__init__" (SupX.iA "limit" ⟨63, 17, 63, 21⟩ ⟨63, 23, 63, 28⟩) (SupX.iB "limit" "too many cases" ⟨64, 8, 64, 13⟩ ⟨64, 8, 64, 15⟩ ⟨64, 8, 64, 24⟩ ⟨64, 25, 64, 41⟩ ⟨64, 8, 64, 42⟩ ⟨64, 8, 64, 42⟩ ⟨65, 8, 65, 12⟩ ⟨65, 8, 65, 18⟩ ⟨65, 21, 65, 26⟩ ⟨65, 8, 65, 26⟩) (SupX.iS "limit") .none .none idc12 ipm12 ian12 (.ref icd12) ict12 icc12), isl12⟩)
    (cI12 : PySem.W.codeIn K (.ref icd12) "TooManyCases.__init__" = true)
    (oI12 : K.lookup icd12 = some ⟨jcl12, jdd12, .fields jvs12, jsl12⟩)
    (vI12 : jvs12[2]? = some (.str jf12 jt12))
    (eI12 : ((l.prog.main.file : Str) == jf12) = true)
    (ceI12 : K.lookup icc12 = some ⟨hcl12, hdd12, .cell (some (.ref C12)), hsl12⟩)
    (sB12 : supB K C12 i12 "limit" = true)
    (xL13 : K.lookup C13 = some (excClassObj nm13 qn13 C13 N13 bs13 bm13 true sn13 sub13 ab13 col13 dd13 ka13 kb13 kc13 ke13 kf13 "ValueError.__new__"))
    (rv13 : HandSPX.refsVE bm13 = true)
    (fI13 : PySem.W.findIn K (.ref C13) "__init__" = some (some (.ref i13)))
    (lI13 : K.lookup i13 = some ⟨ioc13, iod13, .func (PySem.W.ksFn "__init__" "NameTaken.__init__" (SupX.iA "name" ⟨68, 17, 68, 21⟩ ⟨68, 23, 68, 27⟩) (SupX.iB "name" "the name is taken" ⟨69, 8, 69, 13⟩ ⟨69, 8, 69, 15⟩ ⟨69, 8, 69, 24⟩ ⟨69, 25, 69, 44⟩ ⟨69, 8, 69, 45⟩ ⟨69, 8, 69, 45⟩ ⟨70, 8, 70, 12⟩ ⟨70, 8, 70, 17⟩ ⟨70, 20, 70, 24⟩ ⟨70, 8, 70, 24⟩) (SupX.iS "name") .none .none idc13 ipm13 ian13 (.ref icd13) ict13 icc13), isl13⟩)
    (cI13 : PySem.W.codeIn K (.ref icd13) "NameTaken.__init__" = true)
    (oI13 : K.lookup icd13 = some ⟨jcl13, jdd13, .fields jvs13, jsl13⟩)
    (vI13 : jvs13[2]? = some (.str jf13 jt13))
    (eI13 : ((l.prog.main.file : Str) == jf13) = true)
    (ceI13 : K.lookup icc13 = some ⟨hcl13, hdd13, .cell (some (.ref C13)), hsl13⟩)
    (sB13 : supB K C13 i13 "name" = true)
    (xL14 : K.lookup C14 = some (excClassObj nm14 qn14 C14 N14 bs14 bm14 true sn14 sub14 ab14 col14 dd14 ka14 kb14 kc14 ke14 kf14 "ValueError.__new__"))
    (rv14 : HandSPX.refsVE bm14 = true)
    (fI14 : PySem.W.findIn K (.ref C14) "__init__" = some (some (.ref i14)))
    (lI14 : K.lookup i14 = some ⟨ioc14, iod14, .func (PySem.W.ksFn "__init__" "UnknownName.__init__" (SupX.iA "name" ⟨73, 17, 73, 21⟩ ⟨73, 23, 73, 27⟩) (SupX.iB "name" "the name is not known" ⟨74, 8, 74, 13⟩ ⟨74, 8, 74, 15⟩ ⟨74, 8, 74, 24⟩ ⟨74, 25, 74, 48⟩ ⟨74, 8, 74, 49⟩ ⟨74, 8, 74, 49⟩ ⟨75, 8, 75, 12⟩ ⟨75, 8, 75, 17⟩ ⟨75, 20, 75, 24⟩ ⟨75, 8, 75, 24⟩) (SupX.iS "name") .none .none idc14 ipm14 ian14 (.ref icd14) ict14 icc14), isl14⟩)
    (cI14 : PySem.W.codeIn K (.ref icd14) "UnknownName.__init__" = true)
    (oI14 : K.lookup icd14 = some ⟨jcl14, jdd14, .fields jvs14, jsl14⟩)
    (vI14 : jvs14[2]? = some (.str jf14 jt14))
    (eI14 : ((l.prog.main.file : Str) == jf14) = true)
    (ceI14 : K.lookup icc14 = some ⟨hcl14, hdd14, .cell (some (.ref C14)), hsl14⟩)
    (sB14 : supB K C14 i14 "name" = true)
    (eN15 : PySem.W.excIn K C15 HandSPX.veTail "ValueError.__new__" = true)
    (kN15 : PySem.W.keepIn K (.ref C15) = true)
    (eN16 : PySem.W.excIn K C16 HandSPX.veTail "ValueError.__new__" = true)
    (kN16 : PySem.W.keepIn K (.ref C16) = true) :
    ∃ fd : FuncData, (∀ (s : Shared) (v : Value), BindsTo s fd ⟨[v], []⟩ [("script", v)]) ∧ ∀ base : Heap, K.In base → base.Ns mainGlobals mg → FnOk l.prog w K mg base CX0 3 fa fd ["script"] (spLaw K) := by
  have e := hfa.symm.trans (PySem.W.mg_of X G d7)
  cases e
  have B : Blt mg := ⟨PySem.W.mg_none_of X G z_len, PySem.W.mg_none_of X G z_int, PySem.W.mg_none_of X G z_isinstance, PySem.W.mg_none_of X G z_str, PySem.W.mg_none_of X G z_bool, PySem.W.mg_none_of X G z_range, PySem.W.mg_none_of X G z_all, PySem.W.mg_none_of X G z_ValueError⟩
  have T := txt_of (cs := [C0, C1, C2, C3, C4, C5, C6, C7, C8, C9, C10, C11, C12, C13, C14, C15, C16]) B (PySem.W.mg_of X G aM) (PySem.W.mg_of X G aI) (PySem.W.mg_of X G aB) (PySem.W.mg_of X G aD) (fun n x hx => ?g) tb
  case g =>
    match n, hx with
    | 0, hx => cases hx; exact PySem.W.mg_of X G aC0
    | 1, hx => cases hx; exact PySem.W.mg_of X G aC1
    | 2, hx => cases hx; exact PySem.W.mg_of X G aC2
    | 3, hx => cases hx; exact PySem.W.mg_of X G aC3
    | 4, hx => cases hx; exact PySem.W.mg_of X G aC4
    | 5, hx => cases hx; exact PySem.W.mg_of X G aC5
    | 6, hx => cases hx; exact PySem.W.mg_of X G aC6
    | 7, hx => cases hx; exact PySem.W.mg_of X G aC7
    | 8, hx => cases hx; exact PySem.W.mg_of X G aC8
    | 9, hx => cases hx; exact PySem.W.mg_of X G aC9
    | 10, hx => cases hx; exact PySem.W.mg_of X G aC10
    | 11, hx => cases hx; exact PySem.W.mg_of X G aC11
    | 12, hx => cases hx; exact PySem.W.mg_of X G aC12
    | 13, hx => cases hx; exact PySem.W.mg_of X G aC13
    | 14, hx => cases hx; exact PySem.W.mg_of X G aC14
    | 15, hx => cases hx; exact PySem.W.mg_of X G aC15
    | 16, hx => cases hx; exact PySem.W.mg_of X G aC16
    | n + 17, hx => simp [cn] at hx
  have S0 : SupX.SupTxt l.prog K mg C0 i0 "InvalidText" "position" := sup_of (PySem.W.mg_of X G aC0) sB0 ⟨_, _, _, _, _, _, _, _, _, _, _, _, _, _, _, xL0, rv0⟩ (PySem.W.mg_none_of X G z_super) opq
    ⟨_, _, _, _, _, _, _, _, _, _, _, _, _, _, _, _, _, _, _, _, _, _, _, lI0, cI0, ⟨_, _, _, _, _, _, oI0, vI0, eI0⟩, ⟨_, _, _, ceI0⟩, fun s x v => .of_eq (by first | rfl | with_unfolding_all rfl), fun L => ⟨_, by first | rfl | with_unfolding_all rfl⟩⟩ tp
  have S1 : SupX.SupTxt l.prog K mg C1 i1 "InvalidProgram" "reason" := sup_of (PySem.W.mg_of X G aC1) sB1 ⟨_, _, _, _, _, _, _, _, _, _, _, _, _, _, _, xL1, rv1⟩ (PySem.W.mg_none_of X G z_super) opq
    ⟨_, _, _, _, _, _, _, _, _, _, _, _, _, _, _, _, _, _, _, _, _, _, _, lI1, cI1, ⟨_, _, _, _, _, _, oI1, vI1, eI1⟩, ⟨_, _, _, ceI1⟩, fun s x v => .of_eq (by first | rfl | with_unfolding_all rfl), fun L => ⟨_, by first | rfl | with_unfolding_all rfl⟩⟩ tp
  have S2 : SupX.SupTxt l.prog K mg C2 i2 "InvalidContract" "reason" := sup_of (PySem.W.mg_of X G aC2) sB2 ⟨_, _, _, _, _, _, _, _, _, _, _, _, _, _, _, xL2, rv2⟩ (PySem.W.mg_none_of X G z_super) opq
    ⟨_, _, _, _, _, _, _, _, _, _, _, _, _, _, _, _, _, _, _, _, _, _, _, lI2, cI2, ⟨_, _, _, _, _, _, oI2, vI2, eI2⟩, ⟨_, _, _, ceI2⟩, fun s x v => .of_eq (by first | rfl | with_unfolding_all rfl), fun L => ⟨_, by first | rfl | with_unfolding_all rfl⟩⟩ tp
  have S5 : SupX.SupTxt l.prog K mg C5 i5 "InvalidPlaces" "place" := sup_of (PySem.W.mg_of X G aC5) sB5 ⟨_, _, _, _, _, _, _, _, _, _, _, _, _, _, _, xL5, rv5⟩ (PySem.W.mg_none_of X G z_super) opq
    ⟨_, _, _, _, _, _, _, _, _, _, _, _, _, _, _, _, _, _, _, _, _, _, _, lI5, cI5, ⟨_, _, _, _, _, _, oI5, vI5, eI5⟩, ⟨_, _, _, ceI5⟩, fun s x v => .of_eq (by first | rfl | with_unfolding_all rfl), fun L => ⟨_, by first | rfl | with_unfolding_all rfl⟩⟩ tp
  have S6 : SupX.SupTxt l.prog K mg C6 i6 "InvalidEdit" "place" := sup_of (PySem.W.mg_of X G aC6) sB6 ⟨_, _, _, _, _, _, _, _, _, _, _, _, _, _, _, xL6, rv6⟩ (PySem.W.mg_none_of X G z_super) opq
    ⟨_, _, _, _, _, _, _, _, _, _, _, _, _, _, _, _, _, _, _, _, _, _, _, lI6, cI6, ⟨_, _, _, _, _, _, oI6, vI6, eI6⟩, ⟨_, _, _, ceI6⟩, fun s x v => .of_eq (by first | rfl | with_unfolding_all rfl), fun L => ⟨_, by first | rfl | with_unfolding_all rfl⟩⟩ tp
  have S7 : SupX.SupTxt l.prog K mg C7 i7 "InvalidLine" "number" := sup_of (PySem.W.mg_of X G aC7) sB7 ⟨_, _, _, _, _, _, _, _, _, _, _, _, _, _, _, xL7, rv7⟩ (PySem.W.mg_none_of X G z_super) opq
    ⟨_, _, _, _, _, _, _, _, _, _, _, _, _, _, _, _, _, _, _, _, _, _, _, lI7, cI7, ⟨_, _, _, _, _, _, oI7, vI7, eI7⟩, ⟨_, _, _, ceI7⟩, fun s x v => .of_eq (by first | rfl | with_unfolding_all rfl), fun L => ⟨_, by first | rfl | with_unfolding_all rfl⟩⟩ tp
  have S8 : SupX.SupTxt l.prog K mg C8 i8 "InvalidName" "name" := sup_of (PySem.W.mg_of X G aC8) sB8 ⟨_, _, _, _, _, _, _, _, _, _, _, _, _, _, _, xL8, rv8⟩ (PySem.W.mg_none_of X G z_super) opq
    ⟨_, _, _, _, _, _, _, _, _, _, _, _, _, _, _, _, _, _, _, _, _, _, _, lI8, cI8, ⟨_, _, _, _, _, _, oI8, vI8, eI8⟩, ⟨_, _, _, ceI8⟩, fun s x v => .of_eq (by first | rfl | with_unfolding_all rfl), fun L => ⟨_, by first | rfl | with_unfolding_all rfl⟩⟩ tp
  have S10 : SupX.SupTxt l.prog K mg C10 i10 "TooLarge" "what" := sup_of (PySem.W.mg_of X G aC10) sB10 ⟨_, _, _, _, _, _, _, _, _, _, _, _, _, _, _, xL10, rv10⟩ (PySem.W.mg_none_of X G z_super) opq
    ⟨_, _, _, _, _, _, _, _, _, _, _, _, _, _, _, _, _, _, _, _, _, _, _, lI10, cI10, ⟨_, _, _, _, _, _, oI10, vI10, eI10⟩, ⟨_, _, _, ceI10⟩, fun s x v => .of_eq (by first | rfl | with_unfolding_all rfl), fun L => ⟨_, by first | rfl | with_unfolding_all rfl⟩⟩ tp
  have S11 : SupX.SupTxt l.prog K mg C11 i11 "TooLong" "what" := sup_of (PySem.W.mg_of X G aC11) sB11 ⟨_, _, _, _, _, _, _, _, _, _, _, _, _, _, _, xL11, rv11⟩ (PySem.W.mg_none_of X G z_super) opq
    ⟨_, _, _, _, _, _, _, _, _, _, _, _, _, _, _, _, _, _, _, _, _, _, _, lI11, cI11, ⟨_, _, _, _, _, _, oI11, vI11, eI11⟩, ⟨_, _, _, ceI11⟩, fun s x v => .of_eq (by first | rfl | with_unfolding_all rfl), fun L => ⟨_, by first | rfl | with_unfolding_all rfl⟩⟩ tp
  have S12 : SupX.SupTxt l.prog K mg C12 i12 "TooManyCases" "limit" := sup_of (PySem.W.mg_of X G aC12) sB12 ⟨_, _, _, _, _, _, _, _, _, _, _, _, _, _, _, xL12, rv12⟩ (PySem.W.mg_none_of X G z_super) opq
    ⟨_, _, _, _, _, _, _, _, _, _, _, _, _, _, _, _, _, _, _, _, _, _, _, lI12, cI12, ⟨_, _, _, _, _, _, oI12, vI12, eI12⟩, ⟨_, _, _, ceI12⟩, fun s x v => .of_eq (by first | rfl | with_unfolding_all rfl), fun L => ⟨_, by first | rfl | with_unfolding_all rfl⟩⟩ tp
  have S13 : SupX.SupTxt l.prog K mg C13 i13 "NameTaken" "name" := sup_of (PySem.W.mg_of X G aC13) sB13 ⟨_, _, _, _, _, _, _, _, _, _, _, _, _, _, _, xL13, rv13⟩ (PySem.W.mg_none_of X G z_super) opq
    ⟨_, _, _, _, _, _, _, _, _, _, _, _, _, _, _, _, _, _, _, _, _, _, _, lI13, cI13, ⟨_, _, _, _, _, _, oI13, vI13, eI13⟩, ⟨_, _, _, ceI13⟩, fun s x v => .of_eq (by first | rfl | with_unfolding_all rfl), fun L => ⟨_, by first | rfl | with_unfolding_all rfl⟩⟩ tp
  have S14 : SupX.SupTxt l.prog K mg C14 i14 "UnknownName" "name" := sup_of (PySem.W.mg_of X G aC14) sB14 ⟨_, _, _, _, _, _, _, _, _, _, _, _, _, _, _, xL14, rv14⟩ (PySem.W.mg_none_of X G z_super) opq
    ⟨_, _, _, _, _, _, _, _, _, _, _, _, _, _, _, _, _, _, _, _, _, _, _, lI14, cI14, ⟨_, _, _, _, _, _, oI14, vI14, eI14⟩, ⟨_, _, _, ceI14⟩, fun s x v => .of_eq (by first | rfl | with_unfolding_all rfl), fun L => ⟨_, by first | rfl | with_unfolding_all rfl⟩⟩ tp
  have M : Mks l.prog K mg (fun n => [C0, C1, C2, C3, C4, C5, C6, C7, C8, C9, C10, C11, C12, C13, C14, C15, C16].getD n 0) (fun n => [i0, i1, i2, 0, 0, i5, i6, i7, i8, 0, i10, i11, i12, i13, i14, 0, 0].getD n 0) := ⟨S0, S1, S2, eN3, kN3, eN4, kN4, S5, S6, S7, S8, eN9, kN9, S10, S11, S12, S13, S14, eN15, kN15, eN16, kN16, fun n hn => xfB_ok (List.all_eq_true.mp xb n (List.mem_range.mpr hn))⟩
  have F0 := fun_mk (st := sReader) l0 c0 k0
  have D0 : Df K mg "_law_reader" sReader g0 _ ["script", "k"] := ⟨F0, PySem.W.mg_of X G d0, k0, F0.binds (ps := ["script", "k"]) fun _ _ _ _ _ _ us hl => match us, hl with | [_, _], _ => rfl⟩
  have F1 := fun_mk (st := sNext) l1 c1 k1
  have D1 : Df K mg "_law_next" sNext g1 _ ["reader", "size"] := ⟨F1, PySem.W.mg_of X G d1, k1, F1.binds (ps := ["reader", "size"]) fun _ _ _ _ _ _ us hl => match us, hl with | [_, _], _ => rfl⟩
  have F2 := fun_mk (st := sSame) l2 c2 k2
  have D2 : Df K mg "_law_same" sSame g2 _ ["told", "due"] := ⟨F2, PySem.W.mg_of X G d2, k2, F2.binds (ps := ["told", "due"]) fun _ _ _ _ _ _ us hl => match us, hl with | [_, _], _ => rfl⟩
  have F3 := fun_mk (st := sInputs) l3 c3 k3
  have D3 : Df K mg "_law_inputs" sInputs g3 _ ["e"] := ⟨F3, PySem.W.mg_of X G d3, k3, F3.binds (ps := ["e"]) fun _ _ _ _ _ _ us hl => match us, hl with | [_], _ => rfl⟩
  have F4 := fun_mk (st := sOthers) l4 c4 k4
  have D4 : Df K mg "_law_others" sOthers g4 _ ["e"] := ⟨F4, PySem.W.mg_of X G d4, k4, F4.binds (ps := ["e"]) fun _ _ _ _ _ _ us hl => match us, hl with | [_], _ => rfl⟩
  have F5 := fun_mk (st := sIs) l5 c5 k5
  have D5 : Df K mg "_law_is" sIs g5 _ ["e", "number"] := ⟨F5, PySem.W.mg_of X G d5, k5, F5.binds (ps := ["e", "number"]) fun _ _ _ _ _ _ us hl => match us, hl with | [_, _], _ => rfl⟩
  have F6 := fun_mk (st := sAttr) l6 c6 k6
  have D6 : Df K mg "_law_attributes" sAttr g6 _ ["number", "word"] := ⟨F6, PySem.W.mg_of X G d6, k6, F6.binds (ps := ["number", "word"]) fun _ _ _ _ _ _ us hl => match us, hl with | [_, _], _ => rfl⟩
  have F7 := fun_mk (st := sLaw) l7 c7 k7
  exact ⟨PySem.W.fnOf "law" "law" (defArgs sLaw) (defBody sLaw) (defScope sLaw) .none kV7 dc7 pm7 an7 cd7 ct7, fun s v => .of_eq rfl, fun base _ _ => ok_law F7 T M D0 D1 D5 D6 D3 D4 D2⟩
theorem walk {l : PySem.W.OpenLaw} {q : Program} {loose : List Str} {XP : (Str → Option Value) → Heap → Prop} {YP : World → Heap → Prop} {d : DefRec} {K : Params → PySem.W.Frag} (hn : l.most = some 63) (hdf : d.params.defaults = [])
    (hY : ∀ (w : World) (h : Heap), YP w h → (K w.params).In h)
    (F : ∀ (w : World) (mg : Str → Option Value) (fa : Addr) (h : Heap), (K w.params).In h → h.Ns mainGlobals mg → mg d.name = some (.ref fa) →
      ∃ fd : FuncData, (∀ (s : Shared) (u : Value), BindsTo s fd ⟨[u], []⟩ [("script", u)]) ∧ ∀ base : Heap, (K w.params).In base → base.Ns mainGlobals mg → FnOk l.prog w (K w.params) mg base CX0 3 fa fd ["script"] (spLaw (K w.params))) :
    PySem.W.WalkO q loose XP YP l.row.toRowW d [] (fun f vs => PySem.call f vs) :=
  L2.walk_of (n := 63) (k := 3) (x := "script") (CX := fun _ => CX0) (sp := fun w => spLaw (K w.params)) hn (by decide) hdf ⟨rfl, by decide, by decide⟩ hY F (fun _ _ a ns hl _ hS => ⟨a, ns, rfl, hS, fun _ => rfl⟩) fun _ _ _ _ _ z => z
end E75
open PySem PySem.W PyProof.Rows
set_option maxRecDepth 100000 in
set_option maxHeartbeats 0 in
theorem PySem.Challenge.cw_allmends_k75_errors_by_position_holds : PySem.Challenge.rw_allmends_k75_errors_by_position.Holds := by
  w_on; o_law; k_head; (case hw => w_witness2)
  k_fill
  refine E75.walk (l := PySem.Challenge.rw_allmends_k75_errors_by_position) rfl rfl (fun w h Y => PySem.W.kIn_of Y) ?F
  case F =>
    intro w mg fa h KX G hmg
    refine' E75.all_mk KX G hmg ?aC0 ?aC1 ?aC2 ?aC3 ?aC4 ?aC5 ?aC6 ?aC7 ?aC8 ?aC9 ?aC10 ?aC11 ?aC12 ?aC13 ?aC14 ?aC15 ?aC16 ?aM ?aI ?aB ?aD ?z_len ?z_int ?z_isinstance ?z_str ?z_bool ?z_range ?z_all ?z_ValueError ?z_super ?d0 ?l0 ?c0 ?k0 ?d1 ?l1 ?c1 ?k1 ?d2 ?l2 ?c2 ?k2 ?d3 ?l3 ?c3 ?k3 ?d4 ?l4 ?c4 ?k4 ?d5 ?l5 ?c5 ?k5 ?d6 ?l6 ?c6 ?k6 ?d7 ?l7 ?c7 ?k7 ?tb ?xb ?opq ?tp ?xL0 ?rv0 ?fI0 ?lI0 ?cI0 ?oI0 ?vI0 ?eI0 ?ceI0 ?sB0 ?xL1 ?rv1 ?fI1 ?lI1 ?cI1 ?oI1 ?vI1 ?eI1 ?ceI1 ?sB1 ?xL2 ?rv2 ?fI2 ?lI2 ?cI2 ?oI2 ?vI2 ?eI2 ?ceI2 ?sB2 ?eN3 ?kN3 ?eN4 ?kN4 ?xL5 ?rv5 ?fI5 ?lI5 ?cI5 ?oI5 ?vI5 ?eI5 ?ceI5 ?sB5 ?xL6 ?rv6 ?fI6 ?lI6 ?cI6 ?oI6 ?vI6 ?eI6 ?ceI6 ?sB6 ?xL7 ?rv7 ?fI7 ?lI7 ?cI7 ?oI7 ?vI7 ?eI7 ?ceI7 ?sB7 ?xL8 ?rv8 ?fI8 ?lI8 ?cI8 ?oI8 ?vI8 ?eI8 ?ceI8 ?sB8 ?eN9 ?kN9 ?xL10 ?rv10 ?fI10 ?lI10 ?cI10 ?oI10 ?vI10 ?eI10 ?ceI10 ?sB10 ?xL11 ?rv11 ?fI11 ?lI11 ?cI11 ?oI11 ?vI11 ?eI11 ?ceI11 ?sB11 ?xL12 ?rv12 ?fI12 ?lI12 ?cI12 ?oI12 ?vI12 ?eI12 ?ceI12 ?sB12 ?xL13 ?rv13 ?fI13 ?lI13 ?cI13 ?oI13 ?vI13 ?eI13 ?ceI13 ?sB13 ?xL14 ?rv14 ?fI14 ?lI14 ?cI14 ?oI14 ?vI14 ?eI14 ?ceI14 ?sB14 ?eN15 ?kN15 ?eN16 ?kN16
    (case aC0 => k_is)
    (case aC1 => k_is)
    (case aC2 => k_is)
    (case aC3 => k_is)
    (case aC4 => k_is)
    (case aC5 => k_is)
    (case aC6 => k_is)
    (case aC7 => k_is)
    (case aC8 => k_is)
    (case aC9 => k_is)
    (case aC10 => k_is)
    (case aC11 => k_is)
    (case aC12 => k_is)
    (case aC13 => k_is)
    (case aC14 => k_is)
    (case aC15 => k_is)
    (case aC16 => k_is)
    (case aM => k_is)
    (case aI => k_is)
    (case aB => k_is)
    (case aD => k_is)
    (case z_len => k_is)
    (case z_int => k_is)
    (case z_isinstance => k_is)
    (case z_str => k_is)
    (case z_bool => k_is)
    (case z_range => k_is)
    (case z_all => k_is)
    (case z_ValueError => k_is)
    (case z_super => k_is)
    (case d0 => k_is)
    (case l0 => k_is)
    (case c0 => k_is)
    (case k0 => k_is)
    (case d1 => k_is)
    (case l1 => k_is)
    (case c1 => k_is)
    (case k1 => k_is)
    (case d2 => k_is)
    (case l2 => k_is)
    (case c2 => k_is)
    (case k2 => k_is)
    (case d3 => k_is)
    (case l3 => k_is)
    (case c3 => k_is)
    (case k3 => k_is)
    (case d4 => k_is)
    (case l4 => k_is)
    (case c4 => k_is)
    (case k4 => k_is)
    (case d5 => k_is)
    (case l5 => k_is)
    (case c5 => k_is)
    (case k5 => k_is)
    (case d6 => k_is)
    (case l6 => k_is)
    (case c6 => k_is)
    (case k6 => k_is)
    (case d7 => k_is)
    (case l7 => k_is)
    (case c7 => k_is)
    (case k7 => k_is)
    (case tb => kernel_rfl)
    (case xb => kernel_rfl)
    (case opq => k_is)
    (case tp => (first | rfl | decide +kernel))
    (case xL0 => k_is)
    (case rv0 => (first | rfl | decide +kernel))
    (case fI0 => k_is)
    (case lI0 => k_is)
    (case cI0 => k_is)
    (case oI0 => k_is)
    (case vI0 => rfl)
    (case eI0 => (first | rfl | decide +kernel))
    (case ceI0 => k_is)
    (case sB0 => kernel_rfl)
    (case xL1 => k_is)
    (case rv1 => (first | rfl | decide +kernel))
    (case fI1 => k_is)
    (case lI1 => k_is)
    (case cI1 => k_is)
    (case oI1 => k_is)
    (case vI1 => rfl)
    (case eI1 => (first | rfl | decide +kernel))
    (case ceI1 => k_is)
    (case sB1 => kernel_rfl)
    (case xL2 => k_is)
    (case rv2 => (first | rfl | decide +kernel))
    (case fI2 => k_is)
    (case lI2 => k_is)
    (case cI2 => k_is)
    (case oI2 => k_is)
    (case vI2 => rfl)
    (case eI2 => (first | rfl | decide +kernel))
    (case ceI2 => k_is)
    (case sB2 => kernel_rfl)
    (case eN3 => kernel_rfl)
    (case kN3 => k_is)
    (case eN4 => kernel_rfl)
    (case kN4 => k_is)
    (case xL5 => k_is)
    (case rv5 => (first | rfl | decide +kernel))
    (case fI5 => k_is)
    (case lI5 => k_is)
    (case cI5 => k_is)
    (case oI5 => k_is)
    (case vI5 => rfl)
    (case eI5 => (first | rfl | decide +kernel))
    (case ceI5 => k_is)
    (case sB5 => kernel_rfl)
    (case xL6 => k_is)
    (case rv6 => (first | rfl | decide +kernel))
    (case fI6 => k_is)
    (case lI6 => k_is)
    (case cI6 => k_is)
    (case oI6 => k_is)
    (case vI6 => rfl)
    (case eI6 => (first | rfl | decide +kernel))
    (case ceI6 => k_is)
    (case sB6 => kernel_rfl)
    (case xL7 => k_is)
    (case rv7 => (first | rfl | decide +kernel))
    (case fI7 => k_is)
    (case lI7 => k_is)
    (case cI7 => k_is)
    (case oI7 => k_is)
    (case vI7 => rfl)
    (case eI7 => (first | rfl | decide +kernel))
    (case ceI7 => k_is)
    (case sB7 => kernel_rfl)
    (case xL8 => k_is)
    (case rv8 => (first | rfl | decide +kernel))
    (case fI8 => k_is)
    (case lI8 => k_is)
    (case cI8 => k_is)
    (case oI8 => k_is)
    (case vI8 => rfl)
    (case eI8 => (first | rfl | decide +kernel))
    (case ceI8 => k_is)
    (case sB8 => kernel_rfl)
    (case eN9 => kernel_rfl)
    (case kN9 => k_is)
    (case xL10 => k_is)
    (case rv10 => (first | rfl | decide +kernel))
    (case fI10 => k_is)
    (case lI10 => k_is)
    (case cI10 => k_is)
    (case oI10 => k_is)
    (case vI10 => rfl)
    (case eI10 => (first | rfl | decide +kernel))
    (case ceI10 => k_is)
    (case sB10 => kernel_rfl)
    (case xL11 => k_is)
    (case rv11 => (first | rfl | decide +kernel))
    (case fI11 => k_is)
    (case lI11 => k_is)
    (case cI11 => k_is)
    (case oI11 => k_is)
    (case vI11 => rfl)
    (case eI11 => (first | rfl | decide +kernel))
    (case ceI11 => k_is)
    (case sB11 => kernel_rfl)
    (case xL12 => k_is)
    (case rv12 => (first | rfl | decide +kernel))
    (case fI12 => k_is)
    (case lI12 => k_is)
    (case cI12 => k_is)
    (case oI12 => k_is)
    (case vI12 => rfl)
    (case eI12 => (first | rfl | decide +kernel))
    (case ceI12 => k_is)
    (case sB12 => kernel_rfl)
    (case xL13 => k_is)
    (case rv13 => (first | rfl | decide +kernel))
    (case fI13 => k_is)
    (case lI13 => k_is)
    (case cI13 => k_is)
    (case oI13 => k_is)
    (case vI13 => rfl)
    (case eI13 => (first | rfl | decide +kernel))
    (case ceI13 => k_is)
    (case sB13 => kernel_rfl)
    (case xL14 => k_is)
    (case rv14 => (first | rfl | decide +kernel))
    (case fI14 => k_is)
    (case lI14 => k_is)
    (case cI14 => k_is)
    (case oI14 => k_is)
    (case vI14 => rfl)
    (case eI14 => (first | rfl | decide +kernel))
    (case ceI14 => k_is)
    (case sB14 => kernel_rfl)
    (case eN15 => kernel_rfl)
    (case kN15 => k_is)
    (case eN16 => kernel_rfl)
    (case kN16 => k_is)
