import PyProof.Rows.All
import Wide.All
import OpenK.AllK
import Wide.FinOn
import PyProof.EqAt
import PyProof.EqKinds
import PyProof.TupleCall
import KE.KExcSuper
import HandS.ForMost
import HandS.Exc
import HandS.ExcOwn
import HandS.ExcSuper
import HandS.ExcField
import HandS.ExcIs
import HandS.TryOnly
import HandS.WordsExc
import HandS.Defaults
import HandS.IsInst
import HandS.Style
import HandS.Deep
import HandS.Sort
import HandS.SortRule
import HandS.Wide
import HandS.IterNext
import HandS.IterVal
import KE.KStateDown
import HandS.Head0
import HandS.Head1
import HandS.Head2
import HandS.HeadEnd
import HandS.HeadHook1
import HandS.HeadHook2
import KE.KExcIs
import PySem.Challenge.RW_floorwords_k39_great_rule
import KE.KOwnIter
import KE.BitLaws
set_option Elab.async false
set_option linter.all false
set_option maxRecDepth 100000
set_option maxHeartbeats 2000000
/-! An own error class whose __init__ says super().__init__('..') and stores one field. -/
namespace PySem
namespace FwE
open PySem.W PySem.Calls PyProof.Rows PySem.HandSPX
/-! ### the text of __init__ -/
def eA (f : Str) (p1 p2 : Pos) : Arguments := { posonlyargs := [], args := [{ arg := "self", annotation := none, pos := p1 }, { arg := f, annotation := none, pos := p2 }], vararg := none, kwonlyargs := [], kw_defaults := [], kwarg := none, defaults := [] }
def eB (f txt : Str) (k : Nat) (p0 p1 p2 p3 p4 p5 q1 q2 q3 q4 : Pos) : List Stmt :=
  [.Expr (.Call (.Attribute (.Call (.Name "super" p0) [] [] p1) "__init__" p2) [.Constant (.str txt) k p3] [] p4) p5,
   .Assign [.Attribute (.Name "self" q1) f q2] (.Name f q3) q4]
def eS (f : Str) : Scope := { kind := .function, names := [(PySem.Str.ofString "self", .local), (f, .local), (PySem.Str.ofString "__class__", .free), (PySem.Str.ofString "super", .globalImplicit)], isGenerator := false, isCoroutine := false, more := [] }
/-- what hangs on the places in the text and on the field's name -/
structure ErrSyn (f txt : Str) (k : Nat) (p1 p2 r0 r1 r2 r3 r4 r5 q1 q2 q3 q4 : Pos) : Prop where
  bind : ∀ (q : Str) (doc pm : Value) (an : Option Addr) (cdv ct : Value) (cc : Addr) (u v : Value), bindArgs (ksFn "__init__" q (eA f p1 p2) (eB f txt k r0 r1 r2 r3 r4 r5 q1 q2 q3 q4) (eS f) .none .none doc pm an cdv ct cc) ⟨[u, v], []⟩ = pure [(("self" : Str), u), (f, v)]
  call : ∀ (q : Str) (doc pm : Value) (an : Option Addr) (cdv ct : Value) (cc L fI : Addr), ∃ pl, eval (.Call (.Attribute (.Call (.Name "super" r0) [] [] r1) "__init__" r2) [.Constant (.str txt) k r3] [] r4)
      (callEnv (ksFn "__init__" q (eA f p1 p2) (eB f txt k r0 r1 r2 r3 r4 r5 q1 q2 q3 q4) (eS f) .none .none doc pm an cdv ct cc) L fI) = (do
      let ov ← attributeBase (.Call (.Name "super" r0) [] [] r1) "__init__" (callEnv (ksFn "__init__" q (eA f p1 p2) (eB f txt k r0 r1 r2 r3 r4 r5 q1 q2 q3 q4) (eS f) .none .none doc pm an cdv ct cc) L fI)
        (eval (.Call (.Name "super" r0) [] [] r1) (callEnv (ksFn "__init__" q (eA f p1 p2) (eB f txt k r0 r1 r2 r3 r4 r5 q1 q2 q3 q4) (eS f) .none .none doc pm an cdv ct cc) L fI))
      standAt r2.atName
      let (f', first) ← holding [ov] (getMethod ov "__init__" pl)
      callWith r4 f' first (backTo r4 (starEach [.Constant (.str txt) k r3] (callEnv (ksFn "__init__" q (eA f p1 p2) (eB f txt k r0 r1 r2 r3 r4 r5 q1 q2 q3 q4) (eS f) .none .none doc pm an cdv ct cc) L fI))) [])
  swap : ∀ (q : Str) (doc pm : Value) (an : Option Addr) (cdv ct : Value) (cc L fI : Addr), swapsWith (.Call (.Attribute (.Call (.Name "super" r0) [] [] r1) "__init__" r2) [.Constant (.str txt) k r3] [] r4) none r5.line
      (callEnv (ksFn "__init__" q (eA f p1 p2) (eB f txt k r0 r1 r2 r3 r4 r5 q1 q2 q3 q4) (eS f) .none .none doc pm an cdv ct cc) L fI) = pure false
  swap2 : ∀ (q : Str) (doc pm : Value) (an : Option Addr) (cdv ct : Value) (cc L fI : Addr), swapsWith (.Name f q3) (some (.Attribute (.Name "self" q1) f q2)) q4.line
      (callEnv (ksFn "__init__" q (eA f p1 p2) (eB f txt k r0 r1 r2 r3 r4 r5 q1 q2 q3 q4) (eS f) .none .none doc pm an cdv ct cc) L fI) = pure false
/-- what the written part says of the class x, at C, of its __init__ at fI, of the cell cc of __class__, the code at cda -/
structure ErrTxt (P : Program) (K : Frag) (mg : Str → Option Value) (x f : Str) (C fI cc cda : Addr) : Prop where
  gC : mg x = some (.ref C)
  gS : mg "super" = none
  cls : ∃ nm q N bs bm sn sub ab col dd k0 k1 k2 k3 k5, K.lookup C = some (excClassObj nm q C N bs bm true sn sub ab col dd k0 k1 k2 k3 k5 "ValueError.__new__") ∧ refsVE bm = true ∧
    alongIn K "__init__" bm = some (some (.builtin "ValueError.__init__"))
  sa : findIn K (.ref C) "__setattr__" = some (some (.builtin "object.__setattr__"))
  noF : findIn K (.ref C) f = some none
  iC : findIn K (.ref C) "__init__" = some (some (.ref fI))
  tC : typeIn K (.ref fI) = some (.type "function")
  kC : keepIn K (.ref C) = true
  exC : subIn K (.ref C) (.type "BaseException") = some true
  veC : subIn K (.ref C) (.type "ValueError") = some true
  slC : mroIn K C (.ref C) = some true
  tyC : typeIn K (.ref C) = some (.type "type")
  opq : nsIn K cStatics "thirdparty.any" = some none
  top : (P.main.scope.names.lookup ("super" : Str)).isSome = false
  nfs : ¬ f = "self"
  kS : (eS f).names.lookup ("super" : Str) = some .globalImplicit
  kK : (eS f).names.lookup ("__class__" : Str) = some .free
  kI : (eS f).names.lookup ("self" : Str) = some .local
  kF : (eS f).names.lookup f = some .local
  dbg : (f == ("__debug__" : Str)) = false
  fn : ∃ (oc : Value) (od : Option Addr) (doc pm : Value) (an : Option Addr) (ct : Value) (osl : Array (Option Value)) (q txt : Str) (k : Nat) (p1 p2 r0 r1 r2 r3 r4 r5 q1 q2 q3 q4 : Pos),
    K.lookup fI = some ⟨oc, od, .func (ksFn "__init__" q (eA f p1 p2) (eB f txt k r0 r1 r2 r3 r4 r5 q1 q2 q3 q4) (eS f) .none .none doc pm an (.ref cda) ct cc), osl⟩ ∧ codeIn K (.ref cda) q = true ∧ ErrSyn f txt k p1 p2 r0 r1 r2 r3 r4 r5 q1 q2 q3 q4
  code : ∃ (ccl : Value) (cdd : Option Addr) (ccs : Array (Option Value)) (vs : Array Value) (file : Str) (tf : Tok), K.lookup cda = some ⟨ccl, cdd, .fields vs, ccs⟩ ∧ vs[2]? = some (.str file tf) ∧ ((P.main.file : Str) == file) = true
  cell : ∃ (cl : Value) (cld : Option Addr) (csl : Array (Option Value)), K.lookup cc = some ⟨cl, cld, .cell (some (.ref C)), csl⟩
structure InitEnd (h h' : Heap) (x C dx t1 : Addr) (f : Str) (v : Value) : Prop where
  keep : ∀ b o, b ≠ x → h.get? b = some o → h'.get? b = some o
  obj : h'.get? x = some { cls := .ref C, dict := some dx, data := .fields #[.ref t1, .none, .none, .none, .bool false, .none] }
  dbig : h.objs.size ≤ dx
  dne : dx ≠ x
  ns : h'.Ns1 dx (fun y => if y = f then some v else none)
structure OwnMade (h h' : Heap) (e C d : Addr) (f : Str) (v : Value) : Prop where
  keep : ∀ b o, h.get? b = some o → h'.get? b = some o
  new : h.objs.size ≤ e
  obj : ∃ oe vs, h'.get? e = some oe ∧ oe.cls = .ref C ∧ oe.dict = some d ∧ oe.data = .fields vs ∧ vs[1]? = some .none
  dbig : h.objs.size ≤ d
  dne : d ≠ e
  ns : h'.Ns1 d (fun y => if y = f then some v else none)
theorem one_size (v : Value) : [v].length ≤ sizeLine := by
  rw [sizeLine_eq]
  exact (by decide : 1 ≤ 16777216)
section
variable {prog : Program} {w : World} {A : Around} {E : Value → Shared → Prop} {h : Heap} {g : Array GenState} {d : Drawn} {t : Nat} {os : OsState}
variable {nm q : Str} {C N : Addr} {bs bm : List Value} {hdct : Bool} {sn : List Str} {sub : List Value} {ab : Bool} {col : Option Bool} {dd : Option Addr} {k0 k1 k2 k3 k5 : Option Value}
/-- the bound built-in __init__, called -/
theorem call_mw {u e t0 : Addr} {rest : List Value} {Q : Value → Shared → Prop}
    (hC : h.get? C = some (excClassObj nm q C N bs bm hdct sn sub ab col dd k0 k1 k2 k3 k5 "ValueError.__new__")) (he : h.get? e = some (excO C t0)) (hu : h.get? u = some (kxs_mw "ValueError.__init__" e)) (hrest : rest.length ≤ sizeLine)
    (hq : ∀ h' t1, (∀ b o, b ≠ e → h.get? b = some o → h'.get? b = some o) → h'.get? e = some (excO C t1) → Q .none ⟨h', g, d, t, os⟩) :
    wpAny (model prog w) A (call (.ref u) rest) Q E ⟨h, g, d, t, os⟩ := by
  refine wpAny_call (codeAny_of_tree ?_)
  show wpAny _ A.in1 (callAny (.ref u) ⟨rest, []⟩) _ _ _
  simp only [callAny]
  refine wpAny_bind (wpAny_load hu ?_)
  simp only [kxs_mw, show (Value.type "method-wrapper" == Value.type "method" || Value.type "method-wrapper" == Value.type "builtin_function_or_method" || Value.type "method-wrapper" == Value.type "method-wrapper") = true by decide, if_true]
  refine KFB.if_so (by decide) ?_
  refine wpAny_bind (ESX.check_bound F.excBase_ValueError hC he rfl ?_)
  refine wpAny_bind (wpAny_pure (wpAny_pure ?_))
  refine ⟨Code.quiet_builtin _ (by decide +kernel), codeAny_builtin F.excBase_ValueError.initEntry ?_⟩
  rw [Around.under_plainId F.excBase_ValueError.init.plain _]
  wp_walk
  refine hq _ h.objs.size (fun b o hb ho => ?_) ?_
  · rw [Heap.get?_update_other _ _ (Ne.symm hb)]
    exact Heap.get?_push_of_some _ ho
  · rw [Heap.get?_update_self _ (Heap.get?_push_of_some _ he) rfl]
    rfl
end
section
variable {prog : Program} {w : World} {A : Around} {E : Value → Shared → Prop} {R : Result → Shared → Prop} {s : Shared} {K : Frag} {mg mb : Str → Option Value} {x f : Str} {C fI cc cda : Addr}
theorem err_init (T : ErrTxt prog K mg x f C fI cc cda) {a t0 : Addr} {v : Value} (X : K.In s.heap) (hlim : s.heap.NoLimit) (hg : s.heap.Ns mainGlobals mg) (hb : s.heap.Ns builtinsNs mb) (hbs : mb "super" = some (.type "super"))
    (ha : s.heap.get? a = some (excO C t0)) (hnx : K.lookup a = none) (hroom : A.depth < recursionLimit)
    (hq : ∀ h' tk dx t1, InitEnd s.heap h' a C dx t1 f v → R (.ok (.ret .none)) { s with heap := h', toks := tk }) :
    codeAny (model prog w) A (.call (.ref fI) ⟨[.ref a, v], []⟩) R s := by
  obtain ⟨oc, od, doc, pm, an, ct, osl, q, txt, k, p1, p2, r0, r1, r2, r3, r4, r5, q1, q2, q3, q4, ho, hcd, Y⟩ := T.fn
  obtain ⟨nm, qn, N, bs, bm, sn, sub, ab, col, dd, k0, k1, k2, k3, k5, hC, hbm, hal⟩ := T.cls
  obtain ⟨ccl, cdd, ccs, vs, file, tf, hcode, hvs, hfile⟩ := T.code
  obtain ⟨cl, cld, csl, hcell⟩ := T.cell
  have hcl : clsIn K C = some { name := nm, bases := bs, mro := .ref C :: bm, ns := N, qualname := qn, hasDict := true, slotNames := sn, subclasses := sub, abstract := ab, collection := col, hasDel := false } := by unfold clsIn; rw [hC] <;> rfl
  have hlf : List.lookup ("self" : Str) [(f, v), (("self" : Str), Value.ref a)] = some (.ref a) := by
    have e : (("self" : Str) == f) = false := by simpa using (Ne.symm T.nfs)
    simp [List.lookup, e]
  have hlv : List.lookup f [(f, v), (("self" : Str), Value.ref a)] = some v := by simp [List.lookup]
  refine ks_codeAny_call_defAt (fd := ksFn "__init__" q (eA f p1 p2) (eB f txt k r0 r1 r2 r3 r4 r5 q1 q2 q3 q4) (eS f) .none .none doc pm an (.ref cda) ct cc) (body := eB f txt k r0 r1 r2 r3 r4 r5 q1 q2 q3 q4)
    (binds := [("self", .ref a), (f, v)]) hroom (X _ _ ho) rfl hlim (codeRec_of X hcd) rfl (BindsTo.of_eq (Y.bind _ _ _ _ _ _ _ _ _)) ?_ ?_ (fun h₁ hns hk₁ => ?_) rfl rfl rfl
  · intro y hy
    have hy' : y ∈ [(PySem.Str.ofString "self", NameKind.local), (f, .local), (PySem.Str.ofString "__class__", .free), (PySem.Str.ofString "super", .globalImplicit)] := hy
    simp at hy'
    rcases hy' with rfl | rfl | rfl | rfl <;> (intro z; cases z)
  · intro y hy
    simp at hy
    rcases hy with rfl | rfl
    · exact T.kI
    · exact T.kF
  have X₁ : K.In h₁ := X.keeps hk₁
  obtain ⟨hp, gg, dd0, tk0, os0⟩ := s
  dsimp only at X hlim hg hb ha hq hk₁ hns ⊢
  have ha₁ := hk₁ _ _ ha
  have hC₁ := X₁ _ _ hC
  have haC : a ≠ C := fun e => by
    have z := X _ _ hC
    rw [← e, ha] at z
    cases z
  have hL : hp.objs.size < h₁.objs.size := hns.lt
  obtain ⟨pl, hcall⟩ := Y.call q doc pm an (.ref cda) ct cc hp.objs.size fI
  refine ks_wpAt_execs_cons (ks_wpAt_Expr_any (ks_wpAt_MethodCall (pl := pl) ?_ hcall) rfl (Y.swap _ _ _ _ _ _ _ _ _))
  refine ks_wpAt_super_base T.kS T.kK rfl rfl (X₁ _ _ ho) rfl rfl rfl (X₁ _ _ hcode) rfl hvs hfile T.top ?_
  refine ks_loadName_global rfl T.kS (loadGlobal_builtin (hg.keeps hk₁) T.gS (hb.keeps hk₁) hbs ⟨rfl, ?_⟩)
  refine wpAny_loadName_free rfl T.kK rfl ⟨_, X₁ _ _ hcell, rfl⟩ ?_
  refine wpAny_loadName_local rfl T.kI hns hlf ?_
  refine ks_wpAny_isType_cls hC₁ rfl ⟨rfl, ?_⟩
  refine ks_wpAny_call_super hC₁ rfl ha₁ rfl (fun c e => by cases e) (looks_mroIn X₁ T.slC) (fun h₂ e₂ k₂ => ?_)
  have X₂ : K.In h₂ := X₁.keeps k₂
  have ha₂ := k₂ _ _ ha₁
  have I₂ : InstAt h₂ a (excO C t0) C none := ⟨ha₂, rfl, rfl, trivial⟩
  refine kxs_getMethod (i := "ValueError.__init__") kxs_ValueError e₂ (looks_opaque X₂ T.opq) (l₀ := .ref C :: bm) (l := bm) ?_ (ESX.drop_own C bm) X₂ hal (I₂.type.andThen (looks_subIn X₂ T.veC)) haC (by decide) ?_
  · exact fun A Q E s k q => wpAny_bind ((looks_clsIn X₂ hcl) A _ E s k (wpAny_pure q))
  have eS3 : (h₂.push (kxs_mw "ValueError.__init__" a)).get? h₂.objs.size = some (kxs_mw "ValueError.__init__" a) := Heap.get?_push_at rfl rfl
  have k₃ : ∀ b o, h₂.get? b = some o → (h₂.push (kxs_mw "ValueError.__init__" a)).get? b = some o := fun b o e => Heap.get?_push_of_some _ e
  dsimp only
  refine kxs_callWith (i := "ValueError.__init__") (x := a) rfl (evalArgs_plain ?_)
  refine spliced_cons (Constant_str (k := k) (pos := r3) (spliced_nil ⟨eS3, ?_⟩))
  show wpAny _ _ (call (.ref h₂.objs.size) [.str txt _]) _ _ _
  refine call_mw (k₃ _ _ (k₂ _ _ hC₁)) (k₃ _ _ ha₂) eS3 (one_size _) (fun h₄ t1 k₄ e₄ => ?_)
  have kk : ∀ b o, b ≠ a → hp.get? b = some o → h₄.get? b = some o := fun b o hb e => k₄ b o hb (k₃ b o (k₂ b o (hk₁ b o e)))
  have X₄ : K.In h₄ := fun b o e => k₄ b o (fun z => by rw [z, hnx] at e; cases e) (k₃ b o (X₂ b o e))
  have hns₄ : h₄.Ns hp.objs.size (fun y => List.lookup y [(f, v), (("self" : Str), Value.ref a)]) := by
    obtain ⟨oL, es, ep, hoL, r⟩ := hns
    exact ⟨oL, es, ep, k₄ _ _ (Nat.ne_of_gt (Heap.lt_size ha)) (k₃ _ _ (k₂ _ _ hoL)), r⟩
  -- self.f = f
  refine wpAt_of_wpAny ?_
  refine wpAny_execs_cons (plainObj_wpAny_Assign_Attribute ?_ (Y.swap2 _ _ _ _ _ _ _ _ _))
  refine wpAny_Name (wpAny_loadName_local rfl T.kF hns₄ hlv ?_) T.dbg
  refine wpAny_Name (wpAny_loadName_local rfl T.kI hns₄ hlf ?_) (by decide)
  refine set_plain X₄ (ox := excO C t1) (od := none) ⟨e₄, rfl, rfl, trivial⟩ T.sa ?_
  refine exc_osa X₄ e₄ hcl (show refsVE (.ref C :: bm) = true from hbm) rfl T.noF (fun h₅ tk₅ dx k₅ dn dne hx₅ hn₅ => ?_)
  show wpAny _ _ (execs _ _) _ _ _
  have le4 : hp.objs.size ≤ h₄.objs.size := by
    rcases Nat.lt_or_ge h₄.objs.size hp.objs.size with z | z
    · exact absurd (Nat.lt_trans (hns₄.lt) z) (Nat.lt_irrefl _)
    · exact z
  exact wpAny_execs_nil (hq h₅ tk₅ dx t1 ⟨fun b o hb e => k₅ b o hb (kk b o hb e), hx₅, Nat.le_trans le4 dn, dne, hn₅⟩)
theorem err_made (T : ErrTxt prog K mg x f C fI cc cda) {v : Value} (X : K.In s.heap) (hlim : s.heap.NoLimit) (hg : s.heap.Ns mainGlobals mg) (hb : s.heap.Ns builtinsNs mb) (hbs : mb "super" = some (.type "super")) (hroom : A.depth + 1 < recursionLimit)
    (hq : ∀ h' tk e d, OwnMade s.heap h' e C d f v → R (.ok (.ret (.ref e))) { s with heap := h', toks := tk }) :
    codeAny (model prog w) A (.call (.ref C) ⟨[v], []⟩) R s := by
  obtain ⟨nm, q, N, bs, bm, sn, sub, ab, col, dd, k0, k1, k2, k3, k5, hC, hbm, hal⟩ := T.cls
  obtain ⟨hp, g, d, tk, os⟩ := s
  have k : ∀ b o, hp.get? b = some o → ((hp.push (kdv_tup [v])).push (excO C hp.objs.size)).get? b = some o := fun b o e => Heap.get?_push_of_some _ (Heap.get?_push_of_some _ e)
  have hget : ((hp.push (kdv_tup [v])).push (excO C hp.objs.size)).get? (hp.objs.size + 1) = some (excO C hp.objs.size) := by heap_get
  have hnx : K.lookup (hp.objs.size + 1) = none := by
    cases e : K.lookup (hp.objs.size + 1) with
    | none => rfl
    | some o =>
      have z : hp.get? (hp.objs.size + 1) = some o := X _ _ e
      exact absurd (Nat.lt_of_succ_lt (Heap.lt_size z)) (Nat.lt_irrefl _)
  refine call_own F.excBase_ValueError (fun X => refsVE_contains X bm hbm) (X _ _ hC) (looks_findIn X T.iC) (fun self => bind_fn X self T.tC) (one_size v) ?_
  refine err_init (s := ⟨(hp.push (kdv_tup [v])).push (excO C hp.objs.size), g, d, tk, os⟩) T (X.keeps k) (hlim.keeps k) (hg.keeps k) (hb.keeps k) hbs hget hnx ?_ fun h' tk' dx t1 ⟨k', hx, dn, dne, hns⟩ => ?_
  · show A.depth + 1 < recursionLimit
    exact hroom
  · have old : ∀ b o, hp.get? b = some o → h'.get? b = some o := fun b o e => k' b o (Nat.ne_of_lt (Nat.lt_succ_of_lt (Heap.lt_size e))) (k b o e)
    have z : hp.objs.size + 1 + 1 ≤ dx := by
      first
        | (simpa only [Heap.size_push] using dn)
        | exact dn
        | (have q := dn; rw [Heap.size_push, Heap.size_push] at q; exact q)
    exact ⟨rfl, hq h' tk' (hp.objs.size + 1) dx ⟨old, Nat.le_succ _, ⟨_, _, hx, rfl, rfl, rfl, rfl⟩, Nat.le_trans (Nat.le_trans (Nat.le_succ _) (Nat.le_succ _)) z, dne, hns⟩⟩
end
end FwE
end PySem
namespace L2
open PySem PySem.Spec PyProof.Rows
theorem relO_err {v : V} {v' : Value} (r : RelV v v') (f g : Str) : RelO (List.lookup g [(f, v)]) (if g = f then some v' else none) := by
  by_cases hw : g = f
  · subst hw
    rw [if_pos rfl]
    have q : List.lookup g [(g, v)] = some v := by simp [List.lookup]
    rw [q]
    exact r
  · rw [if_neg hw]
    have qw : (g == f) = false := by simpa using hw
    have q2 : List.lookup g [(f, v)] = none := by simp [List.lookup, qw]
    rw [q2]
    trivial
section
variable {X : Cx} {x f : Str} {C fI cc cda : Addr}
/-- C(e) -/
def tMkErr (C : Addr) (f : Str) (ta : TA) : St → Hp → XK → Prop := fun σ H Q => ta σ H fun vs H1 => ∃ v, vs = [v] ∧ ∀ d, H1 d = none → Q (.ref C) (some d) (upd H1 d (.xd [(f, v)]))
theorem pmk_err {a : Expr} {ta : TA} {p pos : Pos} {k : Nat} (T : PySem.FwE.ErrTxt X.prog X.K X.mg x f C fI cc cda) (hr : Room k X.A) (ha : PA X [a] ta) (hg : Gl X x := by rfl) (hdb : (x == ("__debug__" : Str)) = false := by decide)
    (he : starEach (a :: []) X.env = (false, eval a X.env) :: starEach [] X.env := by rfl) (hpl : (backTo pos (starEach [] X.env)).any (·.1) = false := by rfl) :
    PMk X (.Call (.Name x p) [a] [] pos) (tMkErr C f ta) := by
  intro pins s σ H Q I h
  refine wpAny_Call_Name_kw (ld_glob I hg T.gC ?_ hdb)
  refine PySem.W.callWith_K (h₀ := X.base) I.ok.mod.kin T.kC (thn (ha.run pos pins s σ H _ I h) fun us s1 hh => ?_) he hpl
  obtain ⟨vs, H1, I1, r1, v, ev, q1⟩ := hh
  subst ev
  refine ⟨I1.kIn, ?_⟩
  cases r1 with
  | cons rv rn =>
    rename_i v' us'
    cases rn
    show wpAny _ _ (call (.ref C) [v']) _ _ _
    have hlim := I1.nolimit
    obtain ⟨mb, hb1, hb2⟩ := I1.mod.blt
    have hg1 := I1.mod.glob.keeps I1.bk
    have hb3 := hb1.keeps I1.bk
    have hbs : mb ("super" : Str) = some (.type "super") := (hb2 _ (by decide)).trans (by first | rfl | kernel_rfl | decide +kernel)
    obtain ⟨hp, g, dr, tk, os⟩ := s1
    refine wpAny_call (PySem.FwE.err_made T I1.kIn hlim hg1 hb3 hbs (by have := hr.dp; omega) fun h' tk' e d M => ?_)
    show MkP X pins σ Q (.ref e) ⟨h', g, dr, tk', os⟩
    obtain ⟨oe, fv, hoe, hc, hd, hdat, h1⟩ := M.obj
    have hns := M.ns
    obtain ⟨G', g1, g2⟩ := restrict h' fun b => decide (b ≠ e)
    have gk : ∀ b, b ≠ e → G'.get? b = h'.get? b := fun b hb => g1 b (decide_eq_true hb)
    have ge : G'.get? e = none := g2 e (by simp)
    have old : ∀ b o, hp.get? b = some o → G'.get? b = some o := fun b o q => (gk b (Nat.ne_of_lt (Nat.lt_of_lt_of_le (Heap.lt_size q) M.new))).trans (M.keep b o q)
    have ob : ObjOk X.prog X.w (upd H1 d (.xd [(f, v)])) G' d (.xd [(f, v)]) :=
      ⟨_, hns.at (fun o q => (gk d M.dne).trans q), fun g => relO_err rv f g⟩
    have J : Inv X pins σ (upd H1 d (.xd [(f, v)])) ⟨G', g, dr, tk', os⟩ := I1.laid (t' := tk') old M.dbig ob
    refine ⟨e, oe, fv, ⟨G', g, dr, tk', os⟩, _, .ref C, some d, rfl, J, fun b o q => ?_, ge, hoe, ⟨hc, hd⟩, hdat, h1, ?_, rfl, I1.bare, raises_own T.exC T.tyC, q1 d (I1.hok.fresh M.dbig)⟩
    · by_cases hb : b = e
      · have q' : G'.get? b = some o := q
        rw [hb, ge] at q'; cases q'
      · exact (gk b hb).symm.trans q
    · rw [upd_ne (Ne.symm M.dne)]
      exact I1.hok.fresh M.new
/-- raise C(e) -/
def tRaiseErr (C : Addr) (f : Str) (W : WX) (ta : TA) : TS := fun _ σ H => tMkErr C f ta σ H fun cls d H' => W cls d σ H'
theorem ps_raiseErr {a : Expr} {ta : TA} {W : WX} {p pos pos2 : Pos} {k : Nat} (hc : X.calm = true) (T : PySem.FwE.ErrTxt X.prog X.K X.mg x f C fI cc cda) (hr : Room k X.A) (tk : Takes X W) (ha : PA X [a] ta) (hg : Gl X x := by rfl) (hdb : (x == ("__debug__" : Str)) = false := by decide)
    (he : starEach (a :: []) X.env = (false, eval a X.env) :: starEach [] X.env := by rfl) (hpl : (backTo pos (starEach [] X.env)).any (·.1) = false := by rfl) :
    PS X (.Raise (some (.Call (.Name x p) [a] [] pos)) none pos2) (tRaiseErr C f W ta) := ps_raise hc tk (pmk_err T hr ha hg hdb he hpl)
end
end L2
set_option Elab.async false
set_option linter.all false
set_option maxRecDepth 100000
set_option maxHeartbeats 2000000
/-! The calls of a program's defs by one structure each; all defs may let errors out. -/
namespace FW
open PySem PySem.Spec PyProof.Rows L2
section
variable {P : Program} {w : World} {K : PySem.W.Frag} {mg : Str → Option Value} {base : Heap}
/-- the def x keeps sp at level k -/
structure Cal (P : Program) (w : World) (K : PySem.W.Frag) (mg : Str → Option Value) (base : Heap) (x : Str) (k : Nat) (ps : List Str) (sp : Sp) : Prop where
  ex : ∃ (f : Addr) (fd : FuncData), FnOk P w K mg base (L2.CX P w) k f fd ps sp ∧ mg x = some (.ref f) ∧ PySem.W.keepIn K (.ref f) = true ∧ Binds K fd ps []
theorem Cal.mono {x : Str} {j k : Nat} {ps : List Str} {sp : Sp} (C : Cal P w K mg base x j ps sp) (h : j ≤ k) : Cal P w K mg base x k ps sp := by
  obtain ⟨f, fd, a, b⟩ := C.ex
  exact ⟨f, fd, a.mono h, b⟩
theorem Cal.imp {x : Str} {k : Nat} {ps : List Str} {sp sp' : Sp} (C : Cal P w K mg base x k ps sp) (h : ∀ vs H Q E, sp' vs H Q E → sp vs H Q E) : Cal P w K mg base x k ps sp' := by
  obtain ⟨f, fd, a, b⟩ := C.ex
  exact ⟨f, fd, a.imp h, b⟩
/-- the same, called by keywords alone: ks their order, g puts their values in the parameters' order -/
structure CalK (P : Program) (w : World) (K : PySem.W.Frag) (mg : Str → Option Value) (base : Heap) (x : Str) (k : Nat) (ps ks : List Str) (gV : List V → List V) (sp : Sp) : Prop where
  ex : ∃ (f : Addr) (fd : FuncData) (g : List Value → List Value), FnOk P w K mg base (L2.CX P w) k f fd ps sp ∧ mg x = some (.ref f) ∧ PySem.W.keepIn K (.ref f) = true ∧
    (∀ (s : Shared) (ws : List Value), K.In s.heap → (g ws).length = ps.length → BindsTo s fd ⟨[], ks.zip ws⟩ (ps.zip (g ws))) ∧ (∀ {zs : List V} {ws : List Value}, Vals zs ws → Vals (gV zs) (g ws))
/-- the class x at C is made by an __init__ that keeps sp -/
structure Mak (P : Program) (w : World) (K : PySem.W.Frag) (mg : Str → Option Value) (base : Heap) (x : Str) (C : Addr) (k : Nat) (ps : List Str) (sp : Sp) : Prop where
  ex : ∃ (f : Addr) (fd : FuncData), FnOk P w K mg base (L2.CX P w) k f fd ps sp ∧ mg x = some (.ref C) ∧ Mk K C f ∧ Binds K fd ps []
end
section
variable {X : Cx} {k : Nat} {ps : List Str} {sp : Sp} {E : XK} {x : Str} {p pos : Pos} {e : Expr} {es : List Expr} {t : TA}
theorem pe_callC (C : Cal X.prog X.w X.K X.mg X.base x k ps sp) (hr : Room k X.A) (hx : Passes (L2.CX X.prog X.w) X E) (ha : PA X (e :: es) t) (hg : Gl X x := by rfl)
    (hdb : (x == ("__debug__" : Str)) = false := by decide) (he : starEach (e :: es) X.env = (false, eval e X.env) :: starEach es X.env := by rfl) (hpl : (backTo pos (starEach es X.env)).any (·.1) = false := by rfl) :
    PE X (.Call (.Name x p) (e :: es) [] pos) (tCall sp [] E t) := by
  obtain ⟨f, fd, a, b, c, d⟩ := C.ex
  exact pe_call a hr hg b c d .nil hx ha hdb he hpl
theorem pe_callC0 (C : Cal X.prog X.w X.K X.mg X.base x k ps sp) (hr : Room k X.A) (hx : Passes (L2.CX X.prog X.w) X E) (hg : Gl X x := by rfl)
    (hdb : (x == ("__debug__" : Str)) = false := by decide) : PE X (.Call (.Name x p) [] [] pos) (tCall sp [] E tNil) := by
  obtain ⟨f, fd, a, b, c, d⟩ := C.ex
  exact pe_call0 a hr hg b c d .nil hx hdb
theorem pe_makeC {C : Addr} (M : Mak X.prog X.w X.K X.mg X.base x C k ps sp) (hr : Room (k + 1) X.A) (hx : Passes (L2.CX X.prog X.w) X E) (ha : PA X (e :: es) t) (hg : Gl X x := by rfl)
    (hdb : (x == ("__debug__" : Str)) = false := by decide) (he : starEach (e :: es) X.env = (false, eval e X.env) :: starEach es X.env := by rfl) (hpl : (backTo pos (starEach es X.env)).any (·.1) = false := by rfl) :
    PE X (.Call (.Name x p) (e :: es) [] pos) (tMake C sp [] E t) := by
  obtain ⟨f, fd, a, b, c, d⟩ := M.ex
  exact pe_make c a hr hg b d .nil hx ha hdb he hpl
/-- f(k = v, ..) -/
def tCallK0 (sp : Sp) (gV : List V → List V) (E : XK) (tk : TA) : TE := fun σ H Q => tk σ H fun zs H2 => sp (gV zs) H2 Q E
theorem pe_callKC {ks : List Str} {gV : List V → List V} {kws : List Keyword} {tk : TA} (C : CalK X.prog X.w X.K X.mg X.base x k ps ks gV sp) (hr : Room k X.A) (hx : Passes (L2.CX X.prog X.w) X E) (hkw : PK X kws tk) (hg : Gl X x := by rfl)
    (hall : (backToKw pos (keywordEach kws X.env)).all (·.1.isSome) = true := by rfl) (hks : (backToKw pos (keywordEach kws X.env)).filterMap (·.1) = ks := by rfl)
    (hdb : (x == ("__debug__" : Str)) = false := by decide) (hpl : ((backTo pos (starEach [] X.env)).any (·.1) || (backToKw pos (keywordEach kws X.env)).any (·.1.isNone)) = false := by rfl) :
    PE X (.Call (.Name x p) [] kws pos) (tCallK0 sp gV E tk) := by
  obtain ⟨f, fd, g, a, b, c, d1, d2⟩ := C.ex
  refine ⟨fun pins s σ H Q I h => ?_⟩
  refine wpAny_Call_Name_kw (ld_glob I hg b ?_ hdb)
  refine PySem.W.callWith_KW0 (h₀ := X.base) I.ok.mod.kin c hall (thn (hkw.run pos pins s σ H _ I h) fun ws s2 ⟨zs, H2, I2, rz, q2⟩ => ⟨I2.kIn, ?_⟩) hpl
  rw [hks]
  have r2 := d2 rz
  have hl : (g ws).length = ps.length := by rw [← r2.length]; exact a.len _ _ _ _ q2
  refine wpAny_call (codeAny_mono (a.run X.A X.stack s2 H2 ⟨[], ks.zip ws⟩ (g ws) (gV zs) Q E hr I2.env0 (d1 s2 ws I2.kIn hl) r2 q2) fun r s' hq => ?_)
  cases r with
  | error e => exact hx pins σ H2 s2 e s' I2 hq
  | ok fl =>
    cases fl with
    | ret u => exact I2.after hq
    | next => exact False.elim hq
    | brk => exact False.elim hq
    | cont => exact False.elim hq
/-- a module's int -/
theorem pe_gint {i : Int} (hm : ∃ t, X.mg x = some (.int i t)) (hg : Gl X x := by rfl) (hd : (x == ("__debug__" : Str)) = false := by decide) : PE X (.Name x pos) (tC (.int i)) := by
  obtain ⟨t, h⟩ := hm
  exact pe_glob hg h ⟨t, rfl⟩ hd
end
section
variable {P : Program} {w : World} {K : PySem.W.Frag} {mg : Str → Option Value} {base : Heap} {N : List Str} {qual : Str} {scope : Scope} {f : Addr} {cdv : Value} {A : Around} {outer : List Env} {s : Shared} {H : Hp} {E : XK}
theorem takE : Takes (cxOf (L2.CX P w) P w K mg base N qual scope f cdv A outer s H E) (fun cls d _ H => E cls d H) := takes_of rfl rfl rfl rfl
theorem passE : Passes (L2.CX P w) (cxOf (L2.CX P w) P w K mg base N qual scope f cdv A outer s H E) E := passes_call takE fun _ _ _ _ h => h
theorem ownE : PassesOwn (model P w) (A.deeper (envOfC qual scope s.heap.objs.size f cdv)) (envOfC qual scope s.heap.objs.size f cdv) (cxOf (L2.CX P w) P w K mg base N qual scope f cdv A outer s H E).xe := passes_of (K := fun e s'' => L2.CX P w outer H s E e s'') (X := cxOf (L2.CX P w) P w K mg base N qual scope f cdv A outer s H E) rfl
end
end FW
set_option Elab.async false
set_option linter.all false
set_option maxRecDepth 100000
set_option maxHeartbeats 2000000
/-! The facts of the written part, read off the run of the top: defs, classes, own error classes. -/
namespace FW
open PySem PySem.Spec PyProof.Rows L2 PySem.FwE
abbrev FnE : Type := Option (Str × Str × Arguments × FuncBody × Scope × Addr × List Str × Addr)
def initOf (K : PySem.W.Frag) (x : Str) : Addr := He.ma K (He.ga K x) "__init__"
def fnE (K : PySem.W.Frag) (x : Str) : FnE := match K.lookup (initOf K x) with
  | some ⟨_, _, .func fd, _⟩ => some (fd.name, fd.qualname, fd.params, fd.body, fd.scope, fd.globals, fd.closure.map (·.1), fd.builtins)
  | _ => none
/-- an own error class: its name, its field, the qualified name of its __init__, the text of that -/
structure DefE where
  x : Str
  f : Str
  qual : Str
  st : Stmt
def DefE.val (d : DefE) : FnE := some ("__init__", d.qual, defArgs d.st, .stmts (defBody d.st), defScope d.st, mainGlobals, ["__class__"], builtinsNs)
def errCls (K : PySem.W.Frag) (C : Addr) : Bool := match K.lookup C with
  | some ⟨.type "type", _, .cls cd, sl⟩ => (match cd.mro, sl.toList with
    | .ref C' :: bm, [_, _, _, _, some (.builtin n), _] => decide (C' = C) && decide (n = "ValueError.__new__") && !cd.hasDel && cd.hasDict && PySem.HandSPX.refsVE bm && He.eqO (PySem.W.alongIn K "__init__" bm) (some (some (.builtin "ValueError.__init__")))
    | _, _ => false)
  | _ => false
theorem errCls_ok {K : PySem.W.Frag} {C : Addr} (q : errCls K C = true) : ∃ nm qn N bs bm sn sub ab col dd k0 k1 k2 k3 k5, K.lookup C = some (excClassObj nm qn C N bs bm true sn sub ab col dd k0 k1 k2 k3 k5 "ValueError.__new__") ∧ PySem.HandSPX.refsVE bm = true ∧
    PySem.W.alongIn K "__init__" bm = some (some (.builtin "ValueError.__init__")) := by
  unfold errCls at q
  split at q
  · rename_i dd cd sl ho
    split at q
    · rename_i C' bm k0 k1 k2 k3 n k5 hm hs
      simp only [Bool.and_eq_true, decide_eq_true_eq, Bool.not_eq_true'] at q
      obtain ⟨⟨⟨⟨⟨rfl, rfl⟩, hdel⟩, hh⟩, hv⟩, ha⟩ := q
      obtain ⟨nm, bs, mro, ns, qn, hd, sn, sub, ab, col, del⟩ := cd
      dsimp only at hm hdel hh
      subst hm hdel hh
      have hsl : sl = #[k0, k1, k2, k3, some (.builtin "ValueError.__new__"), k5] := by
        obtain ⟨l⟩ := sl
        simp only at hs
        rw [hs]
      subst hsl
      exact ⟨nm, qn, ns, bs, bm, sn, sub, ab, col, dd, k0, k1, k2, k3, k5, ho, hv, He.eqO_ok ha⟩
    · cases q
  · cases q
def codeF (P : Program) (K : PySem.W.Frag) (c : Addr) : Bool := match K.lookup c with
  | some ⟨_, _, .fields vs, _⟩ => (match (vs[2]? : Option Value) with
    | some (.str file _) => (P.main.file : Str) == file
    | _ => false)
  | _ => false
theorem codeF_ok {P : Program} {K : PySem.W.Frag} {c : Addr} (q : codeF P K c = true) : ∃ (ccl : Value) (cdd : Option Addr) (ccs : Array (Option Value)) (vs : Array Value) (file : Str) (tf : Tok), K.lookup c = some ⟨ccl, cdd, .fields vs, ccs⟩ ∧ vs[2]? = some (.str file tf) ∧ ((P.main.file : Str) == file) = true := by
  unfold codeF at q
  split at q
  · rename_i a b vs d ho
    split at q
    · rename_i file tf hv
      exact ⟨_, _, _, vs, file, tf, ho, hv, q⟩
    · cases q
  · cases q
def cellF (K : PySem.W.Frag) (c C : Addr) : Bool := match K.lookup c with
  | some ⟨_, _, .cell (some (.ref D)), _⟩ => decide (D = C)
  | _ => false
theorem cellF_ok {K : PySem.W.Frag} {c C : Addr} (q : cellF K c C = true) : ∃ (cl : Value) (cld : Option Addr) (csl : Array (Option Value)), K.lookup c = some ⟨cl, cld, .cell (some (.ref C)), csl⟩ := by
  unfold cellF at q
  split at q
  · rename_i a b D d ho
    rw [of_decide_eq_true q] at ho
    exact ⟨_, _, _, ho⟩
  · cases q
def DefE.okB (P : Program) (K : PySem.W.Frag) (d : DefE) : Bool := match K.lookup (initOf K d.x) with
  | some ⟨_, _, .func fd, _⟩ => (match fd.defaults, fd.kwdefaults, fd.code, fd.closure with
    | .none, .none, .ref cda, [(_, cc)] => PySem.W.codeIn K (.ref cda) d.qual && codeF P K cda && cellF K cc (He.ga K d.x)
    | _, _, _, _ => false)
  | _ => false
def DefE.okA (K : PySem.W.Frag) (d : DefE) : Bool :=
  errCls K (He.ga K d.x) && He.eqO (PySem.W.findIn K (.ref (He.ga K d.x)) "__setattr__") (some (some (.builtin "object.__setattr__"))) && He.eqO (PySem.W.findIn K (.ref (He.ga K d.x)) d.f) (some none) &&
  He.eqO (PySem.W.findIn K (.ref (He.ga K d.x)) "__init__") (some (some (.ref (initOf K d.x)))) && decide (PySem.W.typeIn K (.ref (initOf K d.x)) = some (.type "function")) && PySem.W.keepIn K (.ref (He.ga K d.x)) &&
  decide (PySem.W.subIn K (.ref (He.ga K d.x)) (.type "BaseException") = some true) && decide (PySem.W.subIn K (.ref (He.ga K d.x)) (.type "ValueError") = some true) && decide (PySem.W.mroIn K (He.ga K d.x) (.ref (He.ga K d.x)) = some true) &&
  decide (PySem.W.typeIn K (.ref (He.ga K d.x)) = some (.type "type")) && He.eqO (PySem.W.nsIn K cStatics "thirdparty.any") (some none) && He.eqO (PySem.W.nsIn K mainGlobals d.x) (some (some (.ref (He.ga K d.x)))) && He.eqO (PySem.W.nsIn K mainGlobals "super") (some none)
/-- what of the class's text is to be seen -/
structure ErrSt (P : Program) (f : Str) (st : Stmt) : Prop where
  syn : ∃ (txt : Str) (k : Nat) (p1 p2 r0 r1 r2 r3 r4 r5 q1 q2 q3 q4 : Pos), defArgs st = eA f p1 p2 ∧ defBody st = eB f txt k r0 r1 r2 r3 r4 r5 q1 q2 q3 q4 ∧ ErrSyn f txt k p1 p2 r0 r1 r2 r3 r4 r5 q1 q2 q3 q4
  sc : defScope st = eS f
  top : (P.main.scope.names.lookup ("super" : Str)).isSome = false
  nfs : ¬ f = "self"
  kS : (eS f).names.lookup ("super" : Str) = some .globalImplicit
  kK : (eS f).names.lookup ("__class__" : Str) = some .free
  kI : (eS f).names.lookup ("self" : Str) = some .local
  kF : (eS f).names.lookup f = some .local
  dbg : (f == ("__debug__" : Str)) = false
theorem DefE.txt {P : Program} {K : PySem.W.Frag} {h : Heap} {mg : Str → Option Value} {d : DefE} (X : K.In h) (G : h.Ns mainGlobals mg) (e : fnE K d.x = d.val) (a : d.okA K = true) (b : d.okB P K = true) (S : ErrSt P d.f d.st) :
    ∃ cc cda, ErrTxt P K mg d.x d.f (He.ga K d.x) (initOf K d.x) cc cda := by
  unfold DefE.okA at a
  simp only [Bool.and_eq_true, decide_eq_true_eq] at a
  obtain ⟨⟨⟨⟨⟨⟨⟨⟨⟨⟨⟨⟨a1, a2⟩, a3⟩, a4⟩, a5⟩, a6⟩, a7⟩, a8⟩, a9⟩, a10⟩, a11⟩, a12⟩, a13⟩ := a
  obtain ⟨txt, k, p1, p2, r0, r1, r2, r3, r4, r5, q1, q2, q3, q4, sA, sB, sY⟩ := S.syn
  unfold DefE.okB at b
  unfold fnE at e
  cases q : K.lookup (initOf K d.x) with
  | none =>
    rw [q] at b
    cases b
  | some o =>
    obtain ⟨oc, od, dt, osl⟩ := o
    rw [q] at b e
    cases dt with
    | func fd =>
      obtain ⟨n1, n2, n3, n4, n5, n6, n7, n8, n9, n10, n11, n12, n13, n14, n15⟩ := fd
      dsimp only at b e
      have e2 : (some (n1, n2, n3, n4, n5, n6, n7.map (·.1), n15) : FnE) = some (("__init__" : Str), d.qual, defArgs d.st, .stmts (defBody d.st), defScope d.st, mainGlobals, [("__class__" : Str)], builtinsNs) := e
      simp only [Option.some.injEq, Prod.mk.injEq] at e2
      obtain ⟨h1, h2, h3, h4, h5, h6, h7, h8⟩ := e2
      split at b
      · rename_i cda y cc
        have hy : y = ("__class__" : Str) := by
          have z : [y] = [("__class__" : Str)] := h7
          exact (List.cons.inj z).1
        simp only [Bool.and_eq_true] at b
        obtain ⟨⟨b1, b2⟩, b3⟩ := b
        subst h1 h2 h3 h4 h5 h6 h8 hy
        exact ⟨cc, cda, {
          gC := PySem.W.mg_of X G (He.eqO_ok a12)
          gS := PySem.W.mg_none_of X G (He.eqO_ok a13)
          cls := errCls_ok a1
          sa := He.eqO_ok a2
          noF := He.eqO_ok a3
          iC := He.eqO_ok a4
          tC := a5
          kC := a6
          exC := a7
          veC := a8
          slC := a9
          tyC := a10
          opq := He.eqO_ok a11
          top := S.top
          nfs := S.nfs
          kS := S.kS
          kK := S.kK
          kI := S.kI
          kF := S.kF
          dbg := S.dbg
          fn := ⟨oc, od, n10, n11, n12, n14, osl, d.qual, txt, k, p1, p2, r0, r1, r2, r3, r4, r5, q1, q2, q3, q4, by rw [q, sA, sB, S.sc], b1, sY⟩
          code := codeF_ok b2
          cell := cellF_ok b3 }⟩
      · cases b
    | _ => cases b
/-! ### the Hook -/
abbrev AlF : Type := He.AlD × List FnE × Bool
def obsF (fa : List He.Fa) (fn : List He.DefD) (fe : List DefE) (ex : PySem.W.Frag → Bool) (K : PySem.W.Frag) : AlF := (He.obsD fa fn K, fe.map fun d => fnE K d.x, ex K)
def valF (fn : List He.DefD) (fe : List DefE) : AlF := (He.valD fn, fe.map DefE.val, true)
def asF (g : Addr → Option Obj) (n : Nat) : List Addr := cStatics :: He.asD g n
def obsG (n : Nat) (fa : List He.Fa) (fn : List He.DefD) (fe : List DefE) (ex : PySem.W.Frag → Bool) (g : Addr → Option Obj) : AlF := obsF fa fn fe ex (He.frG g (asF g n))
def Says (fa : List He.Fa) (fn : List He.DefD) (fe : List DefE) (ex : PySem.W.Frag → Bool) (K : PySem.W.Frag) : Prop := obsF fa fn fe ex K = valF fn fe
def hookF (n : Nat) (fa : List He.Fa) (fn : List He.DefD) (fe : List DefE) (ex : PySem.W.Frag → Bool) : PySem.W.Hook where
  α := AlF
  obs := fun s => obsG n fa fn fe ex s.heap.get?
  val := fun _ => valF fn fe
  says := fun _ h => ∃ K : PySem.W.Frag, K.In h ∧ Says fa fn fe ex K
  of := fun _ _ e => ⟨_, He.frG_in, e⟩
  keeps := fun _ _ _ ⟨K, hK, c⟩ k => ⟨K, PySem.W.Frag.In.keeps hK k, c⟩
theorem obsG_eq {n : Nat} {fa : List He.Fa} {fn : List He.DefD} {fe : List DefE} {ex : PySem.W.Frag → Bool} {g : Addr → Option Obj} {s : Shared} (h : ∀ a, g a = s.heap.get? a) : obsG n fa fn fe ex g = (hookF n fa fn fe ex).obs s := by
  have e : g = s.heap.get? := funext h
  rw [e] <;> rfl
section
variable {fa : List He.Fa} {fn : List He.DefD} {fe : List DefE} {ex : PySem.W.Frag → Bool} {K : PySem.W.Frag}
theorem Says.d (c : Says fa fn fe ex K) : He.SaysD fa fn K := congrArg (fun z : AlF => z.1) c
theorem Says.more (c : Says fa fn fe ex K) : ex K = true := congrArg (fun z : AlF => z.2.2) c
theorem Says.err (c : Says fa fn fe ex K) (i : Nat) {d : DefE} (h : fe[i]? = some d := by rfl) : fnE K d.x = d.val := by
  have e : fe.map (fun d => fnE K d.x) = fe.map DefE.val := congrArg (fun z : AlF => z.2.1) c
  have e2 : (fe.map fun d => fnE K d.x)[i]? = (fe.map DefE.val)[i]? := by rw [e]
  rw [List.getElem?_map, List.getElem?_map, h] at e2
  exact Option.some.inj e2
end
end FW
set_option Elab.async false
set_option linter.all false
set_option maxRecDepth 100000
set_option maxHeartbeats 2000000
/-! Calls within a try, isinstance of the caught error. -/
namespace FW
open PySem PySem.Spec PyProof.Rows L2
section
variable {X : Cx} {k : Nat} {ps : List Str} {sp : Sp} {x : Str} {p pos : Pos} {e : Expr} {es : List Expr} {t : TA} {W : WX}
/-- a call in a try's body: what the callee raises meets W -/
theorem pe_callCS (C : Cal X.prog X.w X.K X.mg X.base x k ps sp) (hr : Room k X.A) (tk : Takes X W) (ha : PA X (e :: es) t) (hg : Gl X x := by rfl)
    (hdb : (x == ("__debug__" : Str)) = false := by decide) (he : starEach (e :: es) X.env = (false, eval e X.env) :: starEach es X.env := by rfl) (hpl : (backTo pos (starEach es X.env)).any (·.1) = false := by rfl) :
    PE X (.Call (.Name x p) (e :: es) [] pos) (tCallS sp (WE W) t) := by
  obtain ⟨f, fd, a, b, c, d⟩ := C.ex
  exact pe_callS a hr hg b c d (fun σ => passAt tk σ) ha hdb he hpl
end
/-- what a class must say, so that isinstance asks its instances rightly -/
structure IsC (K : PySem.W.Frag) (D : Addr) : Prop where
  cl : (PySem.W.clsIn K D).isSome = true
  hg : PySem.W.findIn K (.ref D) "__getattribute__" = some (some (.builtin "BaseException.__getattribute__"))
  hk : PySem.W.findIn K (.ref D) "__getattr__" = some none
  hs : PySem.W.subIn K (.ref D) (.type "BaseException") = some true
  ha : PySem.W.findIn K (.ref D) "__class__" = some (some (.builtin "object.__class__"))
  hn : PySem.W.specialIn K (.builtin "object.__class__") "__get__" = some (some (.builtin "getset_descriptor.__get__"))
  ht : PySem.W.takesIn K (.builtin "object.__class__") = some true
  hm : PySem.W.mroIn K D (.type "object") = some true
  hd : PySem.W.hasDictIn K D = true
def isCB (K : PySem.W.Frag) (D : Addr) : Bool := (PySem.W.clsIn K D).isSome && He.eqO (PySem.W.findIn K (.ref D) "__getattribute__") (some (some (.builtin "BaseException.__getattribute__"))) && He.eqO (PySem.W.findIn K (.ref D) "__getattr__") (some none) &&
  decide (PySem.W.subIn K (.ref D) (.type "BaseException") = some true) && He.eqO (PySem.W.findIn K (.ref D) "__class__") (some (some (.builtin "object.__class__"))) && decide (PySem.W.specialIn K (.builtin "object.__class__") "__get__" = some (some (.builtin "getset_descriptor.__get__"))) &&
  decide (PySem.W.takesIn K (.builtin "object.__class__") = some true) && decide (PySem.W.mroIn K D (.type "object") = some true) && PySem.W.hasDictIn K D
theorem isCB_ok {K : PySem.W.Frag} {D : Addr} (h : isCB K D = true) : IsC K D := by
  unfold isCB at h
  simp only [Bool.and_eq_true, decide_eq_true_eq] at h
  obtain ⟨⟨⟨⟨⟨⟨⟨⟨a1, a2⟩, a3⟩, a4⟩, a5⟩, a6⟩, a7⟩, a8⟩, a9⟩ := h
  exact ⟨a1, He.eqO_ok a2, He.eqO_ok a3, a4, He.eqO_ok a5, a6, a7, a8, a9⟩
theorem IsC.xf {K : PySem.W.Frag} {D : Addr} (c : IsC K D) : XfC K D := ⟨c.hg, c.hk, c.hs, c.hd⟩
/-- isinstance(e, c), e the exception that the suite holds, its class cls, its dict d -/
def rIsX (K : PySem.W.Frag) (cls : Value) (d : Option Addr) (a : Addr) : List V → Hp → VK → Prop := fun xs H Q => ∃ (c : V) (cv : Value) (D dd : Addr) (fs : List (Str × V)) (b : Bool), xs = [.ref a, c] ∧ ClsV c cv ∧ cls = .ref D ∧ d = some dd ∧ H dd = some (.xd fs) ∧ IsC K D ∧ PySem.W.kitOne K (.ref D) cv = some b ∧ Q (.bl b) H
theorem call_isX {X : Cx} {a : Addr} {oe : Obj} {cls : Value} {d : Option Addr} {pn : List (Addr × Obj)} (hz : Zc cls d oe) (hf : ∃ vs, oe.data = .fields vs) : CallR (X.suite a ((a, oe) :: pn)) (.builtin "isinstance") (rIsX X.K cls d a) := by
  intro pins s σ H xs us Q I r h
  obtain ⟨c, cv, D, dd, fs, b, rfl, hcv, rfl, rfl, ea, C, e, q⟩ := h
  cases r with
  | cons rx rr =>
    cases rr with
    | cons rt rr =>
      cases rr
      cases rx
      have ec := ClsV.eq hcv rt
      subst ec
      obtain ⟨hget, _⟩ := I.pin (a, oe) (List.mem_append.mpr (.inl List.mem_cons_self))
      obtain ⟨vs, hv⟩ := hf
      have hx : ObjOk X.prog X.w H s.heap dd (.xd fs) := I.hok dd _ ea
      obtain ⟨mA, hns, hr⟩ := hx
      obtain ⟨od, ho, hl⟩ := lookIn_ns hns
      have J : PySem.W.InstAt s.heap a oe D (some od) := ⟨hget, hz.1, by unfold PySem.W.notCls; rw [hv] <;> rfl, by rw [hz.2]; exact ho⟩
      exact PySem.W.kia_one (PySem.W.kitx_exc C.cl C.hg C.hk C.hs C.ha C.hn C.ht C.hm) I.kIn J e (fun z => nomatch z) fun tk => ⟨.bl b, H, I.kept (t' := tk) fun _ _ z => z, rfl, q⟩
end FW
set_option Elab.async false
set_option linter.all false
set_option maxRecDepth 100000
set_option maxHeartbeats 4000000
/-! The text by places, and what the walk asks of the top: one field a fact. Printed by genplaces.py. -/
namespace FW
open PySem PySem.Spec PyProof.Rows L2 PySem.FwE
def top (i : Nat) : Stmt := PySem.Challenge.pw_floorwords_k39_great_rule.main.body.getD i (.Pass ⟨0, 0, 0, 0⟩)
abbrev s_look_number : Stmt := top 9
abbrev s_look_count : Stmt := top 10
abbrev s_look_size : Stmt := top 11
abbrev s_divides : Stmt := top 13
abbrev s_is_clock : Stmt := top 22
abbrev s_ClocksX_initX : Stmt := inClass (top 23) 0
abbrev s_keeps : Stmt := top 32
abbrev s_kept_pairs : Stmt := top 33
abbrev s_excludes_size : Stmt := top 34
abbrev s_excluding_size : Stmt := top 35
abbrev s_LotX_initX : Stmt := inClass (top 38) 0
abbrev s_LotX_iterX : Stmt := inClass (top 38) 3
abbrev s_look_small : Stmt := top 39
abbrev s_is_sized : Stmt := top 54
abbrev s__law_pool : Stmt := top 56
abbrev s__law_draw : Stmt := top 57
abbrev s__law_bricks : Stmt := top 58
abbrev s__law_gcd : Stmt := top 59
abbrev s__law_is_sum : Stmt := top 60
abbrev s__law_height : Stmt := top 61
abbrev s__law_divides : Stmt := top 62
abbrev s__law_keeps : Stmt := top 63
abbrev s__law_excluding : Stmt := top 64
abbrev s__law_side : Stmt := top 65
abbrev s__law_asked : Stmt := top 66
abbrev s__law_paired : Stmt := top 67
abbrev s__law_alone : Stmt := top 68
abbrev s__law_refusal : Stmt := top 69
abbrev s__law_refusals : Stmt := top 70
abbrev s_law : Stmt := top 71
abbrev s_NumberError : Stmt := inClass (top 3) 0
abbrev s_SizeError : Stmt := inClass (top 4) 0
abbrev s_RepeatError : Stmt := inClass (top 6) 0
abbrev s_LongError : Stmt := inClass (top 7) 0
/-- the facts of the top -/
structure Tx (P : Program) (K : PySem.W.Frag) (mg : Str → Option Value) : Prop where
  m_look_number : mg "look_number" = some (.ref (He.ga K "look_number"))
  m_look_count : mg "look_count" = some (.ref (He.ga K "look_count"))
  m_look_size : mg "look_size" = some (.ref (He.ga K "look_size"))
  m_divides : mg "divides" = some (.ref (He.ga K "divides"))
  m_is_clock : mg "is_clock" = some (.ref (He.ga K "is_clock"))
  m_Clocks : mg "Clocks" = some (.ref (He.ga K "Clocks"))
  m_keeps : mg "keeps" = some (.ref (He.ga K "keeps"))
  m_kept_pairs : mg "kept_pairs" = some (.ref (He.ga K "kept_pairs"))
  m_excludes_size : mg "excludes_size" = some (.ref (He.ga K "excludes_size"))
  m_excluding_size : mg "excluding_size" = some (.ref (He.ga K "excluding_size"))
  m_Lot : mg "Lot" = some (.ref (He.ga K "Lot"))
  m_look_small : mg "look_small" = some (.ref (He.ga K "look_small"))
  m_is_sized : mg "is_sized" = some (.ref (He.ga K "is_sized"))
  m__law_pool : mg "_law_pool" = some (.ref (He.ga K "_law_pool"))
  m__law_draw : mg "_law_draw" = some (.ref (He.ga K "_law_draw"))
  m__law_bricks : mg "_law_bricks" = some (.ref (He.ga K "_law_bricks"))
  m__law_gcd : mg "_law_gcd" = some (.ref (He.ga K "_law_gcd"))
  m__law_is_sum : mg "_law_is_sum" = some (.ref (He.ga K "_law_is_sum"))
  m__law_height : mg "_law_height" = some (.ref (He.ga K "_law_height"))
  m__law_divides : mg "_law_divides" = some (.ref (He.ga K "_law_divides"))
  m__law_keeps : mg "_law_keeps" = some (.ref (He.ga K "_law_keeps"))
  m__law_excluding : mg "_law_excluding" = some (.ref (He.ga K "_law_excluding"))
  m__law_side : mg "_law_side" = some (.ref (He.ga K "_law_side"))
  m__law_asked : mg "_law_asked" = some (.ref (He.ga K "_law_asked"))
  m__law_paired : mg "_law_paired" = some (.ref (He.ga K "_law_paired"))
  m__law_alone : mg "_law_alone" = some (.ref (He.ga K "_law_alone"))
  m__law_refusal : mg "_law_refusal" = some (.ref (He.ga K "_law_refusal"))
  m__law_refusals : mg "_law_refusals" = some (.ref (He.ga K "_law_refusals"))
  m_law : mg "law" = some (.ref (He.ga K "law"))
  m_NumberError : mg "NumberError" = some (.ref (He.ga K "NumberError"))
  m_SizeError : mg "SizeError" = some (.ref (He.ga K "SizeError"))
  m_RepeatError : mg "RepeatError" = some (.ref (He.ga K "RepeatError"))
  m_LongError : mg "LongError" = some (.ref (He.ga K "LongError"))
  m_FloorwordsError : mg "FloorwordsError" = some (.ref (He.ga K "FloorwordsError"))
  m_KEPT_CLOCKS : mg "KEPT_CLOCKS" = some (.ref (He.ga K "KEPT_CLOCKS"))
  d_look_number : ∃ fd, FunD K "look_number" "look_number" (defArgs s_look_number) (defBody s_look_number) (defScope s_look_number) [] [] (He.fAd K ("look_number", none)) fd
  d_look_count : ∃ fd, FunD K "look_count" "look_count" (defArgs s_look_count) (defBody s_look_count) (defScope s_look_count) [] [] (He.fAd K ("look_count", none)) fd
  d_look_size : ∃ fd, FunD K "look_size" "look_size" (defArgs s_look_size) (defBody s_look_size) (defScope s_look_size) [] [] (He.fAd K ("look_size", none)) fd
  d_divides : ∃ fd, FunD K "divides" "divides" (defArgs s_divides) (defBody s_divides) (defScope s_divides) [] [] (He.fAd K ("divides", none)) fd
  d_is_clock : ∃ fd, FunD K "is_clock" "is_clock" (defArgs s_is_clock) (defBody s_is_clock) (defScope s_is_clock) [] [] (He.fAd K ("is_clock", none)) fd
  d_ClocksX_initX : ∃ fd, FunD K "__init__" "Clocks.__init__" (defArgs s_ClocksX_initX) (defBody s_ClocksX_initX) (defScope s_ClocksX_initX) [] [] (He.fAd K ("Clocks", some "__init__")) fd
  d_keeps : ∃ fd, FunD K "keeps" "keeps" (defArgs s_keeps) (defBody s_keeps) (defScope s_keeps) [] [] (He.fAd K ("keeps", none)) fd
  d_kept_pairs : ∃ fd, FunD K "kept_pairs" "kept_pairs" (defArgs s_kept_pairs) (defBody s_kept_pairs) (defScope s_kept_pairs) [] [] (He.fAd K ("kept_pairs", none)) fd
  d_excludes_size : ∃ fd, FunD K "excludes_size" "excludes_size" (defArgs s_excludes_size) (defBody s_excludes_size) (defScope s_excludes_size) [] [] (He.fAd K ("excludes_size", none)) fd
  d_excluding_size : ∃ fd, FunD K "excluding_size" "excluding_size" (defArgs s_excluding_size) (defBody s_excluding_size) (defScope s_excluding_size) [] [] (He.fAd K ("excluding_size", none)) fd
  d_LotX_initX : ∃ fd, FunD K "__init__" "Lot.__init__" (defArgs s_LotX_initX) (defBody s_LotX_initX) (defScope s_LotX_initX) [] [] (He.fAd K ("Lot", some "__init__")) fd
  d_LotX_iterX : ∃ fd, FunD K "__iter__" "Lot.__iter__" (defArgs s_LotX_iterX) (defBody s_LotX_iterX) (defScope s_LotX_iterX) [] [] (He.fAd K ("Lot", some "__iter__")) fd
  d_look_small : ∃ fd, FunD K "look_small" "look_small" (defArgs s_look_small) (defBody s_look_small) (defScope s_look_small) [] [] (He.fAd K ("look_small", none)) fd
  d_is_sized : ∃ fd, FunD K "is_sized" "is_sized" (defArgs s_is_sized) (defBody s_is_sized) (defScope s_is_sized) [] [] (He.fAd K ("is_sized", none)) fd
  d__law_pool : ∃ fd, FunD K "_law_pool" "_law_pool" (defArgs s__law_pool) (defBody s__law_pool) (defScope s__law_pool) [] [] (He.fAd K ("_law_pool", none)) fd
  d__law_draw : ∃ fd, FunD K "_law_draw" "_law_draw" (defArgs s__law_draw) (defBody s__law_draw) (defScope s__law_draw) [] [] (He.fAd K ("_law_draw", none)) fd
  d__law_bricks : ∃ fd, FunD K "_law_bricks" "_law_bricks" (defArgs s__law_bricks) (defBody s__law_bricks) (defScope s__law_bricks) [] [] (He.fAd K ("_law_bricks", none)) fd
  d__law_gcd : ∃ fd, FunD K "_law_gcd" "_law_gcd" (defArgs s__law_gcd) (defBody s__law_gcd) (defScope s__law_gcd) [] [] (He.fAd K ("_law_gcd", none)) fd
  d__law_is_sum : ∃ fd, FunD K "_law_is_sum" "_law_is_sum" (defArgs s__law_is_sum) (defBody s__law_is_sum) (defScope s__law_is_sum) [] [] (He.fAd K ("_law_is_sum", none)) fd
  d__law_height : ∃ fd, FunD K "_law_height" "_law_height" (defArgs s__law_height) (defBody s__law_height) (defScope s__law_height) [] [] (He.fAd K ("_law_height", none)) fd
  d__law_divides : ∃ fd, FunD K "_law_divides" "_law_divides" (defArgs s__law_divides) (defBody s__law_divides) (defScope s__law_divides) [] [] (He.fAd K ("_law_divides", none)) fd
  d__law_keeps : ∃ fd, FunD K "_law_keeps" "_law_keeps" (defArgs s__law_keeps) (defBody s__law_keeps) (defScope s__law_keeps) [] [] (He.fAd K ("_law_keeps", none)) fd
  d__law_excluding : ∃ fd, FunD K "_law_excluding" "_law_excluding" (defArgs s__law_excluding) (defBody s__law_excluding) (defScope s__law_excluding) [] [] (He.fAd K ("_law_excluding", none)) fd
  d__law_side : ∃ fd, FunD K "_law_side" "_law_side" (defArgs s__law_side) (defBody s__law_side) (defScope s__law_side) [] [] (He.fAd K ("_law_side", none)) fd
  d__law_asked : ∃ fd, FunD K "_law_asked" "_law_asked" (defArgs s__law_asked) (defBody s__law_asked) (defScope s__law_asked) [] [] (He.fAd K ("_law_asked", none)) fd
  d__law_paired : ∃ fd, FunD K "_law_paired" "_law_paired" (defArgs s__law_paired) (defBody s__law_paired) (defScope s__law_paired) [] [] (He.fAd K ("_law_paired", none)) fd
  d__law_alone : ∃ fd, FunD K "_law_alone" "_law_alone" (defArgs s__law_alone) (defBody s__law_alone) (defScope s__law_alone) [] [] (He.fAd K ("_law_alone", none)) fd
  d__law_refusal : ∃ fd, FunD K "_law_refusal" "_law_refusal" (defArgs s__law_refusal) (defBody s__law_refusal) (defScope s__law_refusal) [] [] (He.fAd K ("_law_refusal", none)) fd
  d__law_refusals : ∃ fd, FunD K "_law_refusals" "_law_refusals" (defArgs s__law_refusals) (defBody s__law_refusals) (defScope s__law_refusals) [] [] (He.fAd K ("_law_refusals", none)) fd
  d_law : ∃ fd, FunD K "law" "law" (defArgs s_law) (defBody s_law) (defScope s_law) [] [] (He.fAd K ("law", none)) fd
  f_len : mg "len" = none
  f_range : mg "range" = none
  f_int : mg "int" = none
  f_tuple : mg "tuple" = none
  f_sorted : mg "sorted" = none
  f_enumerate : mg "enumerate" = none
  f_isinstance : mg "isinstance" = none
  f_max : mg "max" = none
  f_iter : mg "iter" = none
  f_list : mg "list" = none
  f_bool : mg "bool" = none
  c_MOST_HOURS : ∃ t, mg "MOST_HOURS" = some (.int 60 t)
  c_LONGEST : ∃ t, mg "LONGEST" = some (.int 6 t)
  c_MOST_BRICKS : ∃ t, mg "MOST_BRICKS" = some (.int 6 t)
  c_MOST_SIDE_kept : ∃ t, mg "MOST_SIDE_kept" = some (.int 10000000000000000000000000000000 t)
  c_SMALL_SIDE : ∃ t, mg "SMALL_SIDE" = some (.int 4 t)
  c_WIDEST : ∃ t, mg "WIDEST" = some (.int 5 t)
  c_MOST_SIDE_great : ∃ t, mg "MOST_SIDE_great" = some (.int 10000000000000000000000000000000 t)
  e_NumberError : ∃ cc cda, ErrTxt P K mg "NumberError" "number" (He.ga K "NumberError") (initOf K "NumberError") cc cda
  e_SizeError : ∃ cc cda, ErrTxt P K mg "SizeError" "count" (He.ga K "SizeError") (initOf K "SizeError") cc cda
  e_RepeatError : ∃ cc cda, ErrTxt P K mg "RepeatError" "at" (He.ga K "RepeatError") (initOf K "RepeatError") cc cda
  e_LongError : ∃ cc cda, ErrTxt P K mg "LongError" "side" (He.ga K "LongError") (initOf K "LongError") cc cda
  x_NumberError : PySem.W.exmOne K (.ref (He.ga K "NumberError")) (.ref (He.ga K "FloorwordsError")) = some true
  i_NumberError : IsC K (He.ga K "NumberError")
  x_SizeError : PySem.W.exmOne K (.ref (He.ga K "SizeError")) (.ref (He.ga K "FloorwordsError")) = some true
  i_SizeError : IsC K (He.ga K "SizeError")
  x_RepeatError : PySem.W.exmOne K (.ref (He.ga K "RepeatError")) (.ref (He.ga K "FloorwordsError")) = some true
  i_RepeatError : IsC K (He.ga K "RepeatError")
  x_LongError : PySem.W.exmOne K (.ref (He.ga K "LongError")) (.ref (He.ga K "FloorwordsError")) = some true
  i_LongError : IsC K (He.ga K "LongError")
  cl_Clocks : Cls K (He.ga K "Clocks")
  mk_Clocks : Mk K (He.ga K "Clocks") (initOf K "Clocks")
  na_Clocks_along : NoAttr K (He.ga K "Clocks") "along"
  na_Clocks_up : NoAttr K (He.ga K "Clocks") "up"
  ty_Clocks : ∀ (H : Hp) (a dx : Addr) (fs : List (Str × V)), H a = some (.ins (He.ga K "Clocks") dx fs) → TyX K H (.ref a) (.ref (He.ga K "Clocks"))
  cl_Lot : Cls K (He.ga K "Lot")
  mk_Lot : Mk K (He.ga K "Lot") (initOf K "Lot")
  na_Lot_bricks : NoAttr K (He.ga K "Lot") "bricks"
  me_Lot_XiterX : Meth K (He.ga K "Lot") "__iter__" (He.ma K (He.ga K "Lot") "__iter__")
  t_KEPT_CLOCKS : ∀ H : Hp, SqT K H (He.ga K "KEPT_CLOCKS") [V.int 0, V.int 2, V.int 3, V.int 4, V.int 5, V.int 6]
  k_NumberError_NumberError : PySem.W.kitOne K (.ref (He.ga K "NumberError")) (.ref (He.ga K "NumberError")) = some true
  k_NumberError_LongError : PySem.W.kitOne K (.ref (He.ga K "NumberError")) (.ref (He.ga K "LongError")) = some false
  k_LongError_LongError : PySem.W.kitOne K (.ref (He.ga K "LongError")) (.ref (He.ga K "LongError")) = some true
  k_LongError_NumberError : PySem.W.kitOne K (.ref (He.ga K "LongError")) (.ref (He.ga K "NumberError")) = some false
  k_Clocks_Clocks : PySem.W.kitOne K (.ref (He.ga K "Clocks")) (.ref (He.ga K "Clocks")) = some true
  k_Tbool_Tbool : PySem.W.kitOne K (.type "bool") (.type "bool") = some true
  k_TNoneType_Clocks : PySem.W.kitOne K (.type "NoneType") (.ref (He.ga K "Clocks")) = some false
theorem sc_look_number : FnScope ["number", "low", "high"] ["number", "low", "high"] (defScope s_look_number) := ⟨rfl, rfl, rfl, by decide +kernel, rfl, by decide +kernel, by decide +kernel⟩
theorem sc_look_count : FnScope ["count", "low", "high"] ["count", "low", "high"] (defScope s_look_count) := ⟨rfl, rfl, rfl, by decide +kernel, rfl, by decide +kernel, by decide +kernel⟩
theorem sc_look_size : FnScope ["m", "n", "most"] ["m", "n", "most"] (defScope s_look_size) := ⟨rfl, rfl, rfl, by decide +kernel, rfl, by decide +kernel, by decide +kernel⟩
theorem sc_divides : FnScope ["d", "n"] ["d", "n"] (defScope s_divides) := ⟨rfl, rfl, rfl, by decide +kernel, rfl, by decide +kernel, by decide +kernel⟩
theorem sc_is_clock : FnScope ["number"] ["number"] (defScope s_is_clock) := ⟨rfl, rfl, rfl, by decide +kernel, rfl, by decide +kernel, by decide +kernel⟩
theorem sc_ClocksX_initX : FnScope ["self", "along", "up", "number"] ["self", "along", "up"] (defScope s_ClocksX_initX) := ⟨rfl, rfl, rfl, by decide +kernel, rfl, by decide +kernel, by decide +kernel⟩
theorem sc_keeps : FnScope ["lot", "pair", "p", "q"] ["lot", "pair"] (defScope s_keeps) := ⟨rfl, rfl, rfl, by decide +kernel, rfl, by decide +kernel, by decide +kernel⟩
theorem sc_kept_pairs : FnScope ["lot", "told", "along", "up", "pair"] ["lot"] (defScope s_kept_pairs) := ⟨rfl, rfl, rfl, by decide +kernel, rfl, by decide +kernel, by decide +kernel⟩
theorem sc_excludes_size : FnScope ["pair", "m", "n"] ["pair", "m", "n"] (defScope s_excludes_size) := ⟨rfl, rfl, rfl, by decide +kernel, rfl, by decide +kernel, by decide +kernel⟩
theorem sc_excluding_size : FnScope ["lot", "m", "n", "pair"] ["lot", "m", "n"] (defScope s_excluding_size) := ⟨rfl, rfl, rfl, by decide +kernel, rfl, by decide +kernel, by decide +kernel⟩
theorem sc_LotX_initX : FnScope ["self", "bricks", "seen", "at", "p", "q"] ["self", "bricks"] (defScope s_LotX_initX) := ⟨rfl, rfl, rfl, by decide +kernel, rfl, by decide +kernel, by decide +kernel⟩
theorem sc_LotX_iterX : FnScope ["self"] ["self"] (defScope s_LotX_iterX) := ⟨rfl, rfl, rfl, by decide +kernel, rfl, by decide +kernel, by decide +kernel⟩
theorem sc_look_small : FnScope ["lot", "brick", "side"] ["lot"] (defScope s_look_small) := ⟨rfl, rfl, rfl, by decide +kernel, rfl, by decide +kernel, by decide +kernel⟩
theorem sc_is_sized : FnScope ["lot", "m", "n"] ["lot", "m", "n"] (defScope s_is_sized) := ⟨rfl, rfl, rfl, by decide +kernel, rfl, by decide +kernel, by decide +kernel⟩
theorem sc__law_pool : FnScope ["script", "prime", "cell", "cells", "pool", "one", "two", "k", "three"] ["script"] (defScope s__law_pool) := ⟨rfl, rfl, rfl, by decide +kernel, rfl, by decide +kernel, by decide +kernel⟩
theorem sc__law_draw : FnScope ["pool", "limit", "at", "told"] ["pool", "limit"] (defScope s__law_draw) := ⟨rfl, rfl, rfl, by decide +kernel, rfl, by decide +kernel, by decide +kernel⟩
theorem sc__law_bricks : FnScope ["pool", "many", "bricks", "k", "brick"] ["pool", "many"] (defScope s__law_bricks) := ⟨rfl, rfl, rfl, by decide +kernel, rfl, by decide +kernel, by decide +kernel⟩
theorem sc__law_gcd : FnScope ["one", "two", "rest"] ["one", "two"] (defScope s__law_gcd) := ⟨rfl, rfl, rfl, by decide +kernel, rfl, by decide +kernel, by decide +kernel⟩
theorem sc__law_is_sum : FnScope ["coins", "m", "least", "reach", "k", "ends", "p"] ["coins", "m"] (defScope s__law_is_sum) := ⟨rfl, rfl, rfl, by decide +kernel, rfl, by decide +kernel, by decide +kernel⟩
theorem sc__law_height : FnScope ["bricks", "m", "told", "known", "mask", "some", "p", "q", "wide", "coins", "high", "k", "b"] ["bricks", "m"] (defScope s__law_height) := ⟨rfl, rfl, rfl, by decide +kernel, rfl, by decide +kernel, by decide +kernel⟩
theorem sc__law_divides : FnScope ["d", "n"] ["d", "n"] (defScope s__law_divides) := ⟨rfl, rfl, rfl, by decide +kernel, rfl, by decide +kernel, by decide +kernel⟩
theorem sc__law_keeps : FnScope ["bricks", "d", "e", "p", "q"] ["bricks", "d", "e"] (defScope s__law_keeps) := ⟨rfl, rfl, rfl, by decide +kernel, rfl, by decide +kernel, by decide +kernel⟩
theorem sc__law_excluding : FnScope ["bricks", "m", "n", "d", "e"] ["bricks", "m", "n"] (defScope s__law_excluding) := ⟨rfl, rfl, rfl, by decide +kernel, rfl, by decide +kernel, by decide +kernel⟩
theorem sc__law_side : FnScope ["pool", "kind"] ["pool"] (defScope s__law_side) := ⟨rfl, rfl, rfl, by decide +kernel, rfl, by decide +kernel, by decide +kernel⟩
theorem sc__law_asked : FnScope ["lot", "bricks", "m", "n", "high", "due", "told", "pair"] ["lot", "bricks", "m", "n", "high"] (defScope s__law_asked) := ⟨rfl, rfl, rfl, by decide +kernel, rfl, by decide +kernel, by decide +kernel⟩
theorem sc__law_paired : FnScope ["lot", "bricks", "m", "n", "due", "pair"] ["lot", "bricks", "m", "n"] (defScope s__law_paired) := ⟨rfl, rfl, rfl, by decide +kernel, rfl, by decide +kernel, by decide +kernel⟩
theorem sc__law_alone : FnScope ["pool", "p", "q", "lot", "m", "n"] ["pool", "p", "q"] (defScope s__law_alone) := ⟨rfl, rfl, rfl, by decide +kernel, rfl, by decide +kernel, by decide +kernel⟩
theorem sc__law_refusal : FnScope ["door", "lot", "m", "n", "told", "e"] ["door", "lot", "m", "n"] (defScope s__law_refusal) := ⟨rfl, rfl, rfl, by decide +kernel, rfl, by decide +kernel, by decide +kernel⟩
theorem sc__law_refusals : FnScope ["pool", "lot", "m", "n", "side", "longs", "high", "odd", "other", "number", "door"] ["pool", "lot", "m", "n"] (defScope s__law_refusals) := ⟨rfl, rfl, rfl, by decide +kernel, rfl, by decide +kernel, by decide +kernel⟩
theorem sc_law : FnScope ["script", "pool", "many", "bricks", "lot", "m", "n", "high", "even", "other", "wide"] ["script"] (defScope s_law) := ⟨rfl, rfl, rfl, by decide +kernel, rfl, by decide +kernel, by decide +kernel⟩
end FW
set_option Elab.async false
set_option linter.all false
set_option maxRecDepth 100000
set_option maxHeartbeats 0
/-! The run of the top, and the facts out of it. Printed by genplaces.py. -/
namespace FW
open PySem PySem.Spec PyProof.Rows L2 PySem.FwE
abbrev PP : Program := PySem.Challenge.pw_floorwords_k39_great_rule
def fa : List He.Fa := ([.glo "look_number", .glo "look_count", .glo "look_size", .glo "divides", .glo "is_clock", .glo "Clocks", .glo "keeps", .glo "kept_pairs", .glo "excludes_size", .glo "excluding_size", .glo "Lot", .glo "look_small", .glo "is_sized", .glo "_law_pool", .glo "_law_draw", .glo "_law_bricks", .glo "_law_gcd", .glo "_law_is_sum", .glo "_law_height", .glo "_law_divides", .glo "_law_keeps", .glo "_law_excluding", .glo "_law_side", .glo "_law_asked", .glo "_law_paired", .glo "_law_alone", .glo "_law_refusal", .glo "_law_refusals", .glo "law", .glo "NumberError", .glo "SizeError", .glo "RepeatError", .glo "LongError", .glo "FloorwordsError", .glo "KEPT_CLOCKS", .free "len", .free "range", .free "int", .free "tuple", .free "sorted"] : List He.Fa) ++ ([.free "enumerate", .free "isinstance", .free "max", .free "iter", .free "list", .free "bool", .int "MOST_HOURS" 60, .int "LONGEST" 6, .int "MOST_BRICKS" 6, .int "MOST_SIDE_kept" 10000000000000000000000000000000, .int "SMALL_SIDE" 4, .int "WIDEST" 5, .int "MOST_SIDE_great" 10000000000000000000000000000000, .exm "NumberError" "FloorwordsError" true, .exm "SizeError" "FloorwordsError" true, .exm "RepeatError" "FloorwordsError" true, .exm "LongError" "FloorwordsError" true, .cls "Clocks", .mkr "Clocks", .noat "Clocks" "along", .noat "Clocks" "up", .cls "Lot", .mkr "Lot", .noat "Lot" "bricks", .meth "Lot" "__iter__"] : List He.Fa)
def fn : List He.DefD := ([⟨("look_number", none), "look_number", "look_number", defArgs s_look_number, defBody s_look_number, defScope s_look_number, [], []⟩,
  ⟨("look_count", none), "look_count", "look_count", defArgs s_look_count, defBody s_look_count, defScope s_look_count, [], []⟩,
  ⟨("look_size", none), "look_size", "look_size", defArgs s_look_size, defBody s_look_size, defScope s_look_size, [], []⟩,
  ⟨("divides", none), "divides", "divides", defArgs s_divides, defBody s_divides, defScope s_divides, [], []⟩,
  ⟨("is_clock", none), "is_clock", "is_clock", defArgs s_is_clock, defBody s_is_clock, defScope s_is_clock, [], []⟩,
  ⟨("Clocks", some "__init__"), "__init__", "Clocks.__init__", defArgs s_ClocksX_initX, defBody s_ClocksX_initX, defScope s_ClocksX_initX, [], []⟩,
  ⟨("keeps", none), "keeps", "keeps", defArgs s_keeps, defBody s_keeps, defScope s_keeps, [], []⟩,
  ⟨("kept_pairs", none), "kept_pairs", "kept_pairs", defArgs s_kept_pairs, defBody s_kept_pairs, defScope s_kept_pairs, [], []⟩,
  ⟨("excludes_size", none), "excludes_size", "excludes_size", defArgs s_excludes_size, defBody s_excludes_size, defScope s_excludes_size, [], []⟩,
  ⟨("excluding_size", none), "excluding_size", "excluding_size", defArgs s_excluding_size, defBody s_excluding_size, defScope s_excluding_size, [], []⟩,
  ⟨("Lot", some "__init__"), "__init__", "Lot.__init__", defArgs s_LotX_initX, defBody s_LotX_initX, defScope s_LotX_initX, [], []⟩,
  ⟨("Lot", some "__iter__"), "__iter__", "Lot.__iter__", defArgs s_LotX_iterX, defBody s_LotX_iterX, defScope s_LotX_iterX, [], []⟩,
  ⟨("look_small", none), "look_small", "look_small", defArgs s_look_small, defBody s_look_small, defScope s_look_small, [], []⟩,
  ⟨("is_sized", none), "is_sized", "is_sized", defArgs s_is_sized, defBody s_is_sized, defScope s_is_sized, [], []⟩,
  ⟨("_law_pool", none), "_law_pool", "_law_pool", defArgs s__law_pool, defBody s__law_pool, defScope s__law_pool, [], []⟩,
  ⟨("_law_draw", none), "_law_draw", "_law_draw", defArgs s__law_draw, defBody s__law_draw, defScope s__law_draw, [], []⟩,
  ⟨("_law_bricks", none), "_law_bricks", "_law_bricks", defArgs s__law_bricks, defBody s__law_bricks, defScope s__law_bricks, [], []⟩,
  ⟨("_law_gcd", none), "_law_gcd", "_law_gcd", defArgs s__law_gcd, defBody s__law_gcd, defScope s__law_gcd, [], []⟩,
  ⟨("_law_is_sum", none), "_law_is_sum", "_law_is_sum", defArgs s__law_is_sum, defBody s__law_is_sum, defScope s__law_is_sum, [], []⟩,
  ⟨("_law_height", none), "_law_height", "_law_height", defArgs s__law_height, defBody s__law_height, defScope s__law_height, [], []⟩,
  ⟨("_law_divides", none), "_law_divides", "_law_divides", defArgs s__law_divides, defBody s__law_divides, defScope s__law_divides, [], []⟩,
  ⟨("_law_keeps", none), "_law_keeps", "_law_keeps", defArgs s__law_keeps, defBody s__law_keeps, defScope s__law_keeps, [], []⟩,
  ⟨("_law_excluding", none), "_law_excluding", "_law_excluding", defArgs s__law_excluding, defBody s__law_excluding, defScope s__law_excluding, [], []⟩,
  ⟨("_law_side", none), "_law_side", "_law_side", defArgs s__law_side, defBody s__law_side, defScope s__law_side, [], []⟩,
  ⟨("_law_asked", none), "_law_asked", "_law_asked", defArgs s__law_asked, defBody s__law_asked, defScope s__law_asked, [], []⟩,
  ⟨("_law_paired", none), "_law_paired", "_law_paired", defArgs s__law_paired, defBody s__law_paired, defScope s__law_paired, [], []⟩,
  ⟨("_law_alone", none), "_law_alone", "_law_alone", defArgs s__law_alone, defBody s__law_alone, defScope s__law_alone, [], []⟩,
  ⟨("_law_refusal", none), "_law_refusal", "_law_refusal", defArgs s__law_refusal, defBody s__law_refusal, defScope s__law_refusal, [], []⟩,
  ⟨("_law_refusals", none), "_law_refusals", "_law_refusals", defArgs s__law_refusals, defBody s__law_refusals, defScope s__law_refusals, [], []⟩,
  ⟨("law", none), "law", "law", defArgs s_law, defBody s_law, defScope s_law, [], []⟩] : List He.DefD)
def fe : List DefE := [(⟨"NumberError", "number", "NumberError.__init__", s_NumberError⟩ : DefE), (⟨"SizeError", "count", "SizeError.__init__", s_SizeError⟩ : DefE), (⟨"RepeatError", "at", "RepeatError.__init__", s_RepeatError⟩ : DefE), (⟨"LongError", "side", "LongError.__init__", s_LongError⟩ : DefE)]
def exL (K : PySem.W.Frag) : List Bool := ([DefE.okA K (⟨"NumberError", "number", "NumberError.__init__", s_NumberError⟩ : DefE),
  DefE.okB PP K (⟨"NumberError", "number", "NumberError.__init__", s_NumberError⟩ : DefE),
  DefE.okA K (⟨"SizeError", "count", "SizeError.__init__", s_SizeError⟩ : DefE),
  DefE.okB PP K (⟨"SizeError", "count", "SizeError.__init__", s_SizeError⟩ : DefE),
  DefE.okA K (⟨"RepeatError", "at", "RepeatError.__init__", s_RepeatError⟩ : DefE),
  DefE.okB PP K (⟨"RepeatError", "at", "RepeatError.__init__", s_RepeatError⟩ : DefE),
  DefE.okA K (⟨"LongError", "side", "LongError.__init__", s_LongError⟩ : DefE),
  DefE.okB PP K (⟨"LongError", "side", "LongError.__init__", s_LongError⟩ : DefE),
  isCB K (He.ga K "NumberError"),
  isCB K (He.ga K "SizeError"),
  isCB K (He.ga K "RepeatError"),
  isCB K (He.ga K "LongError"),
  He.eqO (PySem.W.findIn K (.ref (He.ga K "Clocks")) "__class__") (some (some (.builtin "object.__class__"))) && decide (PySem.W.specialIn K (.builtin "object.__class__") "__get__" = some (some (.builtin "getset_descriptor.__get__"))) && decide (PySem.W.takesIn K (.builtin "object.__class__") = some true) && decide (PySem.W.mroIn K (He.ga K "Clocks") (.type "object") = some true),
  He.tupB K "KEPT_CLOCKS" [.int 0, .int 2, .int 3, .int 4, .int 5, .int 6],
  decide (PySem.W.kitOne K (.ref (He.ga K "NumberError")) (.ref (He.ga K "NumberError")) = some true),
  decide (PySem.W.kitOne K (.ref (He.ga K "NumberError")) (.ref (He.ga K "LongError")) = some false),
  decide (PySem.W.kitOne K (.ref (He.ga K "LongError")) (.ref (He.ga K "LongError")) = some true),
  decide (PySem.W.kitOne K (.ref (He.ga K "LongError")) (.ref (He.ga K "NumberError")) = some false),
  decide (PySem.W.kitOne K (.ref (He.ga K "Clocks")) (.ref (He.ga K "Clocks")) = some true),
  decide (PySem.W.kitOne K (.type "bool") (.type "bool") = some true),
  decide (PySem.W.kitOne K (.type "NoneType") (.ref (He.ga K "Clocks")) = some false)] : List Bool)
def ex (K : PySem.W.Frag) : Bool := (exL K).all id
theorem exL_at {K : PySem.W.Frag} (h : ex K = true) (i : Nat) {b : Bool} (e : (exL K)[i]? = some b) : b = true := List.all_eq_true.mp h b (List.mem_of_getElem? e)
abbrev R : PySem.W.OpenRow := PySem.W.OpenLaw.row PySem.Challenge.rw_floorwords_k39_great_rule
abbrev hk : PySem.W.Hook := hookF 6 fa fn fe ex
def ob (s : PySem.W.SharedT) : AlF := obsG 6 fa fn fe ex (HandSHeadRun.getT s)
theorem ob_eq (s : PySem.W.SharedT) : ob s = hk.obs s.abs := obsG_eq (HandSHeadRun.getT_eq s)
def names : List PySem.Str := (["_wall", "FloorwordsError", "NumberError", "SizeError", "TextError", "RepeatError", "LongError", "look_number", "look_count", "look_size", "divides", "DIGITS", "MOST_DIGITS", "consists_of", "int_of", "ints_of", "MOST_HOURS", "is_clock", "Clocks", "LONGEST", "MOST_BRICKS", "bricks_text", "read_bricks", "KEPT_CLOCKS", "MOST_SIDE_kept", "keeps", "kept_pairs", "excludes_size", "excluding_size", "SMALL_SIDE"] : List PySem.Str) ++ (["Lot", "look_small", "WIDEST", "fitting_bricks", "steps_from", "MOST_BASE", "MOST_LENGTH", "next_skylines", "next_level", "base_of", "lengths", "is_good", "MOST_SIDE_great", "is_sized", "_law_pool", "_law_draw", "_law_bricks", "_law_gcd", "_law_is_sum", "_law_height", "_law_divides", "_law_keeps", "_law_excluding", "_law_side", "_law_asked", "_law_paired", "_law_alone", "_law_refusal", "_law_refusals"] : List PySem.Str)
theorem run (w : World) : HandSHeadRun.RunEq R (PySem.W.view R.prog [71]) hk ob 15000 names w := by
  intro os
  kernel_rfl
theorem st_NumberError : ErrSt PP "number" s_NumberError := { syn := ⟨_, _, _, _, _, _, _, _, _, _, _, _, _, _, rfl, rfl, ⟨fun _ _ _ _ _ _ _ _ _ => rfl, fun _ _ _ _ _ _ _ _ _ => ⟨_, rfl⟩, fun _ _ _ _ _ _ _ _ _ => rfl, fun _ _ _ _ _ _ _ _ _ => rfl⟩⟩, sc := rfl, top := by decide +kernel, nfs := by decide +kernel, kS := by decide +kernel, kK := by decide +kernel, kI := by decide +kernel, kF := by decide +kernel, dbg := by decide +kernel }
theorem st_SizeError : ErrSt PP "count" s_SizeError := { syn := ⟨_, _, _, _, _, _, _, _, _, _, _, _, _, _, rfl, rfl, ⟨fun _ _ _ _ _ _ _ _ _ => rfl, fun _ _ _ _ _ _ _ _ _ => ⟨_, rfl⟩, fun _ _ _ _ _ _ _ _ _ => rfl, fun _ _ _ _ _ _ _ _ _ => rfl⟩⟩, sc := rfl, top := by decide +kernel, nfs := by decide +kernel, kS := by decide +kernel, kK := by decide +kernel, kI := by decide +kernel, kF := by decide +kernel, dbg := by decide +kernel }
theorem st_RepeatError : ErrSt PP "at" s_RepeatError := { syn := ⟨_, _, _, _, _, _, _, _, _, _, _, _, _, _, rfl, rfl, ⟨fun _ _ _ _ _ _ _ _ _ => rfl, fun _ _ _ _ _ _ _ _ _ => ⟨_, rfl⟩, fun _ _ _ _ _ _ _ _ _ => rfl, fun _ _ _ _ _ _ _ _ _ => rfl⟩⟩, sc := rfl, top := by decide +kernel, nfs := by decide +kernel, kS := by decide +kernel, kK := by decide +kernel, kI := by decide +kernel, kF := by decide +kernel, dbg := by decide +kernel }
theorem st_LongError : ErrSt PP "side" s_LongError := { syn := ⟨_, _, _, _, _, _, _, _, _, _, _, _, _, _, rfl, rfl, ⟨fun _ _ _ _ _ _ _ _ _ => rfl, fun _ _ _ _ _ _ _ _ _ => ⟨_, rfl⟩, fun _ _ _ _ _ _ _ _ _ => rfl, fun _ _ _ _ _ _ _ _ _ => rfl⟩⟩, sc := rfl, top := by decide +kernel, nfs := by decide +kernel, kS := by decide +kernel, kK := by decide +kernel, kI := by decide +kernel, kF := by decide +kernel, dbg := by decide +kernel }
theorem tx_of {K : PySem.W.Frag} {h : Heap} {mg : Str → Option Value} (X : K.In h) (G : h.Ns mainGlobals mg) (c : Says fa fn fe ex K) : Tx PP K mg :=
  have EX (i : Nat) {b : Bool} (e : (exL K)[i]? = some b := by rfl) : b = true := exL_at c.more i e
  {
    m_look_number := He.glo_ok X G (c.d.fact 0 (f := .glo "look_number") rfl)
    m_look_count := He.glo_ok X G (c.d.fact 1 (f := .glo "look_count") rfl)
    m_look_size := He.glo_ok X G (c.d.fact 2 (f := .glo "look_size") rfl)
    m_divides := He.glo_ok X G (c.d.fact 3 (f := .glo "divides") rfl)
    m_is_clock := He.glo_ok X G (c.d.fact 4 (f := .glo "is_clock") rfl)
    m_Clocks := He.glo_ok X G (c.d.fact 5 (f := .glo "Clocks") rfl)
    m_keeps := He.glo_ok X G (c.d.fact 6 (f := .glo "keeps") rfl)
    m_kept_pairs := He.glo_ok X G (c.d.fact 7 (f := .glo "kept_pairs") rfl)
    m_excludes_size := He.glo_ok X G (c.d.fact 8 (f := .glo "excludes_size") rfl)
    m_excluding_size := He.glo_ok X G (c.d.fact 9 (f := .glo "excluding_size") rfl)
    m_Lot := He.glo_ok X G (c.d.fact 10 (f := .glo "Lot") rfl)
    m_look_small := He.glo_ok X G (c.d.fact 11 (f := .glo "look_small") rfl)
    m_is_sized := He.glo_ok X G (c.d.fact 12 (f := .glo "is_sized") rfl)
    m__law_pool := He.glo_ok X G (c.d.fact 13 (f := .glo "_law_pool") rfl)
    m__law_draw := He.glo_ok X G (c.d.fact 14 (f := .glo "_law_draw") rfl)
    m__law_bricks := He.glo_ok X G (c.d.fact 15 (f := .glo "_law_bricks") rfl)
    m__law_gcd := He.glo_ok X G (c.d.fact 16 (f := .glo "_law_gcd") rfl)
    m__law_is_sum := He.glo_ok X G (c.d.fact 17 (f := .glo "_law_is_sum") rfl)
    m__law_height := He.glo_ok X G (c.d.fact 18 (f := .glo "_law_height") rfl)
    m__law_divides := He.glo_ok X G (c.d.fact 19 (f := .glo "_law_divides") rfl)
    m__law_keeps := He.glo_ok X G (c.d.fact 20 (f := .glo "_law_keeps") rfl)
    m__law_excluding := He.glo_ok X G (c.d.fact 21 (f := .glo "_law_excluding") rfl)
    m__law_side := He.glo_ok X G (c.d.fact 22 (f := .glo "_law_side") rfl)
    m__law_asked := He.glo_ok X G (c.d.fact 23 (f := .glo "_law_asked") rfl)
    m__law_paired := He.glo_ok X G (c.d.fact 24 (f := .glo "_law_paired") rfl)
    m__law_alone := He.glo_ok X G (c.d.fact 25 (f := .glo "_law_alone") rfl)
    m__law_refusal := He.glo_ok X G (c.d.fact 26 (f := .glo "_law_refusal") rfl)
    m__law_refusals := He.glo_ok X G (c.d.fact 27 (f := .glo "_law_refusals") rfl)
    m_law := He.glo_ok X G (c.d.fact 28 (f := .glo "law") rfl)
    m_NumberError := He.glo_ok X G (c.d.fact 29 (f := .glo "NumberError") rfl)
    m_SizeError := He.glo_ok X G (c.d.fact 30 (f := .glo "SizeError") rfl)
    m_RepeatError := He.glo_ok X G (c.d.fact 31 (f := .glo "RepeatError") rfl)
    m_LongError := He.glo_ok X G (c.d.fact 32 (f := .glo "LongError") rfl)
    m_FloorwordsError := He.glo_ok X G (c.d.fact 33 (f := .glo "FloorwordsError") rfl)
    m_KEPT_CLOCKS := He.glo_ok X G (c.d.fact 34 (f := .glo "KEPT_CLOCKS") rfl)
    d_look_number := c.d.def_ 0 (d := ⟨("look_number", none), "look_number", "look_number", defArgs s_look_number, defBody s_look_number, defScope s_look_number, [], []⟩) rfl
    d_look_count := c.d.def_ 1 (d := ⟨("look_count", none), "look_count", "look_count", defArgs s_look_count, defBody s_look_count, defScope s_look_count, [], []⟩) rfl
    d_look_size := c.d.def_ 2 (d := ⟨("look_size", none), "look_size", "look_size", defArgs s_look_size, defBody s_look_size, defScope s_look_size, [], []⟩) rfl
    d_divides := c.d.def_ 3 (d := ⟨("divides", none), "divides", "divides", defArgs s_divides, defBody s_divides, defScope s_divides, [], []⟩) rfl
    d_is_clock := c.d.def_ 4 (d := ⟨("is_clock", none), "is_clock", "is_clock", defArgs s_is_clock, defBody s_is_clock, defScope s_is_clock, [], []⟩) rfl
    d_ClocksX_initX := c.d.def_ 5 (d := ⟨("Clocks", some "__init__"), "__init__", "Clocks.__init__", defArgs s_ClocksX_initX, defBody s_ClocksX_initX, defScope s_ClocksX_initX, [], []⟩) rfl
    d_keeps := c.d.def_ 6 (d := ⟨("keeps", none), "keeps", "keeps", defArgs s_keeps, defBody s_keeps, defScope s_keeps, [], []⟩) rfl
    d_kept_pairs := c.d.def_ 7 (d := ⟨("kept_pairs", none), "kept_pairs", "kept_pairs", defArgs s_kept_pairs, defBody s_kept_pairs, defScope s_kept_pairs, [], []⟩) rfl
    d_excludes_size := c.d.def_ 8 (d := ⟨("excludes_size", none), "excludes_size", "excludes_size", defArgs s_excludes_size, defBody s_excludes_size, defScope s_excludes_size, [], []⟩) rfl
    d_excluding_size := c.d.def_ 9 (d := ⟨("excluding_size", none), "excluding_size", "excluding_size", defArgs s_excluding_size, defBody s_excluding_size, defScope s_excluding_size, [], []⟩) rfl
    d_LotX_initX := c.d.def_ 10 (d := ⟨("Lot", some "__init__"), "__init__", "Lot.__init__", defArgs s_LotX_initX, defBody s_LotX_initX, defScope s_LotX_initX, [], []⟩) rfl
    d_LotX_iterX := c.d.def_ 11 (d := ⟨("Lot", some "__iter__"), "__iter__", "Lot.__iter__", defArgs s_LotX_iterX, defBody s_LotX_iterX, defScope s_LotX_iterX, [], []⟩) rfl
    d_look_small := c.d.def_ 12 (d := ⟨("look_small", none), "look_small", "look_small", defArgs s_look_small, defBody s_look_small, defScope s_look_small, [], []⟩) rfl
    d_is_sized := c.d.def_ 13 (d := ⟨("is_sized", none), "is_sized", "is_sized", defArgs s_is_sized, defBody s_is_sized, defScope s_is_sized, [], []⟩) rfl
    d__law_pool := c.d.def_ 14 (d := ⟨("_law_pool", none), "_law_pool", "_law_pool", defArgs s__law_pool, defBody s__law_pool, defScope s__law_pool, [], []⟩) rfl
    d__law_draw := c.d.def_ 15 (d := ⟨("_law_draw", none), "_law_draw", "_law_draw", defArgs s__law_draw, defBody s__law_draw, defScope s__law_draw, [], []⟩) rfl
    d__law_bricks := c.d.def_ 16 (d := ⟨("_law_bricks", none), "_law_bricks", "_law_bricks", defArgs s__law_bricks, defBody s__law_bricks, defScope s__law_bricks, [], []⟩) rfl
    d__law_gcd := c.d.def_ 17 (d := ⟨("_law_gcd", none), "_law_gcd", "_law_gcd", defArgs s__law_gcd, defBody s__law_gcd, defScope s__law_gcd, [], []⟩) rfl
    d__law_is_sum := c.d.def_ 18 (d := ⟨("_law_is_sum", none), "_law_is_sum", "_law_is_sum", defArgs s__law_is_sum, defBody s__law_is_sum, defScope s__law_is_sum, [], []⟩) rfl
    d__law_height := c.d.def_ 19 (d := ⟨("_law_height", none), "_law_height", "_law_height", defArgs s__law_height, defBody s__law_height, defScope s__law_height, [], []⟩) rfl
    d__law_divides := c.d.def_ 20 (d := ⟨("_law_divides", none), "_law_divides", "_law_divides", defArgs s__law_divides, defBody s__law_divides, defScope s__law_divides, [], []⟩) rfl
    d__law_keeps := c.d.def_ 21 (d := ⟨("_law_keeps", none), "_law_keeps", "_law_keeps", defArgs s__law_keeps, defBody s__law_keeps, defScope s__law_keeps, [], []⟩) rfl
    d__law_excluding := c.d.def_ 22 (d := ⟨("_law_excluding", none), "_law_excluding", "_law_excluding", defArgs s__law_excluding, defBody s__law_excluding, defScope s__law_excluding, [], []⟩) rfl
    d__law_side := c.d.def_ 23 (d := ⟨("_law_side", none), "_law_side", "_law_side", defArgs s__law_side, defBody s__law_side, defScope s__law_side, [], []⟩) rfl
    d__law_asked := c.d.def_ 24 (d := ⟨("_law_asked", none), "_law_asked", "_law_asked", defArgs s__law_asked, defBody s__law_asked, defScope s__law_asked, [], []⟩) rfl
    d__law_paired := c.d.def_ 25 (d := ⟨("_law_paired", none), "_law_paired", "_law_paired", defArgs s__law_paired, defBody s__law_paired, defScope s__law_paired, [], []⟩) rfl
    d__law_alone := c.d.def_ 26 (d := ⟨("_law_alone", none), "_law_alone", "_law_alone", defArgs s__law_alone, defBody s__law_alone, defScope s__law_alone, [], []⟩) rfl
    d__law_refusal := c.d.def_ 27 (d := ⟨("_law_refusal", none), "_law_refusal", "_law_refusal", defArgs s__law_refusal, defBody s__law_refusal, defScope s__law_refusal, [], []⟩) rfl
    d__law_refusals := c.d.def_ 28 (d := ⟨("_law_refusals", none), "_law_refusals", "_law_refusals", defArgs s__law_refusals, defBody s__law_refusals, defScope s__law_refusals, [], []⟩) rfl
    d_law := c.d.def_ 29 (d := ⟨("law", none), "law", "law", defArgs s_law, defBody s_law, defScope s_law, [], []⟩) rfl
    f_len := He.free_ok X G (c.d.fact 35 (f := .free "len") rfl)
    f_range := He.free_ok X G (c.d.fact 36 (f := .free "range") rfl)
    f_int := He.free_ok X G (c.d.fact 37 (f := .free "int") rfl)
    f_tuple := He.free_ok X G (c.d.fact 38 (f := .free "tuple") rfl)
    f_sorted := He.free_ok X G (c.d.fact 39 (f := .free "sorted") rfl)
    f_enumerate := He.free_ok X G (c.d.fact 40 (f := .free "enumerate") rfl)
    f_isinstance := He.free_ok X G (c.d.fact 41 (f := .free "isinstance") rfl)
    f_max := He.free_ok X G (c.d.fact 42 (f := .free "max") rfl)
    f_iter := He.free_ok X G (c.d.fact 43 (f := .free "iter") rfl)
    f_list := He.free_ok X G (c.d.fact 44 (f := .free "list") rfl)
    f_bool := He.free_ok X G (c.d.fact 45 (f := .free "bool") rfl)
    c_MOST_HOURS := He.int_ok X G (c.d.fact 46 (f := .int "MOST_HOURS" 60) rfl)
    c_LONGEST := He.int_ok X G (c.d.fact 47 (f := .int "LONGEST" 6) rfl)
    c_MOST_BRICKS := He.int_ok X G (c.d.fact 48 (f := .int "MOST_BRICKS" 6) rfl)
    c_MOST_SIDE_kept := He.int_ok X G (c.d.fact 49 (f := .int "MOST_SIDE_kept" 10000000000000000000000000000000) rfl)
    c_SMALL_SIDE := He.int_ok X G (c.d.fact 50 (f := .int "SMALL_SIDE" 4) rfl)
    c_WIDEST := He.int_ok X G (c.d.fact 51 (f := .int "WIDEST" 5) rfl)
    c_MOST_SIDE_great := He.int_ok X G (c.d.fact 52 (f := .int "MOST_SIDE_great" 10000000000000000000000000000000) rfl)
    e_NumberError := DefE.txt (d := (⟨"NumberError", "number", "NumberError.__init__", s_NumberError⟩ : DefE)) X G (c.err 0 rfl) (EX 0) (EX 1) st_NumberError
    e_SizeError := DefE.txt (d := (⟨"SizeError", "count", "SizeError.__init__", s_SizeError⟩ : DefE)) X G (c.err 1 rfl) (EX 2) (EX 3) st_SizeError
    e_RepeatError := DefE.txt (d := (⟨"RepeatError", "at", "RepeatError.__init__", s_RepeatError⟩ : DefE)) X G (c.err 2 rfl) (EX 4) (EX 5) st_RepeatError
    e_LongError := DefE.txt (d := (⟨"LongError", "side", "LongError.__init__", s_LongError⟩ : DefE)) X G (c.err 3 rfl) (EX 6) (EX 7) st_LongError
    x_NumberError := He.exm_ok (c.d.fact 53 (f := .exm "NumberError" "FloorwordsError" true) rfl)
    i_NumberError := isCB_ok (EX 8)
    x_SizeError := He.exm_ok (c.d.fact 54 (f := .exm "SizeError" "FloorwordsError" true) rfl)
    i_SizeError := isCB_ok (EX 9)
    x_RepeatError := He.exm_ok (c.d.fact 55 (f := .exm "RepeatError" "FloorwordsError" true) rfl)
    i_RepeatError := isCB_ok (EX 10)
    x_LongError := He.exm_ok (c.d.fact 56 (f := .exm "LongError" "FloorwordsError" true) rfl)
    i_LongError := isCB_ok (EX 11)
    cl_Clocks := He.cls_ok (c.d.fact 57 (f := .cls "Clocks") rfl)
    mk_Clocks := He.mkr_ok (c.d.fact 58 (f := .mkr "Clocks") rfl)
    na_Clocks_along := He.noat_ok (c.d.fact 59 (f := .noat "Clocks" "along") rfl)
    na_Clocks_up := He.noat_ok (c.d.fact 60 (f := .noat "Clocks" "up") rfl)
    ty_Clocks := fun H a dx fs e => (by
      have z := EX 12
      simp only [Bool.and_eq_true, decide_eq_true_eq] at z
      obtain ⟨⟨⟨z1, z2⟩, z3⟩, z4⟩ := z
      exact .base (.ins e (He.cls_ok (c.d.fact 57 (f := .cls "Clocks") rfl)) (He.eqO_ok z1) z2 z3 z4))
    cl_Lot := He.cls_ok (c.d.fact 61 (f := .cls "Lot") rfl)
    mk_Lot := He.mkr_ok (c.d.fact 62 (f := .mkr "Lot") rfl)
    na_Lot_bricks := He.noat_ok (c.d.fact 63 (f := .noat "Lot" "bricks") rfl)
    me_Lot_XiterX := He.meth_ok (c.d.fact 64 (f := .meth "Lot" "__iter__") rfl)
    t_KEPT_CLOCKS := fun H => He.tupB_ok (EX 13) H
    k_NumberError_NumberError := of_decide_eq_true (EX 14)
    k_NumberError_LongError := of_decide_eq_true (EX 15)
    k_LongError_LongError := of_decide_eq_true (EX 16)
    k_LongError_NumberError := of_decide_eq_true (EX 17)
    k_Clocks_Clocks := of_decide_eq_true (EX 18)
    k_Tbool_Tbool := of_decide_eq_true (EX 19)
    k_TNoneType_Clocks := of_decide_eq_true (EX 20)
  }
end FW
set_option Elab.async false
set_option linter.all false
set_option maxRecDepth 100000
set_option maxHeartbeats 2000000
/-! for x in o, where o's own __iter__ returns iter(self.f), f a tuple. -/
namespace FW
open PySem PySem.Spec PyProof.Rows L2
/-- a tuple's iterator -/
def TItO (t it : Addr) (i : Nat) : HO := .ext fun h => h.IsTupleIter it t i
theorem tItO_ok {P : Program} {w : World} {H : Hp} {h : Heap} {t it : Addr} {i : Nat} (e : h.IsTupleIter it t i) : ObjOk P w H h it (TItO t it i) := by
  obtain ⟨o, e1, e2⟩ := id e
  exact ⟨e, ⟨o, e1⟩, fun h1 h2 q k => q.at fun o z => k _ z⟩
/-- iter(t), t a tuple: an iterator that is no older than n -/
def rIterT (K : PySem.W.Frag) (n : Nat) : List V → Hp → VK → Prop := fun xs H Q => ∃ (t : Addr) (zs : List V), xs = [.ref t] ∧ SqT K H t zs ∧ ∀ it, H it = none → n ≤ it → Q (.ref it) (upd H it (TItO t it 0))
section
variable {X : Cx}
theorem call_iterT : CallR X (.builtin "iter") (rIterT X.K X.s_0.heap.objs.size) := by
  intro pins s σ H xs us Q I r h
  obtain ⟨t, zs, rfl, hq, q⟩ := h
  obtain ⟨u, rfl, ru⟩ := vals1 r
  cases ru
  obtain ⟨its, rv, pl, hz⟩ := I.tuple hq
  refine Calls.call_function_entry (by decide +kernel) (by decide +kernel) PySem.W.kdk_entry_iter (PySem.W.kdk_args_iter _) ?_
  unfold Builtin.«iter»
  refine wpAny_bind (m := someArgs "iter" 1 2 _) (wpAny_of_eq (a := [Value.ref t]) (by first | rfl | kernel_rfl!) ?_)
  show wpAny _ _ (pyIter (.ref t) >>= _) _ _ _
  refine wpAny_bind (wpAny_pyIter_tuple (show s.heap.IsTuple t its.toArray from pl) ?_)
  refine wpAny_pure ⟨_, rfl, ?_⟩
  exact ⟨.ref s.heap.objs.size, _, I.laid (t' := s.toks) (fun b u e => Heap.get?_push_of_some _ e) (Nat.le_refl _) (tItO_ok ⟨_, Heap.get?_push_size _ rfl, rfl, rfl⟩), rfl, q _ (I.hok.fresh (Nat.le_refl _)) I.sz⟩
end
/-- a def runs at one state -/
theorem fn_run {CX : CXT} {P : Program} {w : World} {K : PySem.W.Frag} {mg : Str → Option Value} {base : Heap} {k : Nat} {f : Addr} {x qual : Str} {params : Arguments} {body : List Stmt} {scope : Scope} {dvs : List V} {kws : List (Str × V)} {fd : FuncData} {N ps : List Str}
    {A : Around} {outer : List Env} {s : Shared} {H : Hp} {args : Args} {us : List Value} {vs : List V} {Q : VK} {E : XK} (F : FunD K x qual params body scope dvs kws f fd) (S : FnScope N ps scope) (hl : vs.length = ps.length)
    (hr : Room (k + 1) A) (e0 : Env0 P w K mg base A outer s H) (hb : BindsTo s fd args (ps.zip us)) (r : Vals vs us)
    (hbody : ∀ cdv, Room k (A.deeper (envOfC qual scope s.heap.objs.size f cdv)) → ∃ t, PSs (cxOf CX P w K mg base N qual scope f cdv A outer s H E) body t ∧ t { nx := fun _ H' => Q .non H', rt := Q } (start N vs) H) :
    codeAny (model P w) A (.call (.ref f) args) (CR CX outer P w H s Q E) s := by
  obtain ⟨oc, od, dV, kV, doc, pm, an, cdv, ct, osl, rfl, lk, hcd, _, _⟩ := F.ex
  have KX : K.In s.heap := e0.mod.kin.keeps fun b o e => (e0.bs b o e).1
  have hk : ∀ y ∈ ps.zip us, scope.names.lookup y.1 = some .local ∨ (scope.names.lookup y.1 = some .cell ∧ ((cellsFrom (s.heap.objs.size + 1) scope.names []).lookup y.1).isSome = true) := fun y hy =>
    (S.par y.1 (List.of_mem_zip hy).1).elim .inl fun q => .inr ⟨q, PySem.W.cellsFrom_some _ _ _ (.inl q)⟩
  refine codeAny_call_function hr.depth (KX _ _ lk) rfl S.co S.gen rfl (PySem.W.codeRec_of KX hcd) (hb _ _ _ _ (wpAny_newFunctionEnv_cells S.kind hk fun env he s1 x => ?_))
  subst he
  obtain ⟨t, ht, hq⟩ := hbody cdv (hr.deeper _)
  refine ⟨(e0.mod.nolimit.keeps fun b o e => (e0.bs b o e).1).keeps x.toInCall.keep, codeAny_func (wpAny_mono (ht.run [] s1 (start N vs) H _ (inv_start S hr.hd e0 hl r x) hq) (fun fl s' hs => ?_) fun e s' hs => hs)⟩
  match fl, hs with
  | .ret u, ⟨v, _, H', J, rv, q⟩ => exact ⟨v, H', J.os, J.bare, J.base, J.hok, rv, q⟩
  | .next, ⟨_, H', J, q⟩ => exact ⟨V.non, H', J.os, J.bare, J.base, J.hok, rfl, q⟩
  | .brk, ⟨_, _, _, q⟩ => exact q.elim
  | .cont, ⟨_, _, _, q⟩ => exact q.elim
/-- what is walked: the tuple in the field f of an instance of C -/
def iOwn (K : PySem.W.Frag) (C : Addr) (f : Str) (te : TE) : TI := fun σ H R => te σ H fun x H1 => ∃ a dx fs t xs, x = .ref a ∧ H1 a = some (.ins C dx fs) ∧ fs.lookup f = some (.ref t) ∧ SqT K H1 t xs ∧ R (Itt K t) H1
/-- the text of such an __iter__, read -/
def tItf (K : PySem.W.Frag) (f : Str) (n : Nat) : TS := tRet (tCB (rIterT K n) (tCons (tFld K (tVar 0) f) tNil))
section
variable {X : Cx} {tg e : Expr} {te : TE} {C fI : Addr} {f qual : Str} {params : Arguments} {body : List Stmt} {scope : Scope} {fd : FuncData} {k : Nat}
theorem pi_own (cl : Cls X.K C) (na : NoAttr X.K C f) (me : Meth X.K C "__iter__" fI) (F : FunD X.K "__iter__" qual params body scope [] [] fI fd) (S : FnScope ["self"] ["self"] scope) (bI : Binds X.K fd ["self"] []) (hr : Room (k + 1) X.A)
    (hb : ∀ cdv A outer s H E, PSs (cxOf CX0 X.prog X.w X.K X.mg X.base ["self"] qual scope fI cdv A outer s H E) body (tItf X.K f s.heap.objs.size)) (he : PE X e te) : PI X tg e (iOwn X.K C f te) := by
  refine ⟨fun pins s σ H R I h => ?_⟩
  refine thn (he.run pins s σ H _ I h) fun v s1 ⟨x, H1, I1, r1, a, dx, fs, t, xs, ex, ea, lf, ht, q⟩ => ?_
  subst ex
  obtain rfl : v = Value.ref a := r1
  obtain ⟨mA, J, _⟩ := ins_get I1.hok ea
  obtain ⟨od, J, _⟩ := J.look
  obtain ⟨m0, hF⟩ := I1.fr
  refine PySem.W.owit_iter hF I1.ok.mod.kin J me.at_ me.fn ?_
  have r2 : Vals [V.ref a] [Value.ref a] := .cons rfl .nil
  refine wpAny_call (codeAny_mono (fn_run (CX := CX0) (P := X.prog) (w := X.w) (K := X.K) (mg := X.mg) (base := X.base) (H := H1) (us := [Value.ref a]) (vs := [V.ref a]) (E := fun _ _ _ => False)
    (Q := fun v H' => ∃ it, v = .ref it ∧ H1 it = none ∧ s1.heap.objs.size ≤ it ∧ H' = upd H1 it (TItO t it 0)) F S rfl hr I1.env0 (by have := bI s1 [.ref a] I1.kIn rfl; simpa using this) r2 (fun cdv hrr => ⟨_, hb cdv _ _ _ _ _, ?_⟩)) fun r s' hq' => ?_)
  · refine ⟨_, rfl, a, C, dx, fs, _, rfl, ea, cl, na, lf, t, xs, rfl, ht, fun it h1 h2 => ⟨it, rfl, h1, h2, rfl⟩⟩
  · cases r with
    | error e => exact False.elim hq'
    | ok fl =>
      cases fl with
      | next => exact False.elim hq'
      | brk => exact False.elim hq'
      | cont => exact False.elim hq'
      | ret u =>
        obtain ⟨v, H', I', rv, it, ev, n1, n2, eH⟩ := I1.after hq'
        subst ev eH
        obtain rfl : u = Value.ref it := rv
        have hi : upd H1 it (TItO t it 0) it = some (.ext fun h => h.IsTupleIter it t 0) := upd_same
        have st : s'.heap.IsTupleIter it t 0 := (I'.hok it _ hi).1
        have I2 := ItX.inv_drop I' hi
        have fp := ItX.inv_fp I' hi (Nat.le_trans I1.sz n2)
        rw [ItX.dropH_upd n1] at I2 fp
        refine wpAny_specialOf (T := "tuple_iterator") st.typeIs PySem.F.slot_tuple_iterator_next.lookup ?_
        exact ⟨it, [it], _, _, H1, rfl, I2, turn_tuple t it, st, fun b hbm => by
          have eb : b = it := by simpa using hbm
          rw [eb]
          exact fp, q⟩
end
end FW
set_option Elab.async false
set_option linter.all false
set_option maxRecDepth 100000
set_option maxHeartbeats 2000000
/-! Loops and comprehensions behind the reading of what is walked: by a word over the turn. -/
namespace FW
open PySem PySem.Spec PyProof.Rows L2
theorem cxK {CX : CXT} {P : Program} {w : World} {K : PySem.W.Frag} {mg : Str → Option Value} {base : Heap} {N : List Str} {qual : Str} {scope : Scope} {f : Addr} {cdv : Value} {A : Around} {outer : List Env} {s : Shared} {H : Hp} {E : XK} :
    (cxOf CX P w K mg base N qual scope f cdv A outer s H E).K = K := rfl
/-- the walk over J, from its turn 0 on -/
def LoopW (J : It) (g : TG) (tb : TS) (D : Ends) (σ : L2.St) (H : Hp) : Prop :=
  ∃ W : Nat → Nat → L2.St → Hp → Prop, (∃ m, W 0 m σ H) ∧ ∀ i m σ H, W i m σ H →
    (J.stop i H ∧ D.nx σ H) ∨ (J.go i H ∧ ∃ N : L2.St → Hp → Prop, (∀ σ' H', N σ' H' → ∃ m', m' < m ∧ W (i + 1) m' σ' H') ∧ ∀ x H', J.yld i H x H' → g x σ H' fun σ2 H2 => tb { D with nx := N, ct := N, bk := D.nx } σ2 H2)
theorem tFor_eq (wi : TI) (g : TG) (tb : TS) (D : Ends) (σ : L2.St) (H : Hp) : tFor wi g tb D σ H = wi σ H fun J H1 => LoopW J g tb D σ H1 := rfl
/-- the walk of a comprehension over J into the new list at D -/
def LcW (J : It) (g : TG) (tt : TT) (te : TE) (vs : List Nat) (σ : L2.St) (D : Addr) (H1 : Hp) (Q : Hp → Prop) : Prop :=
  ∃ W : Nat → Nat → Hp → Prop, (∃ m, W 0 m (upd H1 D (.lst []))) ∧ ∀ i m H, W i m H →
  (J.stop i H ∧ Q H) ∨ (J.go i H ∧ ∃ Nx : Hp → Prop, (∀ H', Nx H' → ∃ m', m' < m ∧ W (i + 1) m' H') ∧ ∀ x H', J.yld i H x H' → g x (wipe σ vs) H' fun σ2 H2 => wipe σ2 vs = wipe σ vs ∧ tt σ2 H2 fun b H3 =>
    if b = true then te σ2 H3 fun y H4 => ∃ acc, H4 D = some (.lst acc) ∧ acc.length < sizeLine ∧ Nx (upd H4 D (.lst (acc ++ [y]))) else Nx H3)
theorem tLc_eq (wi : TI) (g : TG) (tt : TT) (te : TE) (vs : List Nat) (σ : L2.St) (H : Hp) (Q : VK) : tLc wi g tt te vs σ H Q = wi σ H fun J H1 => ∀ D, H1 D = none → LcW J g tt te vs σ D H1 fun H2 => Q (.ref D) H2 := rfl
section
variable {J : It} {g : TG} {tb : TS} {D : Ends} {σ : L2.St} {H : Hp} {tt : TT} {te : TE} {vs : List Nat}
theorem loopN (n : Nat) (Pv : Nat → L2.St → Hp → Prop) (h0 : Pv 0 σ H) (hgo : ∀ i σ H, i < n → Pv i σ H → J.go i H)
    (hs : ∀ i σ H x H', i < n → Pv i σ H → J.yld i H x H' → g x σ H' fun σ2 H2 => tb { D with nx := Pv (i + 1), ct := Pv (i + 1), bk := D.nx } σ2 H2) (hst : ∀ σ H, Pv n σ H → J.stop n H) (hd : ∀ σ H, Pv n σ H → D.nx σ H) : LoopW J g tb D σ H := by
  refine ⟨fun i m σ H => m = n - i ∧ i ≤ n ∧ Pv i σ H, ⟨n, rfl, Nat.zero_le _, h0⟩, ?_⟩
  rintro i m σ H ⟨rfl, hi, p⟩
  by_cases h : i < n
  · exact .inr ⟨hgo i σ H h p, Pv (i + 1), fun σ' H' p' => ⟨n - (i + 1), by omega, rfl, h, p'⟩, fun x H' y => hs i σ H x H' h p y⟩
  · obtain rfl : i = n := by omega
    exact .inl ⟨hst σ H p, hd σ H p⟩
theorem lcN {Q : Hp → Prop} {Dl : Addr} (n : Nat) (Pv : Nat → Hp → Prop) (h0 : Pv 0 (upd H Dl (.lst []))) (hgo : ∀ i H, i < n → Pv i H → J.go i H)
    (hs : ∀ i H x H', i < n → Pv i H → J.yld i H x H' → g x (wipe σ vs) H' fun σ2 H2 => wipe σ2 vs = wipe σ vs ∧ tt σ2 H2 fun b H3 =>
      if b = true then te σ2 H3 fun y H4 => ∃ acc, H4 Dl = some (.lst acc) ∧ acc.length < sizeLine ∧ Pv (i + 1) (upd H4 Dl (.lst (acc ++ [y]))) else Pv (i + 1) H3) (hst : ∀ H, Pv n H → J.stop n H) (hd : ∀ H, Pv n H → Q H) : LcW J g tt te vs σ Dl H Q := by
  refine ⟨fun i m H => m = n - i ∧ i ≤ n ∧ Pv i H, ⟨n, rfl, Nat.zero_le _, h0⟩, ?_⟩
  rintro i m H ⟨rfl, hi, p⟩
  by_cases h : i < n
  · exact .inr ⟨hgo i H h p, Pv (i + 1), fun H' p' => ⟨n - (i + 1), by omega, rfl, h, p'⟩, fun x H' y => hs i H x H' h p y⟩
  · obtain rfl : i = n := by omega
    exact .inl ⟨hst H p, hd H p⟩
variable {K : PySem.W.Frag} {a : Addr} {xs : List V}
/-- over a list that stands -/
theorem loopL (xs : List V) (Pv : Nat → L2.St → Hp → Prop) (h0 : Pv 0 σ H) (hl : ∀ i σ H, i ≤ xs.length → Pv i σ H → SqL K H a xs)
    (hs : ∀ i x σ H, xs[i]? = some x → Pv i σ H → g x σ H fun σ2 H2 => tb { D with nx := Pv (i + 1), ct := Pv (i + 1), bk := D.nx } σ2 H2) (hd : ∀ σ H, Pv xs.length σ H → D.nx σ H) : LoopW (Itl K a) g tb D σ H :=
  loopN xs.length Pv h0 (fun i σ H h p => ⟨xs, xs[i], hl i σ H (Nat.le_of_lt h) p, List.getElem?_eq_getElem h⟩)
    (fun i σ H x H' h p ⟨e, y⟩ => by subst e; exact hs i x σ _ (y xs (hl i σ _ (Nat.le_of_lt h) p)) p) (fun σ H p => ⟨xs, hl _ σ H (Nat.le_refl _) p, Nat.le_refl _⟩) hd
/-- over a tuple -/
theorem loopT (xs : List V) (Pv : Nat → L2.St → Hp → Prop) (h0 : Pv 0 σ H) (hl : ∀ i σ H, i ≤ xs.length → Pv i σ H → SqT K H a xs)
    (hs : ∀ i x σ H, xs[i]? = some x → Pv i σ H → g x σ H fun σ2 H2 => tb { D with nx := Pv (i + 1), ct := Pv (i + 1), bk := D.nx } σ2 H2) (hd : ∀ σ H, Pv xs.length σ H → D.nx σ H) : LoopW (Itt K a) g tb D σ H :=
  loopN xs.length Pv h0 (fun i σ H h p => ⟨xs, xs[i], hl i σ H (Nat.le_of_lt h) p, List.getElem?_eq_getElem h⟩)
    (fun i σ H x H' h p ⟨e, y⟩ => by subst e; exact hs i x σ _ (y xs (hl i σ _ (Nat.le_of_lt h) p)) p) (fun σ H p => ⟨xs, hl _ σ H (Nat.le_refl _) p, Nat.le_refl _⟩) hd
/-- over a range -/
theorem loopR {lo : Int} (n : Nat) (Pv : Nat → L2.St → Hp → Prop) (h0 : Pv 0 σ H) (hs : ∀ (i : Nat) σ H, i < n → Pv i σ H → g (.int (lo + i)) σ H fun σ2 H2 => tb { D with nx := Pv (i + 1), ct := Pv (i + 1), bk := D.nx } σ2 H2) (hd : ∀ σ H, Pv n σ H → D.nx σ H) :
    LoopW (Itr lo n) g tb D σ H :=
  loopN n Pv h0 (fun i σ H h p => h) (fun i σ H x H' h p ⟨e, y⟩ => by subst e y; exact hs i σ _ h p) (fun σ H p => Nat.le_refl _) hd
/-- over enumerate(list): each turn a new pair at T -/
theorem loopE (xs : List V) (Pv : Nat → L2.St → Hp → Prop) (h0 : Pv 0 σ H) (hl : ∀ i σ H, i ≤ xs.length → Pv i σ H → SqL K H a xs)
    (hs : ∀ (i : Nat) x σ H T, xs[i]? = some x → Pv i σ H → H T = none → g (.ref T) σ (upd H T (.tup [.int (i : Nat), x])) fun σ2 H2 => tb { D with nx := Pv (i + 1), ct := Pv (i + 1), bk := D.nx } σ2 H2) (hd : ∀ σ H, Pv xs.length σ H → D.nx σ H) : LoopW (Ite K a) g tb D σ H :=
  loopN xs.length Pv h0 (fun i σ H h p => ⟨xs, xs[i], hl i σ H (Nat.le_of_lt h) p, List.getElem?_eq_getElem h⟩)
    (fun i σ H x H' h p ⟨T, y, e1, e2, e3, e4⟩ => by subst e1 e3; exact hs i y σ H T (e4 xs (hl i σ H (Nat.le_of_lt h) p)) p e2) (fun σ H p => ⟨xs, hl _ σ H (Nat.le_refl _) p, Nat.le_refl _⟩) hd
theorem lcL {Q : Hp → Prop} {Dl : Addr} (xs : List V) (Pv : Nat → Hp → Prop) (h0 : Pv 0 (upd H Dl (.lst []))) (hl : ∀ i H, i ≤ xs.length → Pv i H → SqL K H a xs)
    (hs : ∀ i x H, xs[i]? = some x → Pv i H → g x (wipe σ vs) H fun σ2 H2 => wipe σ2 vs = wipe σ vs ∧ tt σ2 H2 fun b H3 =>
      if b = true then te σ2 H3 fun y H4 => ∃ acc, H4 Dl = some (.lst acc) ∧ acc.length < sizeLine ∧ Pv (i + 1) (upd H4 Dl (.lst (acc ++ [y]))) else Pv (i + 1) H3) (hd : ∀ H, Pv xs.length H → Q H) : LcW (Itl K a) g tt te vs σ Dl H Q :=
  lcN xs.length Pv h0 (fun i H h p => ⟨xs, xs[i], hl i H (Nat.le_of_lt h) p, List.getElem?_eq_getElem h⟩) (fun i H x H' h p ⟨e, y⟩ => by subst e; exact hs i x _ (y xs (hl i _ (Nat.le_of_lt h) p)) p) (fun H p => ⟨xs, hl _ H (Nat.le_refl _) p, Nat.le_refl _⟩) hd
theorem lcT {Q : Hp → Prop} {Dl : Addr} (xs : List V) (Pv : Nat → Hp → Prop) (h0 : Pv 0 (upd H Dl (.lst []))) (hl : ∀ i H, i ≤ xs.length → Pv i H → SqT K H a xs)
    (hs : ∀ i x H, xs[i]? = some x → Pv i H → g x (wipe σ vs) H fun σ2 H2 => wipe σ2 vs = wipe σ vs ∧ tt σ2 H2 fun b H3 =>
      if b = true then te σ2 H3 fun y H4 => ∃ acc, H4 Dl = some (.lst acc) ∧ acc.length < sizeLine ∧ Pv (i + 1) (upd H4 Dl (.lst (acc ++ [y]))) else Pv (i + 1) H3) (hd : ∀ H, Pv xs.length H → Q H) : LcW (Itt K a) g tt te vs σ Dl H Q :=
  lcN xs.length Pv h0 (fun i H h p => ⟨xs, xs[i], hl i H (Nat.le_of_lt h) p, List.getElem?_eq_getElem h⟩) (fun i H x H' h p ⟨e, y⟩ => by subst e; exact hs i x _ (y xs (hl i _ (Nat.le_of_lt h) p)) p) (fun H p => ⟨xs, hl _ H (Nat.le_refl _) p, Nat.le_refl _⟩) hd
theorem lcR {Q : Hp → Prop} {Dl : Addr} {lo : Int} (n : Nat) (Pv : Nat → Hp → Prop) (h0 : Pv 0 (upd H Dl (.lst [])))
    (hs : ∀ (i : Nat) H, i < n → Pv i H → g (.int (lo + i)) (wipe σ vs) H fun σ2 H2 => wipe σ2 vs = wipe σ vs ∧ tt σ2 H2 fun b H3 =>
      if b = true then te σ2 H3 fun y H4 => ∃ acc, H4 Dl = some (.lst acc) ∧ acc.length < sizeLine ∧ Pv (i + 1) (upd H4 Dl (.lst (acc ++ [y]))) else Pv (i + 1) H3) (hd : ∀ H, Pv n H → Q H) : LcW (Itr lo n) g tt te vs σ Dl H Q :=
  lcN n Pv h0 (fun i H h p => h) (fun i H x H' h p ⟨e, y⟩ => by subst e y; exact hs i _ h p) (fun H p => Nat.le_refl _) hd
theorem lcE {Q : Hp → Prop} {Dl : Addr} (xs : List V) (Pv : Nat → Hp → Prop) (h0 : Pv 0 (upd H Dl (.lst []))) (hl : ∀ i H, i ≤ xs.length → Pv i H → SqL K H a xs)
    (hs : ∀ (i : Nat) x H T, xs[i]? = some x → Pv i H → H T = none → g (.ref T) (wipe σ vs) (upd H T (.tup [.int (i : Nat), x])) fun σ2 H2 => wipe σ2 vs = wipe σ vs ∧ tt σ2 H2 fun b H3 =>
      if b = true then te σ2 H3 fun y H4 => ∃ acc, H4 Dl = some (.lst acc) ∧ acc.length < sizeLine ∧ Pv (i + 1) (upd H4 Dl (.lst (acc ++ [y]))) else Pv (i + 1) H3) (hd : ∀ H, Pv xs.length H → Q H) : LcW (Ite K a) g tt te vs σ Dl H Q :=
  lcN xs.length Pv h0 (fun i H h p => ⟨xs, xs[i], hl i H (Nat.le_of_lt h) p, List.getElem?_eq_getElem h⟩)
    (fun i H x H' h p ⟨T, y, e1, e2, e3, e4⟩ => by subst e1 e3; exact hs i y H T (e4 xs (hl i H (Nat.le_of_lt h) p)) p e2) (fun H p => ⟨xs, hl _ H (Nat.le_refl _) p, Nat.le_refl _⟩) hd
end
/-- a while, by a word and a number that falls -/
theorem whileW {c : TT} {tb : TS} {D : Ends} {σ : L2.St} {H : Hp} (Pv : Nat → L2.St → Hp → Prop) (m : Nat) (h0 : Pv m σ H)
    (hs : ∀ m σ H, Pv m σ H → c σ H fun b H1 => if b = true then ∃ N : L2.St → Hp → Prop, (∀ σ' H', N σ' H' → ∃ m', m' < m ∧ Pv m' σ' H') ∧ tb { D with nx := N, ct := N, bk := D.nx } σ H1 else D.nx σ H1) : tWhile c tb D σ H :=
  ⟨Pv, ⟨m, h0⟩, hs⟩
/-- the list's own kind, as the rules ask it -/
theorem tyL {K : PySem.W.Frag} {H : Hp} {p : Addr} {xs : List V} (h : H p = some (.lst xs)) : tyV K "list" (.ref p) H := .inl ⟨rfl, _, SqL.of h⟩
section
variable {X : Cx} {x : Str} {pos : Pos}
theorem pe_gref {a : Addr} (hm : X.mg x = some (.ref a)) (hg : Gl X x := by rfl) (hd : (x == ("__debug__" : Str)) = false := by decide) : PE X (.Name x pos) (tC (.ref a)) := pe_glob hg hm rfl hd
end
theorem u65 {k : Nat} {A : Around} (r : Room k A) : A.units + 65 < cLine := by
  have := r.un
  omega
/-! ### heaps -/
theorem Same.new {H : Hp} {p : Addr} {o : HO} (h : H p = none) : Same H (upd H p o) := fun b u e => by
  rw [upd_ne (ne_of_none e h)]
  exact e
theorem Same.then_new {H H1 : Hp} {p : Addr} {o : HO} (s : Same H H1) (h : H1 p = none) : Same H (upd H1 p o) := s.trans (Same.new h)
/-- all but p stands -/
def But (p : Addr) (H H' : Hp) : Prop := ∀ b o, H b = some o → b ≠ p → H' b = some o
theorem But.refl {p : Addr} {H : Hp} : But p H H := fun _ _ h _ => h
theorem But.of {p : Addr} {H H' : Hp} (s : Same H H') : But p H H' := fun b o h _ => s b o h
theorem But.trans {p : Addr} {H H1 H2 : Hp} (a : But p H H1) (b : But p H1 H2) : But p H H2 := fun c o h n => b c o (a c o h n) n
theorem But.upd {p : Addr} {H H1 : Hp} {o : HO} (a : But p H H1) : But p H (upd H1 p o) := fun c u h n => by
  rw [upd_ne n]
  exact a c u h n
/-- an object that H does not hold may change -/
theorem Same.mut {H H' : Hp} {p : Addr} {o : HO} (e : Same H H') (h : H p = none) : Same H (L2.upd H' p o) := fun a u ha => by
  rw [upd_ne (ne_of_none ha h)]
  exact e a u ha
theorem Same.of_but {p : Addr} {H H1 H' : Hp} (a : Same H H1) (b : But p H1 H') (h : H p = none) : Same H H' := fun c u e => b c u (a c u e) (ne_of_none e h)
end FW
set_option Elab.async false
set_option linter.all false
set_option maxRecDepth 100000
set_option maxHeartbeats 4000000
local macro_rules | `(tactic| walk_at "rd") => `(tactic| (simp (config := { decide := true }) only [L2.start, L2.tSeq, L2.tNext, L2.tAsg, L2.gName, L2.gTup, L2.gCons, L2.gNil, L2.tRet, L2.tRetN, L2.tIfS, L2.tTest, L2.tOp, L2.tUn, L2.tCons, L2.tNil, L2.tVar, L2.tC, L2.tCall, L2.tCallS, L2.tMake, FW.tCallK0, L2.rI, L2.rI0, L2.rU, L2.rEq, L2.rNe, L2.scal, L2.tB, L2.tNot, L2.tAnd, L2.tOr, L2.tAndV, L2.tOrV, L2.tNotV, L2.tIf, L2.tChain, L2.tDrop, L2.tCB, L2.tTup, L2.tLst, L2.tFld, L2.sFld, L2.tBM, L2.tBM0, L2.rAppend, L2.tRaiseErr, L2.tMkErr, L2.tBreak, L2.tCont, L2.gSub, L2.rSetL, L2.rIxL, L2.tAug, L2.ipI, L2.tSl, L2.tPart, L2.tNoPart, L2.rSlL, L2.CDiv, L2.CDivN, L2.CPow, L2.tPar, L2.rIsB, L2.rNotB,
  List.map_cons, List.map_nil, List.length_cons, List.length_nil, List.replicate, List.cons_append, List.nil_append, List.append_nil, Nat.sub_self, List.getElem?_cons_zero, List.getElem?_cons_succ, List.set_cons_zero, List.set_cons_succ,
  Option.some.injEq, L2.V.int.injEq, L2.V.bl.injEq, L2.V.ref.injEq, L2.V.str.injEq, exists_eq_left', exists_eq_left, exists_eq_right', exists_eq_right, exists_and_left, exists_const, true_and, and_true, Nat.zero_add, Nat.add_zero, Nat.reduceAdd, Nat.reduceSub, List.cons.injEq, reduceCtorEq, false_and, and_false, exists_false, false_or, or_false, ne_eq, not_false_eq_true, not_true_eq_false]))
namespace FW
open PySem PySem.Spec PyProof.Rows L2 PySem.FwE
section
variable {X : Cx} {x f : Str} {C fI : Addr}
theorem ps_raiseE {a : Expr} {ta : TA} {W : WX} {p pos pos2 : Pos} {k : Nat} (hc : X.calm = true) (T : ∃ cc cda, PySem.FwE.ErrTxt X.prog X.K X.mg x f C fI cc cda) (hr : Room k X.A) (tk : Takes X W) (ha : PA X [a] ta) (hg : Gl X x := by rfl) (hdb : (x == ("__debug__" : Str)) = false := by decide)
    (he : starEach (a :: []) X.env = (false, eval a X.env) :: starEach [] X.env := by rfl) (hpl : (backTo pos (starEach [] X.env)).any (·.1) = false := by rfl) :
    PS X (.Raise (some (.Call (.Name x p) [a] [] pos)) none pos2) (tRaiseErr C f W ta) := by
  obtain ⟨cc, cda, T⟩ := T
  exact ps_raiseErr hc T hr tk ha hg hdb he hpl
end
/-! ### what stands in the heap -/
/-- a pair of ints -/
def IsP (H : Hp) (x : V) (b : Int × Int) : Prop := ∃ t, x = .ref t ∧ H t = some (.tup [.int b.1, .int b.2])
/-- a list of pairs -/
def PL (H : Hp) (xs : List V) (bs : List (Int × Int)) : Prop := xs.length = bs.length ∧ ∀ (i : Nat) x, xs[i]? = some x → ∃ b, bs[i]? = some b ∧ IsP H x b
theorem IsP.mono {H H' : Hp} (s : Same H H') {x : V} {b : Int × Int} (h : IsP H x b) : IsP H' x b := by
  obtain ⟨t, e, h⟩ := h
  exact ⟨t, e, s _ _ h⟩
theorem PL.mono {H H' : Hp} (s : Same H H') {xs : List V} {bs : List (Int × Int)} (h : PL H xs bs) : PL H' xs bs :=
  ⟨h.1, fun i x e => by
    obtain ⟨b, e1, e2⟩ := h.2 i x e
    exact ⟨b, e1, e2.mono s⟩⟩
def LotAt (K : PySem.W.Frag) (H : Hp) (l : Addr) (bs : List (Int × Int)) : Prop := ∃ dx t xs, H l = some (.ins (He.ga K "Lot") dx [("bricks", .ref t)]) ∧ H t = some (.tup xs) ∧ PL H xs bs
def ClkAt (K : PySem.W.Frag) (H : Hp) (p : Addr) (a u : Int) : Prop := ∃ dx, H p = some (.ins (He.ga K "Clocks") dx [("along", .int a), ("up", .int u)])
theorem LotAt.mono {K : PySem.W.Frag} {H H' : Hp} (s : Same H H') {l : Addr} {bs : List (Int × Int)} (h : LotAt K H l bs) : LotAt K H' l bs := by
  obtain ⟨dx, t, xs, h1, h2, h3⟩ := h
  exact ⟨dx, t, xs, s _ _ h1, s _ _ h2, h3.mono s⟩
theorem ClkAt.mono {K : PySem.W.Frag} {H H' : Hp} (s : Same H H') {p : Addr} {a u : Int} (h : ClkAt K H p a u) : ClkAt K H' p a u := by
  obtain ⟨dx, h⟩ := h
  exact ⟨dx, s _ _ h⟩
theorem lk_1 {f : Str} {v : V} {l : List (Str × V)} : List.lookup f ((f, v) :: l) = some v := by simp [List.lookup]
theorem lk_2 {f g : Str} {u v : V} {l : List (Str × V)} (h : (f == g) = false) : List.lookup f ((g, u) :: (f, v) :: l) = some v := by simp [List.lookup, h]
/-- an error of the class x with the field f = v -/
def Err (K : PySem.W.Frag) (x f : Str) (v : V) (H : Hp) (E : XK) : Prop := ∀ d, H d = none → E (.ref (He.ga K x)) (some d) (upd H d (.xd [(f, v)]))
variable {P : Program} {w : World} {K : PySem.W.Frag} {mg : Str → Option Value} {base : Heap}
/-! ### looks -/
def spLookNumber (K : PySem.W.Frag) : Sp := fun vs H Q E => ∃ n lo hi : Int, vs = [.int n, .int lo, .int hi] ∧ ((lo ≤ n ∧ n ≤ hi) → Q .non H) ∧ (¬ (lo ≤ n ∧ n ≤ hi) → Err K "NumberError" "number" (.int n) H E)
theorem cal_look_number (T : Tx P K mg) : Cal P w K mg base "look_number" 1 ["number", "low", "high"] (spLookNumber K) := by
  obtain ⟨fd, F⟩ := T.d_look_number
  refine ⟨_, fd, F.ok (CX := L2.CX P w) sc_look_number (fun vs H Q E h => ?_) (fun cdv A outer s H vs Q E hr h => ?_), T.m_look_number, F.kp, F.bindsN fun _ _ _ _ _ _ us hl => match us, hl with | [_, _, _], _ => rfl⟩
  · obtain ⟨n, lo, hi, rfl, _⟩ := h
    rfl
  · obtain ⟨n, lo, hi, rfl, k1, k2⟩ := h
    refine ⟨_, (pss_one (ps_if (pt_not (pt_chain op_le op_le (pv 1) (pv 0) (pv 2))) (pss_one (ps_raiseE rfl T.e_NumberError hr takE (pa_cons (pv 0) pa_nil))) pss_nil)), ?_⟩
    walk_at "rd"
    by_cases h1 : lo ≤ n
    · by_cases h2 : n ≤ hi
      · simp [h1, h2]
        exact k1 ⟨h1, h2⟩
      · simp [h1, h2]
        exact k2 (fun z => h2 z.2)
    · simp [h1]
      exact k2 (fun z => h1 z.1)
def spLookCount (K : PySem.W.Frag) : Sp := fun vs H Q E => ∃ n lo hi : Int, vs = [.int n, .int lo, .int hi] ∧ ((lo ≤ n ∧ n ≤ hi) → Q .non H) ∧ (¬ (lo ≤ n ∧ n ≤ hi) → Err K "SizeError" "count" (.int n) H E)
theorem cal_look_count (T : Tx P K mg) : Cal P w K mg base "look_count" 1 ["count", "low", "high"] (spLookCount K) := by
  obtain ⟨fd, F⟩ := T.d_look_count
  refine ⟨_, fd, F.ok (CX := L2.CX P w) sc_look_count (fun vs H Q E h => ?_) (fun cdv A outer s H vs Q E hr h => ?_), T.m_look_count, F.kp, F.bindsN fun _ _ _ _ _ _ us hl => match us, hl with | [_, _, _], _ => rfl⟩
  · obtain ⟨n, lo, hi, rfl, _⟩ := h
    rfl
  · obtain ⟨n, lo, hi, rfl, k1, k2⟩ := h
    refine ⟨_, (pss_one (ps_if (pt_not (pt_chain op_le op_le (pv 1) (pv 0) (pv 2))) (pss_one (ps_raiseE rfl T.e_SizeError hr takE (pa_cons (pv 0) pa_nil))) pss_nil)), ?_⟩
    walk_at "rd"
    by_cases h1 : lo ≤ n
    · by_cases h2 : n ≤ hi
      · simp [h1, h2]
        exact k1 ⟨h1, h2⟩
      · simp [h1, h2]
        exact k2 (fun z => h2 z.2)
    · simp [h1]
      exact k2 (fun z => h1 z.1)
def spLookSize (K : PySem.W.Frag) : Sp := fun vs H Q E => ∃ m n hi : Int, vs = [.int m, .int n, .int hi] ∧ ((1 ≤ m ∧ m ≤ hi) → (1 ≤ n ∧ n ≤ hi) → Q .non H) ∧ (¬ (1 ≤ m ∧ m ≤ hi) → Err K "NumberError" "number" (.int m) H E) ∧ ((1 ≤ m ∧ m ≤ hi) → ¬ (1 ≤ n ∧ n ≤ hi) → Err K "NumberError" "number" (.int n) H E)
theorem cal_look_size (T : Tx P K mg) : Cal P w K mg base "look_size" 2 ["m", "n", "most"] (spLookSize K) := by
  obtain ⟨fd, F⟩ := T.d_look_size
  have C_look_number := cal_look_number (w := w) (base := base) T
  refine ⟨_, fd, F.ok (CX := L2.CX P w) sc_look_size (fun vs H Q E h => ?_) (fun cdv A outer s H vs Q E hr h => ?_), T.m_look_size, F.kp, F.bindsN fun _ _ _ _ _ _ us hl => match us, hl with | [_, _, _], _ => rfl⟩
  · obtain ⟨n, lo, hi, rfl, _⟩ := h
    rfl
  · obtain ⟨m, n, hi, rfl, k1, k2, k3⟩ := h
    refine ⟨_, (pss_cons (ps_expr (pe_callC C_look_number (hr.mono (by decide)) passE (pa_cons (pv 0) (pa_cons pe_int (pa_cons (pv 2) pa_nil)))))
      (pss_one (ps_expr (pe_callC C_look_number (hr.mono (by decide)) passE (pa_cons (pv 1) (pa_cons pe_int (pa_cons (pv 2) pa_nil))))))), ?_⟩
    walk_at "rd"
    refine ⟨m, 1, hi, rfl, fun h1 => ?_, fun h1 => k2 h1⟩
    exact ⟨n, 1, hi, rfl, fun h2 => k1 h1 h2, fun h2 => k3 h1 h2⟩
/-! ### clocks -/
theorem fmod_dvd {d n : Int} (h : 0 < d) : decide (n.fmod d = 0) = decide (d ∣ n) := by
  rw [Int.fmod_eq_emod_of_nonneg n (Int.le_of_lt h)]
  by_cases e : d ∣ n
  · rw [decide_eq_true e, decide_eq_true (Int.emod_eq_zero_of_dvd e)]
  · rw [decide_eq_false e, decide_eq_false (fun z => e (Int.dvd_of_emod_eq_zero z))]
def spDivides : Sp := fun vs H Q _ => ∃ d n : Int, vs = [.int d, .int n] ∧ 0 ≤ d ∧ Q (.bl (decide (d ∣ n))) H
theorem cal_divides (T : Tx P K mg) : Cal P w K mg base "divides" 1 ["d", "n"] spDivides := by
  obtain ⟨fd, F⟩ := T.d_divides
  refine ⟨_, fd, F.ok (CX := L2.CX P w) sc_divides (fun vs H Q E h => ?_) (fun cdv A outer s H vs Q E hr h => ?_), T.m_divides, F.kp, F.bindsN fun _ _ _ _ _ _ us hl => match us, hl with | [_, _], _ => rfl⟩
  · obtain ⟨d, n, rfl, _⟩ := h
    rfl
  · obtain ⟨d, n, rfl, h0, k⟩ := h
    refine ⟨_, (pss_cons (ps_if (pt_cmpR op_eq (pv 0) pe_int (nomark _)) (pss_one (ps_ret (pe_cmpR op_eq (pv 1) pe_int (nomark _)))) pss_nil)
      (pss_one (ps_ret (pe_cmpR op_eq (pe_op op_modN (pv 1) (pv 0)) pe_int (nomark _))))), ?_⟩
    walk_at "rd"
    by_cases h1 : d = 0
    · subst h1
      simpa using k
    · have h2 : decide (n.fmod d = 0) = decide (d ∣ n) := fmod_dvd (by omega)
      simp [h1]
      simp [h2]
      simpa using k
def IsClk (n : Int) : Prop := n = 0 ∨ (2 ≤ n ∧ n ≤ 60)
instance (n : Int) : Decidable (IsClk n) := by unfold IsClk; infer_instance
def spIsClock : Sp := fun vs H Q _ => ∃ n : Int, vs = [.int n] ∧ Q (.bl (decide (IsClk n))) H
theorem cal_is_clock (T : Tx P K mg) : Cal P w K mg base "is_clock" 1 ["number"] spIsClock := by
  obtain ⟨fd, F⟩ := T.d_is_clock
  refine ⟨_, fd, F.ok (CX := L2.CX P w) sc_is_clock (fun vs H Q E h => ?_) (fun cdv A outer s H vs Q E hr h => ?_), T.m_is_clock, F.kp, F.bindsN fun _ _ _ _ _ _ us hl => match us, hl with | [_], _ => rfl⟩
  · obtain ⟨n, rfl, _⟩ := h
    rfl
  · obtain ⟨n, rfl, k⟩ := h
    refine ⟨_, (pss_one (ps_ret (pe_or (pe_cmpR op_eq (pv 0) pe_int (nomark _)) (pe_one (pe_chain op_le op_le pe_int (pv 0) (pe_gint T.c_MOST_HOURS)))))), ?_⟩
    walk_at "rd"
    unfold IsClk at k
    by_cases h1 : n = 0
    · simpa [h1] using k
    · by_cases h2 : 2 ≤ n
      · simpa [h1, h2] using k
      · simpa [h1, h2] using k
end FW
set_option Elab.async false
set_option linter.all false
set_option maxRecDepth 100000
set_option maxHeartbeats 4000000
local macro_rules | `(tactic| walk_at "rd") => `(tactic| (simp (config := { decide := true }) only [L2.start, L2.tSeq, L2.tNext, L2.tAsg, L2.gName, L2.gTup, L2.gCons, L2.gNil, L2.tRet, L2.tRetN, L2.tIfS, L2.tTest, L2.tOp, L2.tUn, L2.tCons, L2.tNil, L2.tVar, L2.tC, L2.tCall, L2.tCallS, L2.tMake, FW.tCallK0, L2.rI, L2.rI0, L2.rU, L2.rEq, L2.rNe, L2.scal, L2.tB, L2.tNot, L2.tAnd, L2.tOr, L2.tAndV, L2.tOrV, L2.tNotV, L2.tIf, L2.tChain, L2.tDrop, L2.tCB, L2.tTup, L2.tLst, L2.tFld, L2.sFld, L2.tBM, L2.tBM0, L2.rAppend, L2.tRaiseErr, L2.tMkErr, L2.tBreak, L2.tCont, L2.gSub, L2.rSetL, L2.rIxL, L2.tAug, L2.ipI, L2.tSl, L2.tPart, L2.tNoPart, L2.rSlL, L2.CDiv, L2.CDivN, L2.CPow, L2.tPar, L2.rIsB, L2.rNotB, FW.cxK, FW.tFor_eq, FW.tLc_eq, L2.iList, L2.iTup, L2.iRng1, L2.iRng2, L2.iEnum, FW.iOwn, L2.wipe, PySem.sizeLine_eq, Nat.reduceLeDiff,
  List.map_cons, List.map_nil, List.length_cons, List.length_nil, List.replicate, List.cons_append, List.nil_append, List.append_nil, Nat.sub_self, List.getElem?_cons_zero, List.getElem?_cons_succ, List.set_cons_zero, List.set_cons_succ,
  Option.some.injEq, L2.V.int.injEq, L2.V.bl.injEq, L2.V.ref.injEq, L2.V.str.injEq, exists_eq_left', exists_eq_left, exists_eq_right', exists_eq_right, exists_and_left, exists_const, true_and, and_true, Nat.zero_add, Nat.add_zero, Nat.reduceAdd, Nat.reduceSub, List.cons.injEq, reduceCtorEq, false_and, and_false, exists_false, false_or, or_false, ne_eq, not_false_eq_true, not_true_eq_false, Bool.false_eq_true, if_false, if_true, Bool.not_true, Bool.not_false, ite_self, decide_true, decide_false]))
namespace FW
open PySem PySem.Spec PyProof.Rows L2 PySem.FwE
variable {P : Program} {w : World} {K : PySem.W.Frag} {mg : Str → Option Value} {base : Heap}
theorem putF2 {f g : Str} {v u : V} (h : ¬ g = f) : putF f v (putF g u []) = [(g, u), (f, v)] := by
  show (if g = f then [(g, v)] else (g, u) :: putF f v []) = [(g, u), (f, v)]
  rw [if_neg h]
  rfl
def spClocks (K : PySem.W.Frag) : Sp := fun vs H Q _ => ∃ (p dx : Addr) (a u : Int), vs = [.ref p, .int a, .int u] ∧ H p = some (.ins (He.ga K "Clocks") dx []) ∧ IsClk a ∧ IsClk u ∧
  ∀ H' : Hp, But p H H' → ClkAt K H' p a u → Q .non H'
theorem mak_Clocks (T : Tx P K mg) : Mak P w K mg base "Clocks" (He.ga K "Clocks") 2 ["self", "along", "up"] (spClocks K) := by
  obtain ⟨fd, F⟩ := T.d_ClocksX_initX
  have C_is_clock := cal_is_clock (w := w) (base := base) T
  refine ⟨_, fd, F.ok (CX := L2.CX P w) sc_ClocksX_initX (fun vs H Q E h => ?_) (fun cdv A outer s H vs Q E hr h => ?_), T.m_Clocks, T.mk_Clocks, F.bindsN fun _ _ _ _ _ _ us hl => match us, hl with | [_, _, _], _ => rfl⟩
  · obtain ⟨p, dx, a, u, rfl, _⟩ := h
    rfl
  · obtain ⟨p, dx, a, u, rfl, hp, ha, hu, k⟩ := h
    refine ⟨_, (pss_cons (ps_for ownE rfl (pi_tup (pe_tup (pa_cons (pv 1) (pa_cons (pv 2) pa_nil)))) (pg_name (i := 3) sc_ClocksX_initX.nd rfl (Or.inl rfl))
        (pss_one (ps_if (pt_not (pt_val (pe_callC C_is_clock (hr.mono (by decide)) passE (pa_cons (pv 3) pa_nil)))) (pss_one (ps_raiseE rfl T.e_NumberError hr takE (pa_cons (pv 3) pa_nil))) pss_nil)))
      (pss_cons (ps_fld (pv 0) (pv 1) rfl)
      (pss_one (ps_fld (pv 0) (pv 2) rfl)))), ?_⟩
    walk_at "rd"
    intro t ht
    refine ⟨⟨_, SqT.of upd_same⟩, loopT [V.int a, V.int u] (fun i σ' H' => ∃ v, σ' = [some (.ref p), some (.int a), some (.int u), v] ∧ H' = upd H t (.tup [.int a, .int u])) ⟨none, rfl, rfl⟩ (fun i σ' H' _ ⟨_, _, e⟩ => by rw [e]; exact SqT.of upd_same) ?_ ?_⟩
    · rintro i x σ' H' hi ⟨v, rfl, rfl⟩
      obtain ⟨n, rfl, hn⟩ : ∃ n, x = V.int n ∧ IsClk n := by
        match i, hi with
        | 0, e => exact ⟨a, (Option.some.inj e).symm, ha⟩
        | 1, e => exact ⟨u, (Option.some.inj e).symm, hu⟩
        | i + 2, e => simp at e
      walk_at "rd"
      refine ⟨n, rfl, ?_⟩
      rw [decide_eq_true hn]
      walk_at "rd"
    · rintro σ' H' ⟨v, rfl, rfl⟩
      walk_at "rd"
      have npt : p ≠ t := ne_of_none hp ht
      refine ⟨_, _, _, by rw [upd_ne npt]; exact hp, T.cl_Clocks, T.na_Clocks_along, by decide, ?_⟩
      refine ⟨_, _, _, upd_same, T.cl_Clocks, T.na_Clocks_up, (by show 1 < 1000; decide), ?_⟩
      refine k _ (But.upd (But.upd (But.of (Same.new ht)))) ⟨dx, ?_⟩
      rw [upd_same]
      rw [putF2 (by decide +kernel)]
def keepB (a u : Int) (bs : List (Int × Int)) : Bool := bs.all fun b => decide (a ∣ b.1) || decide (u ∣ b.2)
def spKeeps (K : PySem.W.Frag) : Sp := fun vs H Q _ => ∃ (l p : Addr) (bs : List (Int × Int)) (a u : Int), vs = [.ref l, .ref p] ∧ LotAt K H l bs ∧ ClkAt K H p a u ∧ 0 ≤ a ∧ 0 ≤ u ∧ Q (.bl (keepB a u bs)) H
theorem cal_keeps (T : Tx P K mg) : Cal P w K mg base "keeps" 2 ["lot", "pair"] (spKeeps K) := by
  obtain ⟨fd, F⟩ := T.d_keeps
  have C_divides := cal_divides (w := w) (base := base) T
  refine ⟨_, fd, F.ok (CX := L2.CX P w) sc_keeps (fun vs H Q E h => ?_) (fun cdv A outer s H vs Q E hr h => ?_), T.m_keeps, F.kp, F.bindsN fun _ _ _ _ _ _ us hl => match us, hl with | [_, _], _ => rfl⟩
  · obtain ⟨l, p, bs, a, u, rfl, _⟩ := h
    rfl
  · obtain ⟨l, p, bs, a, u, rfl, ⟨dl, t, xs, hl, ht, hx⟩, ⟨dp, hp⟩, ha, hu, k⟩ := h
    refine ⟨_, (pss_cons (ps_for ownE rfl (pi_tup (pe_fld (pv 0) rfl)) (pg_tup rfl (pgs_cons (pg_name (i := 2) sc_keeps.nd rfl (Or.inl rfl)) (pgs_cons (pg_name (i := 3) sc_keeps.nd rfl (Or.inl rfl)) pgs_nil)))
        (pss_one (ps_if (PW.pt (pw_and (pt_not (pt_val (pe_callC C_divides (hr.mono (by decide)) passE (pa_cons (pe_fld (pv 1) rfl) (pa_cons (pv 2) pa_nil))))) (pw_and1 (pt_not (pt_val (pe_callC C_divides (hr.mono (by decide)) passE (pa_cons (pe_fld (pv 1) rfl) (pa_cons (pv 3) pa_nil)))))))) (pss_one (ps_ret pe_bl)) pss_nil)))
      (pss_one (ps_ret pe_bl))), ?_⟩
    walk_at "rd"
    refine ⟨_, _, _, hl, T.cl_Lot, T.na_Lot_bricks, _, lk_1, t, rfl, ⟨_, SqT.of ht⟩, loopT xs (fun i σ' H' => ∃ v1 v2, σ' = [some (.ref l), some (.ref p), v1, v2] ∧ H' = H ∧ keepB a u (bs.take i) = true) ⟨none, none, rfl, rfl, by simp [keepB]⟩ (fun i σ' H' _ ⟨_, _, _, e, _⟩ => by rw [e]; exact SqT.of ht) ?_ ?_⟩
    · rintro i x σ' H' hi ⟨v1, v2, rfl, rfl, hk⟩
      obtain ⟨b, hb, tb, rfl, htb⟩ := hx.2 i x hi
      walk_at "rd"
      refine ⟨_, SqT.of htb, rfl, _, _, rfl, _, _, rfl, rfl, _, _, _, hp, T.cl_Clocks, T.na_Clocks_along, _, lk_1, a, b.1, rfl, ha, ?_⟩
      have hlen : i < bs.length := (List.getElem?_eq_some_iff.mp hb).1
      have hk2 : keepB a u (bs.take (i + 1)) = (decide (a ∣ b.1) || decide (u ∣ b.2)) := by
        unfold keepB at hk ⊢
        rw [List.take_succ, hb]
        simp only [Option.toList_some, List.all_append, hk, Bool.true_and, List.all_cons, List.all_nil, Bool.and_true]
      have hk3 : (decide (a ∣ b.1) || decide (u ∣ b.2)) = false → keepB a u bs = false := fun e => by
        unfold keepB
        rw [List.all_eq_false]
        refine ⟨b, List.mem_of_getElem? hb, by simpa using e⟩
      by_cases h1 : a ∣ b.1
      · rw [decide_eq_true h1]
        walk_at "rd"
        rw [hk2, decide_eq_true h1]
        simp
      · rw [decide_eq_false h1]
        walk_at "rd"
        refine ⟨_, _, _, hp, T.cl_Clocks, T.na_Clocks_up, _, lk_2 (by decide), u, b.2, rfl, hu, ?_⟩
        by_cases h2 : u ∣ b.2
        · rw [decide_eq_true h2]
          walk_at "rd"
          rw [hk2, decide_eq_true h2]
          simp
        · rw [decide_eq_false h2]
          walk_at "rd"
          rw [hk3 (by simp [h1, h2])] at k
          exact k
    · rintro σ' H' ⟨v1, v2, rfl, rfl, hk⟩
      walk_at "rd"
      rw [hx.1, List.take_length] at hk
      rw [hk] at k
      exact k
end FW
set_option Elab.async false
set_option linter.all false
set_option maxRecDepth 100000
set_option maxHeartbeats 4000000
local macro_rules | `(tactic| walk_at "rd") => `(tactic| (simp (config := { decide := true }) only [L2.start, L2.tSeq, L2.tNext, L2.tAsg, L2.gName, L2.gTup, L2.gCons, L2.gNil, L2.tRet, L2.tRetN, L2.tIfS, L2.tTest, L2.tOp, L2.tUn, L2.tCons, L2.tNil, L2.tVar, L2.tC, L2.tCall, L2.tCallS, L2.tMake, FW.tCallK0, L2.rI, L2.rI0, L2.rU, L2.rEq, L2.rNe, L2.scal, L2.tB, L2.tNot, L2.tAnd, L2.tOr, L2.tAndV, L2.tOrV, L2.tNotV, L2.tIf, L2.tChain, L2.tDrop, L2.tCB, L2.tTup, L2.tLst, L2.tFld, L2.sFld, L2.tBM, L2.tBM0, L2.rAppend, L2.tRaiseErr, L2.tMkErr, L2.tBreak, L2.tCont, L2.gSub, L2.rSetL, L2.rIxL, L2.tAug, L2.ipI, L2.tSl, L2.tPart, L2.tNoPart, L2.rSlL, L2.CDiv, L2.CDivN, L2.CPow, L2.tPar, L2.rIsB, L2.rNotB, FW.cxK, FW.tFor_eq, FW.tLc_eq, L2.iList, L2.iTup, L2.iRng1, L2.iRng2, L2.iEnum, FW.iOwn, L2.wipe, L2.tYes, PySem.sizeLine_eq, Nat.reduceLeDiff,
  List.map_cons, List.map_nil, List.length_cons, List.length_nil, List.replicate, List.cons_append, List.nil_append, List.append_nil, Nat.sub_self, List.getElem?_cons_zero, List.getElem?_cons_succ, List.set_cons_zero, List.set_cons_succ,
  Option.some.injEq, L2.V.int.injEq, L2.V.bl.injEq, L2.V.ref.injEq, L2.V.str.injEq, exists_eq_left', exists_eq_left, exists_eq_right', exists_eq_right, exists_and_left, exists_const, true_and, and_true, Nat.zero_add, Nat.add_zero, Nat.reduceAdd, Nat.reduceSub, List.cons.injEq, reduceCtorEq, false_and, and_false, exists_false, false_or, or_false, ne_eq, not_false_eq_true, not_true_eq_false, Bool.false_eq_true, if_false, if_true, Bool.not_true, Bool.not_false, ite_self, decide_true, decide_false]))
namespace FW
open PySem PySem.Spec PyProof.Rows L2 PySem.FwE
variable {P : Program} {w : World} {K : PySem.W.Frag} {mg : Str → Option Value} {base : Heap}
/-! ### the kept pairs -/
def KC : List Int := [0, 2, 3, 4, 5, 6]
def P36 : List (Int × Int) := KC.flatMap fun a => KC.map fun u => (a, u)
def keptF (bs l : List (Int × Int)) : List (Int × Int) := l.filter fun c => keepB c.1 c.2 bs
def keptL (bs : List (Int × Int)) : List (Int × Int) := keptF bs P36
theorem KC_clk {a : Int} (h : a ∈ KC) : IsClk a ∧ 0 ≤ a := by
  have : ∀ a ∈ KC, IsClk a ∧ 0 ≤ a := by decide
  exact this a h
def ClkL (K : PySem.W.Frag) (H : Hp) (xs : List V) (cs : List (Int × Int)) : Prop := xs.length = cs.length ∧ ∀ (i : Nat) x, xs[i]? = some x → ∃ c p, cs[i]? = some c ∧ x = .ref p ∧ ClkAt K H p c.1 c.2
theorem ClkL.mono {H H' : Hp} (s : Same H H') {xs : List V} {cs : List (Int × Int)} (h : ClkL K H xs cs) : ClkL K H' xs cs :=
  ⟨h.1, fun i x e => by
    obtain ⟨c, p, e1, e2, e3⟩ := h.2 i x e
    exact ⟨c, p, e1, e2, e3.mono s⟩⟩
theorem ClkL.snoc {H : Hp} {xs : List V} {cs : List (Int × Int)} {p : Addr} {c : Int × Int} (h : ClkL K H xs cs) (hp : ClkAt K H p c.1 c.2) : ClkL K H (xs ++ [.ref p]) (cs ++ [c]) := by
  refine ⟨by simp [h.1], fun i x e => ?_⟩
  by_cases hi : i < xs.length
  · rw [List.getElem?_append_left hi] at e
    obtain ⟨c', p', e1, e2, e3⟩ := h.2 i x e
    exact ⟨c', p', by rw [List.getElem?_append_left (by rw [← h.1]; exact hi)]; exact e1, e2, e3⟩
  · have hlt := (List.getElem?_eq_some_iff.mp e).1
    rw [List.length_append, List.length_singleton] at hlt
    have hi' : i = xs.length := by omega
    subst hi'
    rw [List.getElem?_append_right (Nat.le_refl _)] at e
    simp at e
    exact ⟨c, p, by rw [h.1]; simp, e.symm, hp⟩
theorem map_at {l : List Int} {i : Nat} {x : V} (h : (l.map V.int)[i]? = some x) : ∃ a, l[i]? = some a ∧ x = .int a := by
  rw [List.getElem?_map] at h
  cases e : l[i]? with
  | none =>
    rw [e] at h
    cases h
  | some a =>
    rw [e] at h
    exact ⟨a, rfl, (Option.some.inj h).symm⟩
theorem take_snoc {α : Type} {l : List α} {i : Nat} {a : α} (h : l[i]? = some a) : l.take (i + 1) = l.take i ++ [a] := by
  rw [List.take_succ, h]
  rfl
def I1 (K : PySem.W.Frag) (H : Hp) (l lt : Addr) (bs : List (Int × Int)) (i : Nat) (σ' : L2.St) (H' : Hp) : Prop :=
  ∃ v2 v3 v4 xs, σ' = [some (.ref l), some (.ref lt), v2, v3, v4] ∧ Same H H' ∧ H' lt = some (.lst xs) ∧ ClkL K H' xs (keptF bs ((KC.take i).flatMap fun a => KC.map fun u => (a, u)))
def I2 (K : PySem.W.Frag) (H : Hp) (l lt : Addr) (bs : List (Int × Int)) (i : Nat) (a : Int) (j : Nat) (σ' : L2.St) (H' : Hp) : Prop :=
  ∃ v3 v4 xs, σ' = [some (.ref l), some (.ref lt), some (.int a), v3, v4] ∧ Same H H' ∧ H' lt = some (.lst xs) ∧ ClkL K H' xs (keptF bs (((KC.take i).flatMap fun a => KC.map fun u => (a, u)) ++ (KC.take j).map fun u => (a, u)))
theorem kept_len (bs : List (Int × Int)) (i j : Nat) (a : Int) : (keptF bs (((KC.take i).flatMap fun a => KC.map fun u => (a, u)) ++ (KC.take j).map fun u => (a, u))).length ≤ 42 := by
  unfold keptF
  refine Nat.le_trans (List.length_filter_le _ _) ?_
  have h1 : ∀ (l : List Int), (l.flatMap fun a => KC.map fun u => (a, u)).length = 6 * l.length := fun l => by
    induction l with
    | nil => rfl
    | cons a l ih =>
      rw [List.flatMap_cons, List.length_append, ih, List.length_map, List.length_cons]
      show 6 + 6 * l.length = 6 * (l.length + 1)
      omega
  rw [List.length_append, h1, List.length_map, List.length_take, List.length_take]
  show 6 * min i 6 + min j 6 ≤ 42
  omega
def spKept (K : PySem.W.Frag) : Sp := fun vs H Q _ => ∃ (l : Addr) (bs : List (Int × Int)), vs = [.ref l] ∧ LotAt K H l bs ∧ ∀ (H' : Hp) (p : Addr) (xs : List V), Same H H' → H p = none → H' p = some (.lst xs) → ClkL K H' xs (keptL bs) → Q (.ref p) H'
theorem cal_kept_pairs (T : Tx P K mg) : Cal P w K mg base "kept_pairs" 4 ["lot"] (spKept K) := by
  obtain ⟨fd, F⟩ := T.d_kept_pairs
  have C_keeps := cal_keeps (w := w) (base := base) T
  have M_Clocks := mak_Clocks (w := w) (base := base) T
  refine ⟨_, fd, F.ok (CX := L2.CX P w) sc_kept_pairs (fun vs H Q E h => ?_) (fun cdv A outer s H vs Q E hr h => ?_), T.m_kept_pairs, F.kp, F.bindsN fun _ _ _ _ _ _ us hl => match us, hl with | [_], _ => rfl⟩
  · obtain ⟨l, bs, rfl, _⟩ := h
    rfl
  · obtain ⟨l, bs, rfl, hL, k⟩ := h
    refine ⟨_, ((pss_cons (ps_set (i := 1) sc_kept_pairs.nd rfl (Or.inl rfl) (pe_lst pa_nil))
      (pss_cons (ps_for ownE rfl (pi_tup (pe_gref T.m_KEPT_CLOCKS)) (pg_name (i := 2) sc_kept_pairs.nd rfl (Or.inl rfl))
        (pss_one (ps_for ownE rfl (pi_tup (pe_gref T.m_KEPT_CLOCKS)) (pg_name (i := 3) sc_kept_pairs.nd rfl (Or.inl rfl))
        (pss_cons (ps_set (i := 4) sc_kept_pairs.nd rfl (Or.inl rfl) (pe_makeC M_Clocks (hr.mono (by decide)) passE (pa_cons (pv 2) (pa_cons (pv 3) pa_nil))))
      (pss_one (ps_if (pt_val (pe_callC C_keeps (hr.mono (by decide)) passE (pa_cons (pv 0) (pa_cons (pv 4) pa_nil)))) (pss_one (ps_expr (pe_bm PySem.F.plainAttrs_list PySem.F.slot_list_append PySem.F.type_list_append mt_append (pv 1) (pa_cons (pv 4) pa_nil)))) pss_nil))))))
      (pss_one (ps_ret (pv 1)))))), ?_⟩
    walk_at "rd"
    intro lt hlt
    refine ⟨⟨_, T.t_KEPT_CLOCKS _⟩, loopT (KC.map V.int) (I1 K H l lt bs)
      ⟨none, none, none, [], rfl, Same.new hlt, upd_same, ⟨rfl, fun i x e => by simp at e⟩⟩ (fun i σ' H' _ _ => T.t_KEPT_CLOCKS _) ?_ ?_⟩
    · rintro i x σ' H1 hi ⟨v2, v3, v4, xs, rfl, s1, h1, c1⟩
      obtain ⟨a, ha, rfl⟩ := map_at hi
      obtain ⟨ca, ca0⟩ := KC_clk (List.mem_of_getElem? ha)
      walk_at "rd"
      refine ⟨⟨_, T.t_KEPT_CLOCKS _⟩, loopT (KC.map V.int) (I2 K H l lt bs i a)
        ⟨v3, v4, xs, rfl, s1, h1, by simpa using c1⟩ (fun i σ' H' _ _ => T.t_KEPT_CLOCKS _) ?_ ?_⟩
      · rintro j x σ' H2 hj ⟨v3, v4, xs, rfl, s2, h2, c2⟩
        obtain ⟨u, hu, rfl⟩ := map_at hj
        obtain ⟨cu, cu0⟩ := KC_clk (List.mem_of_getElem? hu)
        walk_at "rd"
        intro x dx hx hdx hne
        refine ⟨x, dx, a, u, rfl, upd_same, ca, cu, fun H3 b3 c3 => ⟨rfl, ?_⟩⟩
        have s3 : Same H2 H3 := Same.made hx hdx b3
        refine ⟨l, x, bs, a, u, rfl, hL.mono (s2.trans s3), c3, ca0, cu0, ?_⟩
        have ex : ∀ (L : List (Int × Int)), keptF bs (L ++ [(a, u)]) = keptF bs L ++ (if keepB a u bs = true then [(a, u)] else []) := fun L => by
          unfold keptF
          rw [List.filter_append, List.filter_cons]
          rfl
        have eL : ((KC.take i).flatMap fun a => KC.map fun u => (a, u)) ++ (KC.take (j + 1)).map (fun u => (a, u)) = (((KC.take i).flatMap fun a => KC.map fun u => (a, u)) ++ (KC.take j).map fun u => (a, u)) ++ [(a, u)] := by
          rw [take_snoc hu, List.map_append, List.append_assoc]
          rfl
        by_cases hk : keepB a u bs = true
        · rw [hk]
          walk_at "rd"
          refine ⟨tyL (s3 _ _ h2), xs, s3 _ _ h2, ?_, _, _, _, rfl, Same.mut (s2.trans s3) hlt, upd_same, ?_⟩
          · rw [c2.1]
            exact Nat.lt_of_le_of_lt (kept_len bs i j a) (by decide)
          · rw [eL, ex, if_pos hk]
            have hxt : x ≠ lt := fun z => by
              rw [z, h2] at hx
              cases hx
            obtain ⟨dx', c3'⟩ := c3
            have c4 := (c2.mono s3).snoc (p := x) (c := (a, u)) ⟨dx', c3'⟩
            refine ⟨c4.1, fun i y e => ?_⟩
            obtain ⟨c, p, e1, e2, d, e3⟩ := c4.2 i y e
            exact ⟨c, p, e1, e2, d, by rw [upd_ne (ne_of e3 (s3 _ _ h2) (by intro z; cases z))]; exact e3⟩
        · have hk' : keepB a u bs = false := by simpa using hk
          rw [hk']
          walk_at "rd"
          refine ⟨_, _, _, rfl, s2.trans s3, s3 _ _ h2, ?_⟩
          rw [eL, ex, if_neg hk, List.append_nil]
          exact c2.mono s3
      · rintro σ' H2 ⟨v3, v4, xs, rfl, s2, h2, c2⟩
        refine ⟨_, _, _, _, rfl, s2, h2, ?_⟩
        rw [take_snoc ha, List.flatMap_append]
        have e6 : (KC.map V.int).length = KC.length := List.length_map ..
        rw [e6, List.take_length] at c2
        simpa using c2
    · rintro σ' H1 ⟨v2, v3, v4, xs, rfl, s1, h1, c1⟩
      walk_at "rd"
      exact k H1 lt xs s1 hlt h1 c1
/-! ### excludes -/
def M31 : Int := 10000000000000000000000000000000
def exclB (a u m n : Int) : Bool := !decide (a ∣ m) && !decide (u ∣ n)
def spExcludes (K : PySem.W.Frag) : Sp := fun vs H Q _ => ∃ (p : Addr) (a u m n : Int), vs = [.ref p, .int m, .int n] ∧ ClkAt K H p a u ∧ 0 ≤ a ∧ 0 ≤ u ∧ (1 ≤ m ∧ m ≤ M31) ∧ (1 ≤ n ∧ n ≤ M31) ∧ Q (.bl (exclB a u m n)) H
theorem cal_excludes_size (T : Tx P K mg) : Cal P w K mg base "excludes_size" 3 ["pair", "m", "n"] (spExcludes K) := by
  obtain ⟨fd, F⟩ := T.d_excludes_size
  have C_divides := cal_divides (w := w) (base := base) T
  have C_look_size := cal_look_size (w := w) (base := base) T
  refine ⟨_, fd, F.ok (CX := L2.CX P w) sc_excludes_size (fun vs H Q E h => ?_) (fun cdv A outer s H vs Q E hr h => ?_), T.m_excludes_size, F.kp, F.bindsN fun _ _ _ _ _ _ us hl => match us, hl with | [_, _, _], _ => rfl⟩
  · obtain ⟨p, a, u, m, n, rfl, _⟩ := h
    rfl
  · obtain ⟨p, a, u, m, n, rfl, ⟨dp, hp⟩, ha, hu, hm, hn, k⟩ := h
    refine ⟨_, ((pss_cons (ps_expr (pe_callC C_look_size (hr.mono (by decide)) passE (pa_cons (pv 1) (pa_cons (pv 2) (pa_cons (pe_gint T.c_MOST_SIDE_kept) pa_nil)))))
      (pss_one (ps_ret (pe_and (pe_not (pe_callC C_divides (hr.mono (by decide)) passE (pa_cons (pe_fld (pv 0) rfl) (pa_cons (pv 1) pa_nil)))) (pe_one (pe_not (pe_callC C_divides (hr.mono (by decide)) passE (pa_cons (pe_fld (pv 0) rfl) (pa_cons (pv 2) pa_nil)))))))))), ?_⟩
    walk_at "rd"
    refine ⟨m, n, M31, rfl, fun _ _ => ?_, fun z => absurd hm z, fun _ z => absurd hn z⟩
    refine ⟨_, _, _, hp, T.cl_Clocks, T.na_Clocks_along, _, lk_1, a, m, rfl, ha, ?_⟩
    unfold exclB at k
    by_cases h1 : a ∣ m
    · rw [decide_eq_true h1] at k ⊢
      walk_at "rd"
      exact k
    · rw [decide_eq_false h1] at k ⊢
      walk_at "rd"
      refine ⟨_, _, _, hp, T.cl_Clocks, T.na_Clocks_up, _, lk_2 (by decide), u, n, rfl, hu, ?_⟩
      walk_at "rd"
      exact k
def firstEx (bs : List (Int × Int)) (m n : Int) : Option (Int × Int) := (keptL bs).find? fun c => exclB c.1 c.2 m n
def spExcluding (K : PySem.W.Frag) : Sp := fun vs H Q E => ∃ (l : Addr) (bs : List (Int × Int)) (m n : Int), vs = [.ref l, .int m, .int n] ∧ LotAt K H l bs ∧ (¬ (1 ≤ m ∧ m ≤ M31) → Err K "NumberError" "number" (.int m) H E) ∧ ((1 ≤ m ∧ m ≤ M31) → ¬ (1 ≤ n ∧ n ≤ M31) → Err K "NumberError" "number" (.int n) H E) ∧
  ((1 ≤ m ∧ m ≤ M31) → (1 ≤ n ∧ n ≤ M31) → ∀ H', Same H H' → (firstEx bs m n = none → Q .non H') ∧ (∀ c p, firstEx bs m n = some c → ClkAt K H' p c.1 c.2 → Q (.ref p) H'))
def I3 (K : PySem.W.Frag) (H : Hp) (l : Addr) (m n : Int) (cs : List (Int × Int)) (xs : List V) (lp : Addr) (i : Nat) (σ' : L2.St) (H' : Hp) : Prop :=
  ∃ v, σ' = [some (.ref l), some (.int m), some (.int n), v] ∧ Same H H' ∧ H' lp = some (.lst xs) ∧ ClkL K H' xs cs ∧ (cs.take i).find? (fun c => exclB c.1 c.2 m n) = none
theorem P36_pos {c : Int × Int} (h : c ∈ P36) : 0 ≤ c.1 ∧ 0 ≤ c.2 := by
  have : ∀ c ∈ P36, 0 ≤ c.1 ∧ 0 ≤ c.2 := by decide
  exact this c h
theorem fn_excluding_size (T : Tx P K mg) : ∃ fd, FunD K "excluding_size" "excluding_size" (defArgs s_excluding_size) (defBody s_excluding_size) (defScope s_excluding_size) [] [] (He.fAd K ("excluding_size", none)) fd ∧ FnOk P w K mg base (L2.CX P w) 5 (He.fAd K ("excluding_size", none)) fd ["lot", "m", "n"] (spExcluding K) := by
  obtain ⟨fd, F⟩ := T.d_excluding_size
  have C_kept_pairs := cal_kept_pairs (w := w) (base := base) T
  have C_look_size := cal_look_size (w := w) (base := base) T
  have C_excludes_size := cal_excludes_size (w := w) (base := base) T
  refine ⟨fd, F, F.ok (CX := L2.CX P w) sc_excluding_size (fun vs H Q E h => ?_) (fun cdv A outer s H vs Q E hr h => ?_)⟩
  · obtain ⟨l, bs, m, n, rfl, _⟩ := h
    rfl
  · obtain ⟨l, bs, m, n, rfl, hL, k1, k2, k3⟩ := h
    refine ⟨_, ((pss_cons (ps_expr (pe_callC C_look_size (hr.mono (by decide)) passE (pa_cons (pv 1) (pa_cons (pv 2) (pa_cons (pe_gint T.c_MOST_SIDE_kept) pa_nil)))))
      (pss_cons (ps_for ownE rfl (pi_list (pe_callC C_kept_pairs (hr.mono (by decide)) passE (pa_cons (pv 0) pa_nil))) (pg_name (i := 3) sc_excluding_size.nd rfl (Or.inl rfl))
        (pss_one (ps_if (pt_val (pe_callC C_excludes_size (hr.mono (by decide)) passE (pa_cons (pv 3) (pa_cons (pv 1) (pa_cons (pv 2) pa_nil))))) (pss_one (ps_ret (pv 3))) pss_nil)))
      (pss_one (ps_ret pe_non))))), ?_⟩
    walk_at "rd"
    refine ⟨m, n, M31, rfl, fun hm hn => ?_, fun z => k1 z, fun y z => k2 y z⟩
    have k := k3 hm hn
    refine ⟨l, bs, rfl, hL, fun H1 lp xs s1 hlp h1 c1 => ?_⟩
    refine ⟨lp, rfl, ⟨_, SqL.of h1⟩, loopL xs (I3 K H l m n (keptL bs) xs lp) ⟨none, rfl, s1, h1, c1, rfl⟩ (fun i σ' H' _ ⟨_, _, _, e, _⟩ => SqL.of e) ?_ ?_⟩
    · rintro i x σ' H2 hi ⟨v, rfl, s2, h2, c2, f2⟩
      obtain ⟨c, p, e1, rfl, e3⟩ := c2.2 i x hi
      have cp := P36_pos (List.mem_filter.mp (List.mem_of_getElem? e1)).1
      walk_at "rd"
      refine ⟨p, c.1, c.2, m, n, rfl, e3, cp.1, cp.2, hm, hn, ?_⟩
      by_cases hx : exclB c.1 c.2 m n = true
      · rw [hx]
        walk_at "rd"
        refine (k H2 s2).2 c p ?_ e3
        unfold firstEx
        obtain ⟨hlt, hget⟩ := List.getElem?_eq_some_iff.mp e1
        have e4 : keptL bs = (keptL bs).take i ++ (keptL bs).drop i := (List.take_append_drop i _).symm
        rw [e4, List.find?_append, f2, List.drop_eq_getElem_cons hlt, hget, List.find?_cons_of_pos (by exact hx)]
        rfl
      · have hx' : exclB c.1 c.2 m n = false := by simpa using hx
        rw [hx']
        walk_at "rd"
        refine ⟨_, rfl, s2, h2, c2, ?_⟩
        rw [take_snoc e1, List.find?_append, f2, List.find?_cons_of_neg (by rw [hx']; decide)]
        rfl
    · rintro σ' H2 ⟨v, rfl, s2, h2, c2, f2⟩
      walk_at "rd"
      refine (k H2 s2).1 ?_
      unfold firstEx
      rw [c2.1, List.take_length] at f2
      exact f2
theorem cal_excluding_size (T : Tx P K mg) : Cal P w K mg base "excluding_size" 5 ["lot", "m", "n"] (spExcluding K) := by
  obtain ⟨fd, F, O⟩ := fn_excluding_size (w := w) (base := base) T
  exact ⟨_, fd, O, T.m_excluding_size, F.kp, F.bindsN fun _ _ _ _ _ _ us hl => match us, hl with | [_, _, _], _ => rfl⟩
end FW
set_option Elab.async false
set_option linter.all false
set_option maxRecDepth 100000
set_option maxHeartbeats 4000000
local macro_rules | `(tactic| walk_at "rd") => `(tactic| (simp (config := { decide := true }) only [L2.start, L2.tSeq, L2.tNext, L2.tAsg, L2.gName, L2.gTup, L2.gCons, L2.gNil, L2.tRet, L2.tRetN, L2.tIfS, L2.tTest, L2.tOp, L2.tUn, L2.tCons, L2.tNil, L2.tVar, L2.tC, L2.tCall, L2.tCallS, L2.tMake, FW.tCallK0, L2.rI, L2.rI0, L2.rU, L2.rEq, L2.rNe, L2.scal, L2.tB, L2.tNot, L2.tAnd, L2.tOr, L2.tAndV, L2.tOrV, L2.tNotV, L2.tIf, L2.tChain, L2.tDrop, L2.tCB, L2.tTup, L2.tLst, L2.tFld, L2.sFld, L2.tBM, L2.tBM0, L2.rAppend, L2.tRaiseErr, L2.tMkErr, L2.tBreak, L2.tCont, L2.gSub, L2.rSetL, L2.rIxL, L2.tAug, L2.ipI, L2.tSl, L2.tPart, L2.tNoPart, L2.rSlL, L2.CDiv, L2.CDivN, L2.CPow, L2.tPar, L2.rIsB, L2.rNotB, FW.cxK, FW.tFor_eq, FW.tLc_eq, L2.iList, L2.iTup, L2.iRng1, L2.iRng2, L2.iEnum, FW.iOwn, L2.wipe, L2.tYes, PySem.sizeLine_eq, Nat.reduceLeDiff,
  List.map_cons, List.map_nil, List.length_cons, List.length_nil, List.replicate, List.cons_append, List.nil_append, List.append_nil, Nat.sub_self, List.getElem?_cons_zero, List.getElem?_cons_succ, List.set_cons_zero, List.set_cons_succ,
  Option.some.injEq, L2.V.int.injEq, L2.V.bl.injEq, L2.V.ref.injEq, L2.V.str.injEq, exists_eq_left', exists_eq_left, exists_eq_right', exists_eq_right, exists_and_left, exists_const, true_and, and_true, Nat.zero_add, Nat.add_zero, Nat.reduceAdd, Nat.reduceSub, List.cons.injEq, reduceCtorEq, false_and, and_false, exists_false, false_or, or_false, ne_eq, not_false_eq_true, not_true_eq_false, Bool.false_eq_true, if_false, if_true, Bool.not_true, Bool.not_false, ite_self, decide_true, decide_false]))
namespace FW
open PySem PySem.Spec PyProof.Rows L2 PySem.FwE
variable {P : Program} {w : World} {K : PySem.W.Frag} {mg : Str → Option Value} {base : Heap}
/-! ### pairs as data -/
def pD (b : Int × Int) : PyData := .tuple [.int b.1, .int b.2]
theorem pD_eqv (a b : Int × Int) : PyData.eqv (pD a) (pD b) = decide (a = b) := by
  obtain ⟨a1, a2⟩ := a
  obtain ⟨b1, b2⟩ := b
  have e : PyData.eqv (pD (a1, a2)) (pD (b1, b2)) = ((a1 == b1) && ((a2 == b2) && true)) := by simp only [pD, PyData.eqv, PyData.eqvAll]
  rw [e, Bool.and_true, Bool.eq_iff_iff]
  simp
theorem pD_lay (b : Int × Int) : (pD b).canLay0 = true := by simp [pD, PyData.canLay0, PyData.canLayAll0]
theorem pD_shaped (b : Int × Int) : SeqAt.shaped (pD b) = true := by
  have h : (pD b).depth = 1 := by simp [pD, PyData.depth, PyData.depthAll]
  show ((pD b).canLay0 && decide ((pD b).depth ≤ 64)) = true
  rw [Bool.and_eq_true]
  exact ⟨pD_lay b, decide_eq_true (by omega)⟩
theorem pDs_lay : ∀ bs : List (Int × Int), PyData.canLayAll0 (bs.map pD) = true
  | [] => by simp [PyData.canLayAll0]
  | b :: bs => by simp [PyData.canLayAll0, pD_lay b, pDs_lay bs]
theorem pDs_depth : ∀ bs : List (Int × Int), PyData.depthAll (bs.map pD) ≤ 1
  | [] => by simp [PyData.depthAll]
  | b :: bs => by
    have h1 := pDs_depth bs
    have h2 : (pD b).depth = 1 := by simp [pD, PyData.depth, PyData.depthAll]
    simp only [List.map_cons, PyData.depthAll]
    omega
theorem pDs_shaped (bs : List (Int × Int)) : SeqAt.shaped (.list (bs.map pD)) = true := by
  have h := pDs_depth bs
  show (PyData.canLay0 (.list (bs.map pD)) && decide (PyData.depth (.list (bs.map pD)) ≤ 64)) = true
  rw [Bool.and_eq_true]
  refine ⟨by simp only [PyData.canLay0]; exact pDs_lay bs, decide_eq_true ?_⟩
  simp only [PyData.depth]
  omega
theorem pD_any (bs : List (Int × Int)) (b : Int × Int) : ((bs.map pD).any fun z => PyData.eqv z (pD b)) = decide (b ∈ bs) := by
  induction bs with
  | nil => simp
  | cons a bs ih =>
    rw [List.map_cons, List.any_cons, ih, pD_eqv, Bool.eq_iff_iff, Bool.or_eq_true, decide_eq_true_iff, decide_eq_true_iff, decide_eq_true_iff, List.mem_cons]
    exact ⟨fun h => h.imp Eq.symm id, fun h => h.imp Eq.symm id⟩
theorem IsP.dp {H : Hp} {x : V} {b : Int × Int} (h : IsP H x b) : Dp K H x (pD b) := by
  obtain ⟨t, rfl, h⟩ := h
  exact .tup (SqT.of h) (.cons (.int _) (.cons (.int _) .nil))
theorem PL.tail {H : Hp} {x : V} {xs : List V} {b : Int × Int} {bs : List (Int × Int)} (h : PL H (x :: xs) (b :: bs)) : IsP H x b ∧ PL H xs bs := by
  refine ⟨?_, by have := h.1; simpa using this, fun i y e => h.2 (i + 1) y (by simpa using e)⟩
  obtain ⟨c, e, q⟩ := h.2 0 x rfl
  cases e
  exact q
theorem PL.dps {H : Hp} : ∀ {xs : List V} {bs : List (Int × Int)}, PL H xs bs → DpAll K H xs (bs.map pD)
  | [], [], _ => .nil
  | [], _ :: _, h => by cases h.1
  | _ :: _, [], h => by cases h.1
  | x :: xs, b :: bs, h => .cons h.tail.1.dp (PL.dps h.tail.2)
theorem PL.dp {H : Hp} {p : Addr} {xs : List V} {bs : List (Int × Int)} (h : PL H xs bs) (hp : H p = some (.lst xs)) : Dp K H (.ref p) (.list (bs.map pD)) := .lst (SqL.of hp) h.dps
theorem PL.snoc {H : Hp} {xs : List V} {bs : List (Int × Int)} {x : V} {b : Int × Int} (h : PL H xs bs) (hx : IsP H x b) : PL H (xs ++ [x]) (bs ++ [b]) := by
  refine ⟨by simp [h.1], fun i y e => ?_⟩
  by_cases hi : i < xs.length
  · rw [List.getElem?_append_left hi] at e
    obtain ⟨c, e1, e2⟩ := h.2 i y e
    exact ⟨c, by rw [List.getElem?_append_left (by rw [← h.1]; exact hi)]; exact e1, e2⟩
  · have hlt := (List.getElem?_eq_some_iff.mp e).1
    rw [List.length_append, List.length_singleton] at hlt
    obtain rfl : i = xs.length := by omega
    rw [List.getElem?_append_right (Nat.le_refl _)] at e
    simp at e
    subst e
    exact ⟨b, by rw [h.1]; simp, hx⟩
/-- the list p may have changed, its pairs have not -/
theorem IsP.but {H H' : Hp} {p : Addr} {zs : List V} (s : But p H H') (hp : H p = some (.lst zs)) {x : V} {b : Int × Int} (h : IsP H x b) : IsP H' x b := by
  obtain ⟨t, e, h⟩ := h
  exact ⟨t, e, s _ _ h fun z => by rw [z, hp] at h; cases h⟩
theorem PL.but {H H' : Hp} {p : Addr} {zs : List V} (s : But p H H') (hp : H p = some (.lst zs)) {xs : List V} {bs : List (Int × Int)} (h : PL H xs bs) : PL H' xs bs :=
  ⟨h.1, fun i x e => by
    obtain ⟨b, e1, e2⟩ := h.2 i x e
    exact ⟨b, e1, e2.but s hp⟩⟩
/-- the pair that x is -/
def prAt (H : Hp) (x : V) : Int × Int := match x with
  | .ref t => match H t with
    | some (.tup [.int a, .int b]) => (a, b)
    | _ => (0, 0)
  | _ => (0, 0)
theorem IsP.at {H : Hp} {x : V} {b : Int × Int} (h : IsP H x b) : prAt H x = b := by
  obtain ⟨t, rfl, h⟩ := h
  simp [prAt, h]
theorem PL.mem {H : Hp} {xs : List V} {bs : List (Int × Int)} (h : PL H xs bs) {x : V} (hx : x ∈ xs) : ∃ b, IsP H x b := by
  obtain ⟨i, hi, rfl⟩ := List.getElem_of_mem hx
  obtain ⟨b, _, q⟩ := h.2 i _ (List.getElem?_eq_getElem hi)
  exact ⟨b, q⟩
theorem PL.map {H : Hp} : ∀ {xs : List V} {bs : List (Int × Int)}, PL H xs bs → xs.map (prAt H) = bs
  | [], [], _ => rfl
  | [], _ :: _, h => by cases h.1
  | _ :: _, [], h => by cases h.1
  | x :: xs, b :: bs, h => by rw [List.map_cons, h.tail.1.at, PL.map h.tail.2]
theorem PL.perm {H : Hp} {xs ys : List V} {bs : List (Int × Int)} (h : PL H xs bs) (p : ys.Perm xs) : PL H ys (ys.map (prAt H)) ∧ (ys.map (prAt H)).Perm bs := by
  refine ⟨⟨by simp, fun i x e => ?_⟩, by rw [← h.map]; exact p.map _⟩
  obtain ⟨b, q⟩ := h.mem (p.mem_iff.mp (List.mem_of_getElem? e))
  exact ⟨b, by rw [List.getElem?_map, e, Option.map_some, q.at], q⟩
/-! ### Lot -/
def InL (b : Int × Int) : Prop := 1 ≤ b.1 ∧ b.1 ≤ 6 ∧ 1 ≤ b.2 ∧ b.2 ≤ 6
def spLot (K : PySem.W.Frag) : Sp := fun vs H Q _ => ∃ (p q dx : Addr) (xs : List V) (bs : List (Int × Int)), vs = [.ref p, .ref q] ∧ H p = some (.ins (He.ga K "Lot") dx []) ∧ H q = some (.lst xs) ∧ PL H xs bs ∧ (1 ≤ bs.length ∧ bs.length ≤ 6) ∧ (∀ b ∈ bs, InL b) ∧ bs.Nodup ∧
  ∀ (H' : Hp) (bs' : List (Int × Int)), But p H H' → bs'.Perm bs → LotAt K H' p bs' → Q .non H'
def I4 (H : Hp) (p q ls : Addr) (bs : List (Int × Int)) (i : Nat) (σ' : L2.St) (H' : Hp) : Prop :=
  ∃ v3 v4 v5 ys, σ' = [some (.ref p), some (.ref q), some (.ref ls), v3, v4, v5] ∧ Same H H' ∧ H' ls = some (.lst ys) ∧ PL H' ys (bs.take i)
theorem mak_Lot (T : Tx P K mg) : Mak P w K mg base "Lot" (He.ga K "Lot") 2 ["self", "bricks"] (spLot K) := by
  obtain ⟨fd, F⟩ := T.d_LotX_initX
  have C_look_number := cal_look_number (w := w) (base := base) T
  have C_look_count := cal_look_count (w := w) (base := base) T
  refine ⟨_, fd, F.ok (CX := L2.CX P w) sc_LotX_initX (fun vs H Q E h => ?_) (fun cdv A outer s H vs Q E hr h => ?_), T.m_Lot, T.mk_Lot, F.bindsN fun _ _ _ _ _ _ us hl => match us, hl with | [_, _], _ => rfl⟩
  · obtain ⟨p, q, dx, xs, bs, rfl, _⟩ := h
    rfl
  · obtain ⟨p, q, dx, xs, bs, rfl, hp, hq, hb, hn, hin, hnd, k⟩ := h
    refine ⟨_, ((pss_cons (ps_expr (pe_callC C_look_count (hr.mono (by decide)) passE (pa_cons (pe_callB call_len_seq (by rfl) T.f_len PySem.boot_len (pa_cons (pv 1) pa_nil)) (pa_cons pe_int (pa_cons (pe_gint T.c_MOST_BRICKS) pa_nil)))))
      (pss_cons (ps_set (i := 2) sc_LotX_initX.nd rfl (Or.inl rfl) (pe_lst pa_nil))
      (pss_cons (ps_for ownE rfl (pi_enum (by rfl) T.f_enumerate (pa_cons (pv 1) pa_nil)) (pg_tup rfl (pgs_cons (pg_name (i := 3) sc_LotX_initX.nd rfl (Or.inl rfl)) (pgs_cons (pg_tup rfl (pgs_cons (pg_name (i := 4) sc_LotX_initX.nd rfl (Or.inl rfl)) (pgs_cons (pg_name (i := 5) sc_LotX_initX.nd rfl (Or.inl rfl)) pgs_nil))) pgs_nil)))
        (pss_cons (ps_expr (pe_callC C_look_number (hr.mono (by decide)) passE (pa_cons (pv 4) (pa_cons pe_int (pa_cons (pe_gint T.c_LONGEST) pa_nil)))))
      (pss_cons (ps_expr (pe_callC C_look_number (hr.mono (by decide)) passE (pa_cons (pv 5) (pa_cons pe_int (pa_cons (pe_gint T.c_LONGEST) pa_nil)))))
      (pss_cons (ps_if (pt_cmpR (op_inD (u65 hr)) (pe_tup (pa_cons (pv 4) (pa_cons (pv 5) pa_nil))) (pv 2) rfl) (pss_one (ps_raiseE rfl T.e_RepeatError hr takE (pa_cons (pv 3) pa_nil))) pss_nil)
      (pss_one (ps_expr (pe_bm PySem.F.plainAttrs_list PySem.F.slot_list_append PySem.F.type_list_append mt_append (pv 2) (pa_cons (pe_tup (pa_cons (pv 4) (pa_cons (pv 5) pa_nil))) pa_nil))))))))
      (pss_one (ps_fld (pv 0) (pe_callTy call_tuple_of (by rfl) T.f_tuple (by decide +kernel) (pa_cons (pe_callB cr_sortedPO (by rfl) T.f_sorted (by decide +kernel) (pa_cons (pv 2) pa_nil)) pa_nil)) rfl)))))), ?_⟩
    walk_at "rd"
    refine ⟨xs, .inl (SqL.of hq), _, 1, 6, rfl, fun _ => ?_, fun z => absurd (by rw [hb.1]; omega) z⟩
    intro ls hls
    have s0 := Same.new (o := .lst []) hls
    refine ⟨xs, SqL.of (s0 _ _ hq), loopE xs (I4 H p q ls bs) ⟨none, none, none, [], rfl, s0, upd_same, rfl, fun i x e => by simp at e⟩ (fun i σ' H' _ ⟨_, _, _, _, _, s, _⟩ => SqL.of (s _ _ hq)) ?_ ?_⟩
    · rintro i x σ' H1 t hi ⟨v3, v4, v5, ys, rfl, s1, h1, c1⟩ ht
      obtain ⟨b, eb, hxb⟩ := hb.2 i x hi
      obtain ⟨tb, rfl, htb⟩ := hxb
      have mb := List.mem_of_getElem? eb
      have ib := hin b mb
      have s2 := Same.new (o := .tup [.int (i : Nat), .ref tb]) ht
      have hn2 : ¬ b ∈ bs.take i := fun z => by
        rw [← List.take_append_drop i bs] at hnd
        obtain ⟨hlt, hget⟩ := List.getElem?_eq_some_iff.mp eb
        exact (List.nodup_append.mp hnd).2.2 _ z _ (by rw [List.drop_eq_getElem_cons hlt, hget]; exact List.mem_cons_self) rfl
      walk_at "rd"
      refine ⟨_, SqT.of upd_same, rfl, _, _, rfl, _, _, rfl, _, rfl, _, SqT.of (s2 _ _ (s1 _ _ htb)), rfl, _, _, rfl, _, _, rfl, rfl, rfl, b.1, 1, 6, rfl, fun _ => ?_, fun z => absurd ⟨ib.1, ib.2.1⟩ z⟩
      refine ⟨b.2, 1, 6, rfl, fun _ => ?_, fun z => absurd ⟨ib.2.2.1, ib.2.2.2⟩ z⟩
      intro u hu
      have s4 := Same.new (o := .tup [.int b.1, .int b.2]) hu
      have c2 : PL (upd (upd H1 t (.tup [.int (i : Nat), .ref tb])) u (.tup [.int b.1, .int b.2])) ys (bs.take i) := c1.mono (s2.trans s4)
      have h2 := s4 _ _ (s2 _ _ h1)
      refine ⟨pD b, _, IsP.dp ⟨u, rfl, upd_same⟩, c2.dp h2, pD_shaped b, pDs_shaped _, ?_⟩
      rw [pD_any, decide_eq_false hn2]
      walk_at "rd"
      refine ⟨tyL h2, fun u' hu' => ⟨ys, Same.new hu' _ _ h2, ?_, ?_⟩⟩
      · rw [c1.1, List.length_take]
        omega
      · have s5 := Same.new (o := .tup [.int b.1, .int b.2]) hu'
        have c3 := (c2.mono s5).snoc (x := .ref u') (b := b) ⟨u', rfl, upd_same⟩
        refine ⟨_, _, _, _, rfl, Same.mut (s1.trans (s2.trans (s4.trans s5))) hls, upd_same, ?_⟩
        rw [take_snoc eb]
        exact c3.but (But.upd But.refl) (s5 _ _ h2)
    · rintro σ' H1 ⟨v3, v4, v5, ys, rfl, s1, h1, c1⟩
      walk_at "rd"
      rw [hb.1, List.take_length] at c1
      refine ⟨ls, ys, prAt H1, rfl, SqL.of h1, fun x hx => ?_, fun zs t _ hst ht => ?_⟩
      · obtain ⟨b, hxb⟩ := c1.mem hx
        have e := hxb.at
        obtain ⟨t, rfl, h⟩ := hxb
        exact ⟨t, rfl, by rw [e]; exact h⟩
      · refine ⟨t, rfl, zs, .inl ⟨SqL.of upd_same, fun u hu => ?_⟩⟩
        have s3 : Same H1 (upd (upd H1 t (.lst zs)) u (.tup zs)) := (Same.new ht).trans (Same.new hu)
        refine ⟨_, _, _, (s1.trans s3) _ _ hp, T.cl_Lot, T.na_Lot_bricks, (by show 0 < 1000; decide), ?_⟩
        have c2 := c1.perm hst.perm
        have c3 : PL (upd (upd H1 t (.lst zs)) u (.tup zs)) zs (zs.map (prAt H1)) := c2.1.mono s3
        refine k _ (zs.map (prAt H1)) ((But.of (s1.trans s3)).trans (But.upd But.refl)) c2.2 ⟨dx, u, zs, ?_, ?_, ?_⟩
        · rw [upd_same]
          rfl
        · have e : (upd (upd H1 t (.lst zs)) u (.tup zs)) u = some (.tup zs) := upd_same
          rw [upd_ne (ne_of e ((s1.trans s3) _ _ hp) (by intro z; cases z))]
          exact e
        · refine ⟨c3.1, fun i y e => ?_⟩
          obtain ⟨b, e1, t2, e2, e3⟩ := c3.2 i y e
          exact ⟨b, e1, t2, e2, by rw [upd_ne (ne_of e3 ((s1.trans s3) _ _ hp) (by intro z; cases z))]; exact e3⟩
/-! ### look_small -/
def firstLong (bs : List (Int × Int)) : Option Int := (bs.flatMap fun b => [b.1, b.2]).find? fun s => decide (4 < s)
def spLookSmall (K : PySem.W.Frag) : Sp := fun vs H Q E => ∃ (l : Addr) (bs : List (Int × Int)), vs = [.ref l] ∧ LotAt K H l bs ∧ (firstLong bs = none → Q .non H) ∧ (∀ s, firstLong bs = some s → Err K "LongError" "side" (.int s) H E)
def I5 (H : Hp) (l : Addr) (bs : List (Int × Int)) (i : Nat) (σ' : L2.St) (H' : Hp) : Prop := ∃ v1 v2, σ' = [some (.ref l), v1, v2] ∧ H' = H ∧ firstLong (bs.take i) = none
def I6 (H : Hp) (l tb : Addr) (a b : Int) (i : Nat) (σ' : L2.St) (H' : Hp) : Prop := ∃ v2, σ' = [some (.ref l), some (.ref tb), v2] ∧ H' = H ∧ (([a, b].take i).find? fun s => decide (4 < s)) = none
theorem firstLong_app (l m : List (Int × Int)) : firstLong (l ++ m) = (firstLong l).or (firstLong m) := by
  unfold firstLong
  rw [List.flatMap_append, List.find?_append]
theorem cal_look_small (T : Tx P K mg) : Cal P w K mg base "look_small" 2 ["lot"] (spLookSmall K) := by
  obtain ⟨fd, F⟩ := T.d_look_small
  obtain ⟨fdi, FI⟩ := T.d_LotX_iterX
  refine ⟨_, fd, F.ok (CX := L2.CX P w) sc_look_small (fun vs H Q E h => ?_) (fun cdv A outer s H vs Q E hr h => ?_), T.m_look_small, F.kp, F.bindsN fun _ _ _ _ _ _ us hl => match us, hl with | [_], _ => rfl⟩
  · obtain ⟨l, bs, rfl, _⟩ := h
    rfl
  · obtain ⟨l, bs, rfl, ⟨dx, t, xs, hl, ht, hx⟩, k1, k2⟩ := h
    have bI : Binds K fdi ["self"] [] := FI.bindsN fun _ _ _ _ _ _ us hl => match us, hl with | [_], _ => rfl
    refine ⟨_, ((pss_one (ps_for ownE rfl (pi_own (k := 0) T.cl_Lot T.na_Lot_bricks T.me_Lot_XiterX FI sc_LotX_iterX bI (hr.mono (by decide)) (fun _ _ _ _ _ _ => pss_one (ps_ret (pe_callB call_iterT (by rfl) T.f_iter (by decide +kernel) (pa_cons (pe_fld (pv 0) rfl) pa_nil)))) (pv 0)) (pg_name (i := 1) sc_look_small.nd rfl (Or.inl rfl))
        (pss_one (ps_for ownE rfl (pi_tup (pv 1)) (pg_name (i := 2) sc_look_small.nd rfl (Or.inl rfl))
        (pss_one (ps_if (pt_cmpR op_gt (pv 2) (pe_gint T.c_SMALL_SIDE) (nomark _)) (pss_one (ps_raiseE rfl T.e_LongError hr takE (pa_cons (pv 2) pa_nil))) pss_nil))))))), ?_⟩
    walk_at "rd"
    refine ⟨dx, _, hl, t, lk_1, xs, SqT.of ht, loopT xs (I5 H l bs) ⟨none, none, rfl, rfl, rfl⟩ (fun i σ' H' _ ⟨_, _, _, e, _⟩ => by rw [e]; exact SqT.of ht) ?_ ?_⟩
    · rintro i x σ' H1 hi ⟨v1, v2, rfl, rfl, f1⟩
      obtain ⟨b, eb, tb, rfl, htb⟩ := hx.2 i x hi
      walk_at "rd"
      refine ⟨⟨_, SqT.of htb⟩, loopT [.int b.1, .int b.2] (I6 H1 l tb b.1 b.2) ⟨v2, rfl, rfl, rfl⟩ (fun i σ' H' _ ⟨_, _, e, _⟩ => by rw [e]; exact SqT.of htb) ?_ ?_⟩
      · rintro j x σ' H2 hj ⟨v2, rfl, rfl, f2⟩
        have hj' : [V.int b.1, V.int b.2] = [b.1, b.2].map V.int := rfl
        rw [hj'] at hj
        obtain ⟨s, es, rfl⟩ := map_at hj
        walk_at "rd"
        by_cases h4 : 4 < s
        · rw [decide_eq_true h4]
          walk_at "rd"
          refine k2 s ?_
          obtain ⟨hlt, hget⟩ := List.getElem?_eq_some_iff.mp eb
          have e4 : bs = bs.take i ++ (b :: bs.drop (i + 1)) := by rw [← hget, ← List.drop_eq_getElem_cons hlt, List.take_append_drop]
          rw [e4, firstLong_app, f1]
          unfold firstLong
          rw [List.flatMap_cons, List.find?_append]
          obtain ⟨hlt2, hget2⟩ := List.getElem?_eq_some_iff.mp es
          have e5 : [b.1, b.2] = [b.1, b.2].take j ++ (s :: [b.1, b.2].drop (j + 1)) := by rw [← hget2, ← List.drop_eq_getElem_cons hlt2, List.take_append_drop]
          rw [e5, List.find?_append, f2, List.find?_cons_of_pos (by simp [h4])]
          rfl
        · rw [decide_eq_false h4]
          walk_at "rd"
          refine ⟨_, rfl, rfl, ?_⟩
          rw [take_snoc es, List.find?_append, f2, List.find?_cons_of_neg (by simp [h4])]
          rfl
      · rintro σ' H2 ⟨v2, rfl, rfl, f2⟩
        refine ⟨_, _, rfl, rfl, ?_⟩
        rw [take_snoc eb, firstLong_app, f1]
        unfold firstLong
        simpa using f2
    · rintro σ' H1 ⟨v1, v2, rfl, rfl, f1⟩
      walk_at "rd"
      rw [hx.1, List.take_length] at f1
      exact k1 f1
/-! ### is_sized -/
def spSized (K : PySem.W.Frag) : Sp := fun vs H Q E => ∃ (l : Addr) (bs : List (Int × Int)) (m n : Int), vs = [.ref l, .int m, .int n] ∧ LotAt K H l bs ∧ (¬ (1 ≤ m ∧ m ≤ M31) → Err K "NumberError" "number" (.int m) H E) ∧ ((1 ≤ m ∧ m ≤ M31) → ¬ (1 ≤ n ∧ n ≤ M31) → Err K "NumberError" "number" (.int n) H E) ∧
  ((1 ≤ m ∧ m ≤ M31) → (1 ≤ n ∧ n ≤ M31) → (∀ s, firstLong bs = some s → Err K "LongError" "side" (.int s) H E) ∧ (firstLong bs = none → 6 ≤ m ∧ 6 ≤ n ∧ ∀ H', Same H H' → Q (.bl (decide (firstEx bs m n = none))) H'))
theorem fn_is_sized (T : Tx P K mg) : ∃ fd, FunD K "is_sized" "is_sized" (defArgs s_is_sized) (defBody s_is_sized) (defScope s_is_sized) [] [] (He.fAd K ("is_sized", none)) fd ∧ FnOk P w K mg base (L2.CX P w) 6 (He.fAd K ("is_sized", none)) fd ["lot", "m", "n"] (spSized K) := by
  obtain ⟨fd, F⟩ := T.d_is_sized
  have C_look_size := cal_look_size (w := w) (base := base) T
  have C_look_small := cal_look_small (w := w) (base := base) T
  have C_excluding_size := cal_excluding_size (w := w) (base := base) T
  refine ⟨fd, F, F.ok (CX := L2.CX P w) sc_is_sized (fun vs H Q E h => ?_) (fun cdv A outer s H vs Q E hr h => ?_)⟩
  · obtain ⟨l, bs, m, n, rfl, _⟩ := h
    rfl
  · obtain ⟨l, bs, m, n, rfl, hL, k1, k2, k3⟩ := h
    refine ⟨_, ((pss_cons (ps_expr (pe_callC C_look_size (hr.mono (by decide)) passE (pa_cons (pv 1) (pa_cons (pv 2) (pa_cons (pe_gint T.c_MOST_SIDE_great) pa_nil)))))
      (pss_cons (ps_expr (pe_callC C_look_small (hr.mono (by decide)) passE (pa_cons (pv 0) pa_nil)))
      (pss_cons (ps_if (pt_cmpR op_le (pv 1) (pe_gint T.c_WIDEST) (nomark _)) (pss_one ps_never) pss_nil)
      (pss_cons (ps_if (pt_cmpR op_le (pv 2) (pe_gint T.c_WIDEST) (nomark _)) (pss_one ps_never) pss_nil)
      (pss_one (ps_ret (pe_cmpR op_isN (pe_callC C_excluding_size (hr.mono (by decide)) passE (pa_cons (pv 0) (pa_cons (pv 1) (pa_cons (pv 2) pa_nil)))) pe_non (nomark _))))))))), ?_⟩
    walk_at "rd"
    refine ⟨m, n, M31, rfl, fun hm hn => ?_, fun z => k1 z, fun y z => k2 y z⟩
    obtain ⟨k4, k5⟩ := k3 hm hn
    refine ⟨l, bs, rfl, hL, fun f1 => ?_, fun s f1 => k4 s f1⟩
    obtain ⟨m6, n6, k⟩ := k5 f1
    rw [decide_eq_false (by omega : ¬ m ≤ 5)]
    walk_at "rd"
    rw [decide_eq_false (by omega : ¬ n ≤ 5)]
    walk_at "rd"
    refine ⟨l, bs, m, n, rfl, hL, fun z => absurd hm z, fun _ z => absurd hn z, fun _ _ H1 s1 => ⟨fun e => ?_, fun c p e hc => ?_⟩⟩
    · have := k H1 s1
      rw [decide_eq_true e] at this
      exact this
    · have := k H1 s1
      rw [decide_eq_false (by rw [e]; intro z; cases z)] at this
      exact this
theorem cal_is_sized (T : Tx P K mg) : Cal P w K mg base "is_sized" 6 ["lot", "m", "n"] (spSized K) := by
  obtain ⟨fd, F, O⟩ := fn_is_sized (w := w) (base := base) T
  exact ⟨_, fd, O, T.m_is_sized, F.kp, F.bindsN fun _ _ _ _ _ _ us hl => match us, hl with | [_, _, _], _ => rfl⟩
end FW
set_option Elab.async false
set_option linter.all false
set_option maxRecDepth 100000
set_option maxHeartbeats 4000000
local macro_rules | `(tactic| walk_at "rd") => `(tactic| (simp (config := { decide := true }) only [L2.start, L2.tSeq, L2.tNext, L2.tAsg, L2.gName, L2.gTup, L2.gCons, L2.gNil, L2.tRet, L2.tRetN, L2.tIfS, L2.tTest, L2.tOp, L2.tUn, L2.tCons, L2.tNil, L2.tVar, L2.tC, L2.tCall, L2.tCallS, L2.tMake, FW.tCallK0, L2.rI, L2.rI0, L2.rU, L2.rEq, L2.rNe, L2.scal, L2.tB, L2.tNot, L2.tAnd, L2.tOr, L2.tAndV, L2.tOrV, L2.tNotV, L2.tIf, L2.tChain, L2.tDrop, L2.tCB, L2.tTup, L2.tLst, L2.tFld, L2.sFld, L2.tBM, L2.tBM0, L2.rAppend, L2.tRaiseErr, L2.tMkErr, L2.tBreak, L2.tCont, L2.gSub, L2.rSetL, L2.rIxL, L2.tAug, L2.ipI, L2.tSl, L2.tPart, L2.tNoPart, L2.rSlL, L2.CDiv, L2.CDivN, L2.CPow, L2.tPar, L2.rIsB, L2.rNotB, FW.cxK, FW.tFor_eq, FW.tLc_eq, L2.iList, L2.iTup, L2.iRng1, L2.iRng2, L2.iEnum, FW.iOwn, L2.wipe, L2.tYes, PySem.sizeLine_eq, Nat.reduceLeDiff,
  List.map_cons, List.map_nil, List.length_cons, List.length_nil, List.replicate, List.cons_append, List.nil_append, List.append_nil, Nat.sub_self, List.getElem?_cons_zero, List.getElem?_cons_succ, List.set_cons_zero, List.set_cons_succ,
  Option.some.injEq, L2.V.int.injEq, L2.V.bl.injEq, L2.V.ref.injEq, L2.V.str.injEq, exists_eq_left', exists_eq_left, exists_eq_right', exists_eq_right, exists_and_left, exists_const, true_and, and_true, Nat.zero_add, Nat.add_zero, Nat.reduceAdd, Nat.reduceSub, List.cons.injEq, reduceCtorEq, false_and, and_false, exists_false, false_or, or_false, ne_eq, not_false_eq_true, not_true_eq_false, Bool.false_eq_true, if_false, if_true, Bool.not_true, Bool.not_false, ite_self, decide_true, decide_false]))
namespace FW
open PySem PySem.Spec PyProof.Rows L2 PySem.FwE
variable {P : Program} {w : World} {K : PySem.W.Frag} {mg : Str → Option Value} {base : Heap}
/-! ### the pool -/
def Pool (H : Hp) (p : Addr) : Prop := ∃ ns : List Int, H p = some (.lst (ns.map V.int)) ∧ 2 ≤ ns.length
def spDraw : Sp := fun vs H Q _ => ∃ (p : Addr) (lim : Int), vs = [.ref p, .int lim] ∧ Pool H p ∧ (0 < lim ∧ lim < 1073741824) ∧ ∀ (t : Int) (H' : Hp), 0 ≤ t → t < lim → But p H H' → Pool H' p → Q (.int t) H'
theorem ix_in {n : Nat} {i : Int} (h0 : 0 ≤ i) (h1 : i < n) : ixN n i = some i.toNat := by
  unfold ixN
  rw [if_pos h0, if_pos h1]
theorem at_in {ns : List Int} {i : Int} (h0 : 0 ≤ i) (h1 : i < ns.length) : ∃ n, atI (ns.map V.int) i = some (.int n) := by
  have h2 : i.toNat < ns.length := by omega
  refine ⟨ns[i.toNat], ?_⟩
  unfold atI
  rw [List.length_map, ix_in h0 h1, Option.bind_some, List.getElem?_map, List.getElem?_eq_getElem h2]
  rfl
theorem set_int {ns : List Int} {j : Nat} {n : Int} : (ns.map V.int).set j (.int n) = (ns.set j n).map V.int := by rw [List.map_set]
theorem cal__law_draw (T : Tx P K mg) : Cal P w K mg base "_law_draw" 1 ["pool", "limit"] spDraw := by
  obtain ⟨fd, F⟩ := T.d__law_draw
  refine ⟨_, fd, F.ok (CX := L2.CX P w) sc__law_draw (fun vs H Q E h => ?_) (fun cdv A outer s H vs Q E hr h => ?_), T.m__law_draw, F.kp, F.bindsN fun _ _ _ _ _ _ us hl => match us, hl with | [_, _], _ => rfl⟩
  · obtain ⟨p, lim, rfl, _⟩ := h
    rfl
  · obtain ⟨p, lim, rfl, ⟨ns, hp, hn⟩, hl, k⟩ := h
    refine ⟨_, ((pss_cons (ps_set (i := 2) sc__law_draw.nd rfl (Or.inl rfl) (pe_op op_add pe_int (pe_op op_mod (pe_callTy call_int1 (by rfl) T.f_int (by decide +kernel) (pa_cons (pe_ix ix_list (pv 0) pe_int (fun _ _ => rfl)) pa_nil)) (pe_op op_sub (pe_callB call_len_seq (by rfl) T.f_len PySem.boot_len (pa_cons (pv 0) pa_nil)) pe_int))))
      (pss_cons (ps_asg (pe_op op_add (pe_ix ix_list (pv 0) pe_int (fun _ _ => rfl)) pe_int) (pg_sub (pv 0) pe_int set_list))
      (pss_cons (ps_set (i := 3) sc__law_draw.nd rfl (Or.inl rfl) (pe_op op_mod (pe_callTy call_int1 (by rfl) T.f_int (by decide +kernel) (pa_cons (pe_ix ix_list (pv 0) (pv 2) (fun _ _ => rfl)) pa_nil)) (pv 1)))
      (pss_cons (ps_asg (pe_op op_fdiv (pe_ix ix_list (pv 0) (pv 2) (fun _ _ => rfl)) (pv 1)) (pg_sub (pv 0) (pv 2) set_list))
      (pss_one (ps_ret (pv 3)))))))), ?_⟩
    walk_at "rd"
    obtain ⟨n0, e0⟩ := at_in (ns := ns) (i := 0) (by omega) (by omega)
    refine ⟨_, SqL.of hp, _, e0, .inl ⟨n0, rfl, _, .inl (SqL.of hp), by rw [List.length_map]; omega, _, SqL.of hp, _, e0, n0, rfl, _, hp, 0, ix_in (by omega) (by rw [List.length_map]; omega), ?_⟩⟩
    rw [set_int, List.length_map]
    have a0 : 0 ≤ n0 % ((ns.length : Int) - 1) := Int.emod_nonneg _ (by omega)
    have a1 : n0 % ((ns.length : Int) - 1) < (ns.length : Int) - 1 := Int.emod_lt_of_pos _ (by omega)
    have l1 : (ns.set 0 (n0 + 1)).length = ns.length := List.length_set ..
    obtain ⟨n1, e1⟩ := at_in (ns := ns.set 0 (n0 + 1)) (i := 1 + n0 % ((ns.length : Int) - 1)) (by omega) (by rw [l1]; omega)
    refine ⟨_, SqL.of upd_same, _, e1, .inl ⟨n1, rfl, hl.1, _, SqL.of upd_same, _, e1, n1, rfl, hl, ?_⟩⟩
    refine ⟨_, upd_same, _, ix_in (by omega) (by rw [List.length_map, l1]; omega), ?_⟩
    rw [set_int]
    refine k _ _ (Int.emod_nonneg _ (by omega)) (Int.emod_lt_of_pos _ hl.1) (But.upd (But.upd But.refl)) ⟨_, upd_same, ?_⟩
    rw [List.length_set, l1]
    exact hn
theorem gcd_step {a b : Int} (ha : 0 ≤ a) (hb : 0 ≤ b) : Int.gcd b (a % b) = Int.gcd a b := by
  obtain ⟨x, rfl⟩ := Int.eq_ofNat_of_zero_le ha
  obtain ⟨y, rfl⟩ := Int.eq_ofNat_of_zero_le hb
  rw [← Int.natCast_emod, Int.gcd_natCast_natCast, Int.gcd_natCast_natCast, Nat.gcd_comm y, ← Nat.gcd_rec, Nat.gcd_comm]
def spGcd : Sp := fun vs H Q _ => ∃ a b : Int, vs = [.int a, .int b] ∧ 0 ≤ a ∧ 0 ≤ b ∧ Q (.int (Int.gcd a b : Nat)) H
theorem cal__law_gcd (T : Tx P K mg) : Cal P w K mg base "_law_gcd" 1 ["one", "two"] spGcd := by
  obtain ⟨fd, F⟩ := T.d__law_gcd
  refine ⟨_, fd, F.ok (CX := L2.CX P w) sc__law_gcd (fun vs H Q E h => ?_) (fun cdv A outer s H vs Q E hr h => ?_), T.m__law_gcd, F.kp, F.bindsN fun _ _ _ _ _ _ us hl => match us, hl with | [_, _], _ => rfl⟩
  · obtain ⟨a, b, rfl, _⟩ := h
    rfl
  · obtain ⟨a, b, rfl, ha, hb, k⟩ := h
    refine ⟨_, ((pss_cons (ps_while ownE (pt_cmpR op_gt (pv 1) pe_int (nomark _)) (pss_cons (ps_set (i := 2) sc__law_gcd.nd rfl (Or.inl rfl) (pe_op op_mod (pe_callTy call_int1 (by rfl) T.f_int (by decide +kernel) (pa_cons (pv 0) pa_nil)) (pv 1)))
      (pss_cons (ps_set (i := 0) sc__law_gcd.nd rfl (Or.inl rfl) (pv 1))
      (pss_one (ps_set (i := 1) sc__law_gcd.nd rfl (Or.inl rfl) (pv 2))))))
      (pss_one (ps_ret (pv 0))))), ?_⟩
    walk_at "rd"
    refine whileW (fun m σ' H' => ∃ (a' b' : Int) (r : Option V), σ' = [some (.int a'), some (.int b'), r] ∧ H' = H ∧ 0 ≤ a' ∧ 0 ≤ b' ∧ Int.gcd a' b' = Int.gcd a b ∧ m = b'.toNat) b.toNat ⟨a, b, none, rfl, rfl, ha, hb, rfl, rfl⟩ ?_
    rintro m σ' H' ⟨a', b', r, rfl, rfl, ha', hb', hg, rfl⟩
    walk_at "rd"
    by_cases h : 0 < b'
    · rw [decide_eq_true h, if_pos rfl]
      have h2 := Int.emod_nonneg a' (by omega : b' ≠ 0)
      have h3 := Int.emod_lt_of_pos a' h
      refine ⟨fun σ'' H'' => σ'' = [some (.int b'), some (.int (a' % b')), some (.int (a' % b'))] ∧ H'' = H', ?_, h, rfl, rfl⟩
      rintro σ'' H'' ⟨rfl, rfl⟩
      refine ⟨(a' % b').toNat, by omega, b', a' % b', _, rfl, rfl, by omega, h2, ?_, rfl⟩
      rw [gcd_step ha' hb']
      exact hg
    · rw [decide_eq_false h]
      obtain rfl : b' = 0 := by omega
      have e : a' = (Int.gcd a b : Nat) := by rw [← hg, Int.gcd_zero_right]; omega
      rw [e]
      exact k
def spLdiv : Sp := fun vs H Q _ => ∃ d n : Int, vs = [.int d, .int n] ∧ 0 ≤ d ∧ Q (.bl (decide (d ∣ n))) H
theorem emod_dvd {d n : Int} : decide (n % d = 0) = decide (d ∣ n) := by
  by_cases e : d ∣ n
  · rw [decide_eq_true e, decide_eq_true (Int.emod_eq_zero_of_dvd e)]
  · rw [decide_eq_false e, decide_eq_false (fun z => e (Int.dvd_of_emod_eq_zero z))]
theorem cal__law_divides (T : Tx P K mg) : Cal P w K mg base "_law_divides" 1 ["d", "n"] spLdiv := by
  obtain ⟨fd, F⟩ := T.d__law_divides
  refine ⟨_, fd, F.ok (CX := L2.CX P w) sc__law_divides (fun vs H Q E h => ?_) (fun cdv A outer s H vs Q E hr h => ?_), T.m__law_divides, F.kp, F.bindsN fun _ _ _ _ _ _ us hl => match us, hl with | [_, _], _ => rfl⟩
  · obtain ⟨d, n, rfl, _⟩ := h
    rfl
  · obtain ⟨d, n, rfl, h0, k⟩ := h
    refine ⟨_, ((pss_cons (ps_if (pt_cmpR op_eq (pv 0) pe_int (nomark _)) (pss_one (ps_ret (pe_cmpR op_eq (pv 1) pe_int (nomark _)))) pss_nil)
      (pss_one (ps_ret (pe_cmpR op_eq (pe_op op_mod (pe_callTy call_int1 (by rfl) T.f_int (by decide +kernel) (pa_cons (pv 1) pa_nil)) (pv 0)) pe_int (nomark _)))))), ?_⟩
    walk_at "rd"
    by_cases h1 : d = 0
    · subst h1
      simpa using k
    · rw [decide_eq_false h1]
      walk_at "rd"
      rw [emod_dvd]
      exact ⟨by omega, k⟩
def spLkeeps : Sp := fun vs H Q _ => ∃ (b : Addr) (xs : List V) (bs : List (Int × Int)) (d e : Int), vs = [.ref b, .int d, .int e] ∧ H b = some (.lst xs) ∧ PL H xs bs ∧ 0 ≤ d ∧ 0 ≤ e ∧ Q (.bl (keepB d e bs)) H
def I7 (H : Hp) (b : Addr) (bs : List (Int × Int)) (d e : Int) (i : Nat) (σ' : L2.St) (H' : Hp) : Prop := ∃ v1 v2, σ' = [some (.ref b), some (.int d), some (.int e), v1, v2] ∧ H' = H ∧ keepB d e (bs.take i) = true
theorem keepB_snoc {a u : Int} {bs : List (Int × Int)} {i : Nat} {b : Int × Int} (hk : keepB a u (bs.take i) = true) (hb : bs[i]? = some b) : keepB a u (bs.take (i + 1)) = (decide (a ∣ b.1) || decide (u ∣ b.2)) := by
  unfold keepB at hk ⊢
  rw [take_snoc hb]
  simp only [List.all_append, hk, Bool.true_and, List.all_cons, List.all_nil, Bool.and_true]
theorem keepB_no {a u : Int} {bs : List (Int × Int)} {i : Nat} {b : Int × Int} (hb : bs[i]? = some b) (e : (decide (a ∣ b.1) || decide (u ∣ b.2)) = false) : keepB a u bs = false := by
  unfold keepB
  rw [List.all_eq_false]
  exact ⟨b, List.mem_of_getElem? hb, by simpa using e⟩
theorem cal__law_keeps (T : Tx P K mg) : Cal P w K mg base "_law_keeps" 2 ["bricks", "d", "e"] spLkeeps := by
  obtain ⟨fd, F⟩ := T.d__law_keeps
  have C__law_divides := cal__law_divides (w := w) (base := base) T
  refine ⟨_, fd, F.ok (CX := L2.CX P w) sc__law_keeps (fun vs H Q E h => ?_) (fun cdv A outer s H vs Q E hr h => ?_), T.m__law_keeps, F.kp, F.bindsN fun _ _ _ _ _ _ us hl => match us, hl with | [_, _, _], _ => rfl⟩
  · obtain ⟨b, xs, bs, d, e, rfl, _⟩ := h
    rfl
  · obtain ⟨b, xs, bs, d, e, rfl, hb, hx, hd, he, k⟩ := h
    refine ⟨_, ((pss_cons (ps_for ownE rfl (pi_list (pv 0)) (pg_tup rfl (pgs_cons (pg_name (i := 3) sc__law_keeps.nd rfl (Or.inl rfl)) (pgs_cons (pg_name (i := 4) sc__law_keeps.nd rfl (Or.inl rfl)) pgs_nil)))
        (pss_one (ps_if (PW.pt (pw_and (pt_not (pt_val (pe_callC C__law_divides (hr.mono (by decide)) passE (pa_cons (pv 1) (pa_cons (pv 3) pa_nil))))) (pw_and1 (pt_not (pt_val (pe_callC C__law_divides (hr.mono (by decide)) passE (pa_cons (pv 2) (pa_cons (pv 4) pa_nil)))))))) (pss_one (ps_ret pe_bl)) pss_nil)))
      (pss_one (ps_ret pe_bl)))), ?_⟩
    walk_at "rd"
    refine ⟨⟨xs, SqL.of hb⟩, loopL xs (I7 H b bs d e) ⟨none, none, rfl, rfl, rfl⟩ (fun i σ' H' _ ⟨_, _, _, e, _⟩ => by rw [e]; exact SqL.of hb) ?_ ?_⟩
    · rintro i x σ' H' hi ⟨v1, v2, rfl, rfl, hk⟩
      obtain ⟨c, hc, tb, rfl, htb⟩ := hx.2 i x hi
      walk_at "rd"
      refine ⟨_, SqT.of htb, rfl, _, _, rfl, _, _, rfl, rfl, d, c.1, rfl, hd, ?_⟩
      have hk2 := keepB_snoc hk hc
      by_cases h1 : d ∣ c.1
      · rw [decide_eq_true h1]
        walk_at "rd"
        refine ⟨_, _, rfl, rfl, ?_⟩
        rw [hk2, decide_eq_true h1]
        simp
      · rw [decide_eq_false h1]
        walk_at "rd"
        refine ⟨e, c.2, rfl, he, ?_⟩
        by_cases h2 : e ∣ c.2
        · rw [decide_eq_true h2]
          walk_at "rd"
          refine ⟨_, _, rfl, rfl, ?_⟩
          rw [hk2, decide_eq_true h2]
          simp
        · rw [decide_eq_false h2]
          walk_at "rd"
          rw [keepB_no hc (by simp [h1, h2])] at k
          exact k
    · rintro σ' H' ⟨v1, v2, rfl, rfl, hk⟩
      walk_at "rd"
      rw [hx.1, List.take_length] at hk
      rw [hk] at k
      exact k
/-- the pairs before the place (i, j) -/
def P36t (i j : Nat) (a : Int) : List (Int × Int) := ((KC.take i).flatMap fun a => KC.map fun u => (a, u)) ++ (KC.take j).map fun u => (a, u)
def exK (bs : List (Int × Int)) (m n : Int) (c : Int × Int) : Bool := keepB c.1 c.2 bs && exclB c.1 c.2 m n
theorem firstEx_eq (bs : List (Int × Int)) (m n : Int) : firstEx bs m n = P36.find? (exK bs m n) := by
  unfold firstEx keptL keptF exK
  rw [List.find?_filter]
  congr 1
  funext c
  rw [Bool.eq_iff_iff]
  simp
def spLexcl : Sp := fun vs H Q _ => ∃ (b : Addr) (xs : List V) (bs : List (Int × Int)) (m n : Int), vs = [.ref b, .int m, .int n] ∧ H b = some (.lst xs) ∧ PL H xs bs ∧ ∀ H', Same H H' → (firstEx bs m n = none → Q .non H') ∧ (∀ c x, firstEx bs m n = some c → IsP H' x c → Q x H')
def I8 (H : Hp) (b l : Addr) (bs : List (Int × Int)) (m n : Int) (i : Nat) (σ' : L2.St) (H' : Hp) : Prop := ∃ v1 v2, σ' = [some (.ref b), some (.int m), some (.int n), v1, v2] ∧ Same H H' ∧ H' l = some (.lst (KC.map V.int)) ∧ ((KC.take i).flatMap fun a => KC.map fun u => (a, u)).find? (exK bs m n) = none
def I9 (H : Hp) (b l l2 : Addr) (bs : List (Int × Int)) (m n : Int) (i : Nat) (a : Int) (j : Nat) (σ' : L2.St) (H' : Hp) : Prop := ∃ v2, σ' = [some (.ref b), some (.int m), some (.int n), some (.int a), v2] ∧ Same H H' ∧ H' l = some (.lst (KC.map V.int)) ∧ H' l2 = some (.lst (KC.map V.int)) ∧ (P36t i j a).find? (exK bs m n) = none
theorem P36_at {i j : Nat} {a u : Int} (hi : KC[i]? = some a) (hj : KC[j]? = some u) : ∃ r, P36 = P36t i j a ++ (a, u) :: r := by
  have cut : ∀ (l : List Int) (k : Nat) (x : Int), l[k]? = some x → l = l.take k ++ x :: l.drop (k + 1) := fun l k x h => by
    obtain ⟨h1, rfl⟩ := List.getElem?_eq_some_iff.mp h
    rw [← List.drop_eq_getElem_cons h1, List.take_append_drop]
  have e1 := cut KC i a hi
  have e2 := cut KC j u hj
  have e3 : (KC.map fun u => (a, u)) = ((KC.take j).map fun u => (a, u)) ++ (a, u) :: (KC.drop (j + 1)).map fun u => (a, u) := by
    conv => lhs; rw [e2]
    rw [List.map_append, List.map_cons]
  refine ⟨((KC.drop (j + 1)).map fun u => (a, u)) ++ (KC.drop (i + 1)).flatMap fun a => KC.map fun u => (a, u), ?_⟩
  have e4 : P36 = (KC.take i ++ a :: KC.drop (i + 1)).flatMap fun a => KC.map fun u => (a, u) := by rw [← e1]; rfl
  rw [e4, List.flatMap_append, List.flatMap_cons, e3]
  unfold P36t
  simp only [List.append_assoc, List.cons_append]
theorem P36t_snoc {i j : Nat} {a u : Int} (hj : KC[j]? = some u) : P36t i (j + 1) a = P36t i j a ++ [(a, u)] := by
  unfold P36t
  rw [take_snoc hj, List.map_append, List.append_assoc]
  rfl
theorem cal__law_excluding (T : Tx P K mg) : Cal P w K mg base "_law_excluding" 3 ["bricks", "m", "n"] spLexcl := by
  obtain ⟨fd, F⟩ := T.d__law_excluding
  have C__law_divides := cal__law_divides (w := w) (base := base) T
  have C__law_keeps := cal__law_keeps (w := w) (base := base) T
  refine ⟨_, fd, F.ok (CX := L2.CX P w) sc__law_excluding (fun vs H Q E h => ?_) (fun cdv A outer s H vs Q E hr h => ?_), T.m__law_excluding, F.kp, F.bindsN fun _ _ _ _ _ _ us hl => match us, hl with | [_, _, _], _ => rfl⟩
  · obtain ⟨b, xs, bs, m, n, rfl, _⟩ := h
    rfl
  · obtain ⟨b, xs, bs, m, n, rfl, hb, hx, k⟩ := h
    refine ⟨_, ((pss_cons (ps_for ownE rfl (pi_list (pe_lst (pa_cons pe_int (pa_cons pe_int (pa_cons pe_int (pa_cons pe_int (pa_cons pe_int (pa_cons pe_int pa_nil)))))))) (pg_name (i := 3) sc__law_excluding.nd rfl (Or.inl rfl))
        (pss_one (ps_for ownE rfl (pi_list (pe_lst (pa_cons pe_int (pa_cons pe_int (pa_cons pe_int (pa_cons pe_int (pa_cons pe_int (pa_cons pe_int pa_nil)))))))) (pg_name (i := 4) sc__law_excluding.nd rfl (Or.inl rfl))
        (pss_one (ps_if (PW.pt (pw_and (pt_not (pt_val (pe_callC C__law_divides (hr.mono (by decide)) passE (pa_cons (pv 3) (pa_cons (pv 1) pa_nil))))) (pw_and1 (pt_not (pt_val (pe_callC C__law_divides (hr.mono (by decide)) passE (pa_cons (pv 4) (pa_cons (pv 2) pa_nil)))))))) (pss_one (ps_if (pt_val (pe_callC C__law_keeps (hr.mono (by decide)) passE (pa_cons (pv 0) (pa_cons (pv 3) (pa_cons (pv 4) pa_nil))))) (pss_one (ps_ret (pe_tup (pa_cons (pv 3) (pa_cons (pv 4) pa_nil))))) pss_nil)) pss_nil)))))
      (pss_one (ps_ret pe_non)))), ?_⟩
    walk_at "rd"
    intro l hl
    refine ⟨⟨_, SqL.of upd_same⟩, loopL (KC.map V.int) (I8 H b l bs m n) ⟨none, none, rfl, Same.new hl, upd_same, rfl⟩ (fun i σ' H' _ ⟨_, _, _, _, e, _⟩ => SqL.of e) ?_ ?_⟩
    · rintro i x σ' H1 hi ⟨v1, v2, rfl, s1, h1, f1⟩
      obtain ⟨a, ha, rfl⟩ := map_at hi
      have ca := (KC_clk (List.mem_of_getElem? ha)).2
      walk_at "rd"
      intro l2 hl2
      have s2 := Same.new (o := .lst (KC.map V.int)) hl2
      refine ⟨⟨_, SqL.of upd_same⟩, loopL (KC.map V.int) (I9 H b l l2 bs m n i a) ⟨v2, rfl, s1.trans s2, s2 _ _ h1, upd_same, by simpa [P36t] using f1⟩ (fun i σ' H' _ ⟨_, _, _, _, e, _⟩ => SqL.of e) ?_ ?_⟩
      · rintro j x σ' H2 hj ⟨v2, rfl, s3, h3, h4, f3⟩
        obtain ⟨u, hu, rfl⟩ := map_at hj
        have cu := (KC_clk (List.mem_of_getElem? hu)).2
        walk_at "rd"
        refine ⟨a, m, rfl, ca, ?_⟩
        have stay : exK bs m n (a, u) = false → I9 H b l l2 bs m n i a (j + 1) [some (.ref b), some (.int m), some (.int n), some (.int a), some (.int u)] H2 := fun e => by
          refine ⟨_, rfl, s3, h3, h4, ?_⟩
          rw [P36t_snoc hu, List.find?_append, f3, List.find?_cons_of_neg (by rw [e]; decide)]
          rfl
        by_cases d1 : a ∣ m
        · rw [decide_eq_true d1]
          walk_at "rd"
          exact stay (by simp [exK, exclB, d1])
        · rw [decide_eq_false d1]
          walk_at "rd"
          refine ⟨u, n, rfl, cu, ?_⟩
          by_cases d2 : u ∣ n
          · rw [decide_eq_true d2]
            walk_at "rd"
            exact stay (by simp [exK, exclB, d2])
          · rw [decide_eq_false d2]
            walk_at "rd"
            refine ⟨b, xs, bs, a, u, rfl, s3 _ _ hb, hx.mono s3, ca, cu, ?_⟩
            by_cases hk : keepB a u bs = true
            · rw [hk]
              walk_at "rd"
              intro t ht
              refine (k _ (s3.trans (Same.new ht))).2 (a, u) _ ?_ ⟨t, rfl, upd_same⟩
              obtain ⟨r, er⟩ := P36_at ha hu
              rw [firstEx_eq, er, List.find?_append, f3, List.find?_cons_of_pos (by simp [exK, exclB, d1, d2, hk])]
              rfl
            · have hk' : keepB a u bs = false := by simpa using hk
              rw [hk']
              walk_at "rd"
              exact stay (by simp [exK, hk'])
      · rintro σ' H2 ⟨v2, rfl, s3, h3, h4, f3⟩
        refine ⟨_, _, rfl, s3, h3, ?_⟩
        have e6 : (KC.map V.int).length = KC.length := List.length_map ..
        unfold P36t at f3
        rw [e6, List.take_length] at f3
        rw [take_snoc ha, List.flatMap_append]
        simpa using f3
    · rintro σ' H2 ⟨v1, v2, rfl, s1, h1, f1⟩
      walk_at "rd"
      refine (k H2 s1).1 ?_
      rw [firstEx_eq]
      exact f1
end FW
set_option Elab.async false
set_option linter.all false
set_option maxRecDepth 100000
set_option maxHeartbeats 4000000
namespace FW
theorem p10_9 : (10 : Int) ^ Int.toNat 9 = 1000000000 := by rfl
theorem p10_20 : (10 : Int) ^ Int.toNat 20 = 100000000000000000000 := by rfl
theorem p10_31 : (10 : Int) ^ Int.toNat 31 = 10000000000000000000000000000000 := by rfl
theorem p10_60 : (10 : Int) ^ Int.toNat 60 = 1000000000000000000000000000000000000000000000000000000000000 := by rfl
theorem p10_18 : (10 : Int) ^ Int.toNat 18 = 1000000000000000000 := by rfl
theorem p10_6 : (10 : Int) ^ Int.toNat 6 = 1000000 := by rfl
theorem p10_23 : (10 : Int) ^ Int.toNat 23 = 100000000000000000000000 := by rfl
theorem p2_61 : (2 : Int) ^ Int.toNat 61 = 2305843009213693952 := by rfl
theorem m60 : L2.CMulW 1000000000000000000000000000000000000000000000000000000000000 1000000000000000000000000000000000000000000000000000000000000 = True := eq_true (by unfold L2.CMulW; decide +kernel)
theorem P10ok : Int.natAbs 10 < 2 ^ 64 := by decide
end FW
local macro_rules | `(tactic| walk_at "rd") => `(tactic| (simp (config := { decide := true }) only [L2.start, L2.tSeq, L2.tNext, L2.tAsg, L2.gName, L2.gTup, L2.gCons, L2.gNil, L2.tRet, L2.tRetN, L2.tIfS, L2.tTest, L2.tOp, L2.tUn, L2.tCons, L2.tNil, L2.tVar, L2.tC, L2.tCall, L2.tCallS, L2.tMake, FW.tCallK0, L2.rI, L2.rI0, L2.rU, L2.rEq, L2.rNe, L2.scal, L2.tB, L2.tNot, L2.tAnd, L2.tOr, L2.tAndV, L2.tOrV, L2.tNotV, L2.tIf, L2.tChain, L2.tDrop, L2.tCB, L2.tTup, L2.tLst, L2.tFld, L2.sFld, L2.tBM, L2.tBM0, L2.rAppend, L2.tRaiseErr, L2.tMkErr, L2.tBreak, L2.tCont, L2.gSub, L2.rSetL, L2.rIxL, L2.tAug, L2.ipI, L2.tSl, L2.tPart, L2.tNoPart, L2.rSlL, L2.CDiv, L2.CDivN, L2.CPow, L2.tPar, L2.rIsB, L2.rNotB, FW.cxK, FW.p10_9, FW.p10_20, FW.p10_31, FW.p10_60, FW.p10_18, FW.p10_6, FW.p10_23, FW.p2_61, FW.P10ok, FW.m60,  FW.tFor_eq, FW.tLc_eq, L2.iList, L2.iTup, L2.iRng1, L2.iRng2, L2.iEnum, FW.iOwn, L2.wipe, L2.tYes, L2.tDNewT, L2.tDNotIn, L2.tDGet, L2.sDPut, PySem.sizeLine_eq, Nat.reduceLeDiff,
  List.map_cons, List.map_nil, List.length_cons, List.length_nil, List.replicate, List.cons_append, List.nil_append, List.append_nil, Nat.sub_self, List.getElem?_cons_zero, List.getElem?_cons_succ, List.set_cons_zero, List.set_cons_succ,
  Option.some.injEq, L2.V.int.injEq, L2.V.bl.injEq, L2.V.ref.injEq, L2.V.str.injEq, exists_eq_left', exists_eq_left, exists_eq_right', exists_eq_right, exists_and_left, exists_const, true_and, and_true, Nat.zero_add, Nat.add_zero, Nat.reduceAdd, Nat.reduceSub, List.cons.injEq, reduceCtorEq, false_and, and_false, exists_false, false_or, or_false, ne_eq, not_false_eq_true, not_true_eq_false, Bool.false_eq_true, if_false, if_true, Bool.not_true, Bool.not_false, ite_self, decide_true, decide_false]))
namespace FW
open PySem PySem.Spec PyProof.Rows L2 PySem.FwE
variable {P : Program} {w : World} {K : PySem.W.Frag} {mg : Str → Option Value} {base : Heap}
def spSide : Sp := fun vs H Q _ => ∃ (p : Addr), vs = [.ref p] ∧ Pool H p ∧ ∀ (t : Int) (H' : Hp), 6 ≤ t → t ≤ M31 → But p H H' → Pool H' p → Q (.int t) H'
theorem cal__law_side (T : Tx P K mg) : Cal P w K mg base "_law_side" 2 ["pool"] spSide := by
  obtain ⟨fd, F⟩ := T.d__law_side
  have C__law_draw := cal__law_draw (w := w) (base := base) T
  refine ⟨_, fd, F.ok (CX := L2.CX P w) sc__law_side (fun vs H Q E h => ?_) (fun cdv A outer s H vs Q E hr h => ?_), T.m__law_side, F.kp, F.bindsN fun _ _ _ _ _ _ us hl => match us, hl with | [_], _ => rfl⟩
  · obtain ⟨p, rfl, _⟩ := h
    rfl
  · obtain ⟨p, rfl, hp, k⟩ := h
    refine ⟨_, ((pss_cons (ps_set (i := 1) sc__law_side.nd rfl (Or.inl rfl) (pe_callC C__law_draw (hr.mono (by decide)) passE (pa_cons (pv 0) (pa_cons pe_int pa_nil))))
      (pss_cons (ps_if (pt_cmpR op_eq (pv 1) pe_int (nomark _)) (pss_one (ps_ret (pe_op op_add pe_int (pe_callC C__law_draw (hr.mono (by decide)) passE (pa_cons (pv 0) (pa_cons pe_int pa_nil)))))) pss_nil)
      (pss_cons (ps_if (pt_cmpR op_eq (pv 1) pe_int (nomark _)) (pss_one (ps_ret (pe_op op_add pe_int (pe_callC C__law_draw (hr.mono (by decide)) passE (pa_cons (pv 0) (pa_cons pe_int pa_nil)))))) pss_nil)
      (pss_cons (ps_if (pt_cmpR op_eq (pv 1) pe_int (nomark _)) (pss_one (ps_ret (pe_op op_add (pe_op op_mul (pe_op op_mul pe_int (pe_op op_add pe_int (pe_callC C__law_draw (hr.mono (by decide)) passE (pa_cons (pv 0) (pa_cons (pe_op op_pow pe_int pe_int) pa_nil))))) (pe_op op_pow pe_int pe_int)) (pe_callC C__law_draw (hr.mono (by decide)) passE (pa_cons (pv 0) (pa_cons pe_int pa_nil)))))) pss_nil)
      (pss_one (ps_ret (pe_op op_sub (pe_op op_pow pe_int pe_int) (pe_callC C__law_draw (hr.mono (by decide)) passE (pa_cons (pv 0) (pa_cons pe_int pa_nil))))))))))), ?_⟩
    walk_at "rd"
    refine ⟨p, 4, rfl, hp, by decide, fun kd H1 k0 k1 b1 p1 => ?_⟩
    walk_at "rd"
    by_cases h0 : kd = 0
    · rw [decide_eq_true h0]
      walk_at "rd"
      refine ⟨p, 12, rfl, p1, by decide, fun t H2 t0 t1 b2 p2 => ?_⟩
      exact ⟨t, rfl, k _ _ (by omega) (by show _ ≤ (10000000000000000000000000000000 : Int); omega) (b1.trans b2) p2⟩
    · rw [decide_eq_false h0]
      walk_at "rd"
      by_cases h1 : kd = 1
      · rw [decide_eq_true h1]
        walk_at "rd"
        refine ⟨p, 90, rfl, p1, by decide, fun t H2 t0 t1 b2 p2 => ?_⟩
        exact ⟨t, rfl, k _ _ (by omega) (by show _ ≤ (10000000000000000000000000000000 : Int); omega) (b1.trans b2) p2⟩
      · rw [decide_eq_false h1]
        walk_at "rd"
        by_cases h2 : kd = 2
        · rw [decide_eq_true h2]
          walk_at "rd"
          refine ⟨p, 1000000000, rfl, p1, by decide, fun t H2 t0 t1 b2 p2 => ⟨t, rfl, .inl (by omega), .inl (by omega), p, 12, rfl, p2, by decide, fun u H3 u0 u1 b3 p3 => ⟨u, rfl, k _ _ (by omega) (by show _ ≤ (10000000000000000000000000000000 : Int); omega) ((b1.trans b2).trans b3) p3⟩⟩⟩
        · rw [decide_eq_false h2]
          walk_at "rd"
          exact ⟨p, 13, rfl, p1, by decide, fun t H2 t0 t1 b2 p2 => ⟨t, rfl, k _ _ (by omega) (by show _ ≤ (10000000000000000000000000000000 : Int); omega) (b1.trans b2) p2⟩⟩
theorem But.mut {p q : Addr} {H H' : Hp} {o : HO} (e : But p H H') (h : H q = none) : But p H (L2.upd H' q o) := fun a u ha hn => by
  rw [upd_ne (ne_of_none ha h)]
  exact e a u ha hn
theorem Pool.ne {H : Hp} {p q : Addr} (h : Pool H p) (hq : H q = none) : q ≠ p := fun z => by
  obtain ⟨ns, e, _⟩ := h
  rw [z, e] at hq
  cases hq
theorem Pool.same {H H' : Hp} {p : Addr} (h : Pool H p) (s : Same H H') : Pool H' p := by
  obtain ⟨ns, e, h⟩ := h
  exact ⟨ns, s _ _ e, h⟩
theorem Pool.mut {H : Hp} {p q : Addr} {o : HO} (h : Pool H p) (n : q ≠ p) : Pool (upd H q o) p := by
  obtain ⟨ns, e, h⟩ := h
  exact ⟨ns, by rw [upd_ne (fun z => n z.symm)]; exact e, h⟩
theorem PL.pool {H H' : Hp} {p : Addr} (hp : Pool H p) (s : But p H H') {xs : List V} {bs : List (Int × Int)} (h : PL H xs bs) : PL H' xs bs := by
  obtain ⟨ns, e, _⟩ := hp
  exact h.but s e
def spBricks : Sp := fun vs H Q _ => ∃ (p : Addr) (many : Int), vs = [.ref p, .int many] ∧ Pool H p ∧ (1 ≤ many ∧ many ≤ 6) ∧ ∀ (H' : Hp) (b : Addr) (xs : List V) (bs : List (Int × Int)), But p H H' → Pool H' p → H b = none → H' b = some (.lst xs) → PL H' xs bs → bs.Nodup → (1 ≤ bs.length ∧ bs.length ≤ 6) → (∀ c ∈ bs, 1 ≤ c.1 ∧ c.1 ≤ 4 ∧ 1 ≤ c.2 ∧ c.2 ≤ 4) → Q (.ref b) H'
def I10 (H : Hp) (p b : Addr) (many : Int) (i : Nat) (σ' : L2.St) (H' : Hp) : Prop := ∃ v1 v2 xs bs, σ' = [some (.ref p), some (.int many), some (.ref b), v1, v2] ∧ But p H H' ∧ Pool H' p ∧ H' b = some (.lst xs) ∧ PL H' xs bs ∧ bs.Nodup ∧ bs.length ≤ i ∧ (1 ≤ i → 1 ≤ bs.length) ∧ (∀ c ∈ bs, 1 ≤ c.1 ∧ c.1 ≤ 4 ∧ 1 ≤ c.2 ∧ c.2 ≤ 4)
theorem cal__law_bricks (T : Tx P K mg) : Cal P w K mg base "_law_bricks" 2 ["pool", "many"] spBricks := by
  obtain ⟨fd, F⟩ := T.d__law_bricks
  have C__law_draw := cal__law_draw (w := w) (base := base) T
  refine ⟨_, fd, F.ok (CX := L2.CX P w) sc__law_bricks (fun vs H Q E h => ?_) (fun cdv A outer s H vs Q E hr h => ?_), T.m__law_bricks, F.kp, F.bindsN fun _ _ _ _ _ _ us hl => match us, hl with | [_, _], _ => rfl⟩
  · obtain ⟨p, many, rfl, _⟩ := h
    rfl
  · obtain ⟨p, many, rfl, hp, hm, k⟩ := h
    refine ⟨_, ((pss_cons (ps_set (i := 2) sc__law_bricks.nd rfl (Or.inl rfl) (pe_lst pa_nil))
      (pss_cons (ps_for ownE rfl (pi_range1 (by rfl) T.f_range (pa_cons (pv 1) pa_nil)) (pg_name (i := 3) sc__law_bricks.nd rfl (Or.inl rfl))
        (pss_cons (ps_set (i := 4) sc__law_bricks.nd rfl (Or.inl rfl) (pe_tup (pa_cons (pe_op op_add pe_int (pe_callC C__law_draw (hr.mono (by decide)) passE (pa_cons (pv 0) (pa_cons pe_int pa_nil)))) (pa_cons (pe_op op_add pe_int (pe_callC C__law_draw (hr.mono (by decide)) passE (pa_cons (pv 0) (pa_cons pe_int pa_nil)))) pa_nil))))
      (pss_one (ps_if (pt_cmpR (op_notInD (u65 hr)) (pv 4) (pv 2) rfl) (pss_one (ps_expr (pe_bm PySem.F.plainAttrs_list PySem.F.slot_list_append PySem.F.type_list_append mt_append (pv 2) (pa_cons (pv 4) pa_nil)))) pss_nil))))
      (pss_one (ps_ret (pv 2)))))), ?_⟩
    walk_at "rd"
    intro b hb
    have nb := hp.ne hb
    obtain ⟨k', hk'⟩ := Int.eq_ofNat_of_zero_le (by omega : 0 ≤ many)
    refine ⟨by omega, by omega, loopR many.toNat (I10 H p b many) ⟨none, none, [], [], rfl, But.of (Same.new hb), hp.same (Same.new hb), upd_same, ⟨rfl, fun i x e => by simp at e⟩, List.nodup_nil, Nat.le_refl _, fun z => by omega, fun c z => by cases z⟩ ?_ ?_⟩
    · rintro i σ' H1 hi ⟨v1, v2, xs, bs, rfl, b1, p1, h1, c1, nd, hl, hl1, hc⟩
      walk_at "rd"
      refine ⟨p, 4, rfl, p1, by decide, fun x H2 x0 x1 b2 p2 => ⟨x, rfl, ?_⟩⟩
      refine ⟨p, 4, rfl, p2, by decide, fun y H3 y0 y1 b3 p3 => ⟨y, rfl, ?_⟩⟩
      intro t ht
      have bb := (b1.trans b2).trans b3
      have c2 := c1.pool p1 (b2.trans b3)
      have h3 := (b2.trans b3) _ _ h1 nb
      have s4 := Same.new (o := .tup [.int (1 + x), .int (1 + y)]) ht
      have h4 := s4 _ _ h3
      have c3 := c2.mono s4
      have q : IsP (upd H3 t (.tup [.int (1 + x), .int (1 + y)])) (.ref t) (1 + x, 1 + y) := ⟨t, rfl, upd_same⟩
      have p4 := p3.same s4
      have b4 := bb.trans (But.of s4)
      refine ⟨pD (1 + x, 1 + y), _, q.dp, c3.dp h4, pD_shaped _, pDs_shaped _, ?_⟩
      rw [pD_any]
      by_cases hm : (1 + x, 1 + y) ∈ bs
      · rw [decide_eq_true hm]
        walk_at "rd"
        refine ⟨_, _, xs, bs, rfl, b4, p4, h4, c3, nd, by omega, fun _ => ?_, hc⟩
        exact List.length_pos_of_mem hm
      · rw [decide_eq_false hm]
        walk_at "rd"
        refine ⟨tyL h4, xs, h4, by rw [c3.1]; omega, ?_⟩
        refine ⟨_, _, _, bs ++ [(1 + x, 1 + y)], rfl, b4.mut hb, p4.mut nb, upd_same, (c3.snoc q).but (But.upd But.refl) h4, ?_, by rw [List.length_append, List.length_singleton]; omega, fun _ => by rw [List.length_append, List.length_singleton]; omega, fun c z => ?_⟩
        · rw [List.nodup_append]
          exact ⟨nd, by simp, fun a ha c hc' e => by
            rw [List.mem_singleton] at hc'
            subst hc' e
            exact hm ha⟩
        · rcases List.mem_append.mp z with z | z
          · exact hc c z
          · rw [List.mem_singleton] at z
            subst z
            dsimp only
            omega
    · rintro σ' H1 ⟨v1, v2, xs, bs, rfl, b1, p1, h1, c1, nd, hl, hl1, hc⟩
      walk_at "rd"
      exact k H1 b xs bs b1 p1 hb h1 c1 nd ⟨hl1 (by omega), by omega⟩ hc
end FW
set_option Elab.async false
set_option linter.all false
set_option maxRecDepth 100000
set_option maxHeartbeats 4000000
local macro_rules | `(tactic| walk_at "rd") => `(tactic| (simp (config := { decide := true }) only [L2.start, L2.tSeq, L2.tNext, L2.tAsg, L2.gName, L2.gTup, L2.gCons, L2.gNil, L2.tRet, L2.tRetN, L2.tIfS, L2.tTest, L2.tOp, L2.tUn, L2.tCons, L2.tNil, L2.tVar, L2.tC, L2.tCall, L2.tCallS, L2.tMake, FW.tCallK0, L2.rI, L2.rI0, L2.rU, L2.rEq, L2.rNe, L2.scal, L2.tB, L2.tNot, L2.tAnd, L2.tOr, L2.tAndV, L2.tOrV, L2.tNotV, L2.tIf, L2.tChain, L2.tDrop, L2.tCB, L2.tTup, L2.tLst, L2.tFld, L2.sFld, L2.tBM, L2.tBM0, L2.rAppend, L2.tRaiseErr, L2.tMkErr, L2.tBreak, L2.tCont, L2.gSub, L2.rSetL, L2.rIxL, L2.tAug, L2.ipI, L2.tSl, L2.tPart, L2.tNoPart, L2.rSlL, L2.CDiv, L2.CDivN, L2.CPow, L2.tPar, L2.rIsB, L2.rNotB, FW.cxK, FW.p10_9, FW.p10_20, FW.p10_31, FW.p10_60, FW.p10_18, FW.p10_6, FW.p10_23, FW.p2_61, FW.P10ok, FW.m60,  FW.tFor_eq, FW.tLc_eq, L2.iList, L2.iTup, L2.iRng1, L2.iRng2, L2.iEnum, FW.iOwn, L2.wipe, L2.tYes, L2.tDNewT, L2.tDNotIn, L2.tDGet, L2.sDPut, PySem.sizeLine_eq, Nat.reduceLeDiff,
  List.map_cons, List.map_nil, List.length_cons, List.length_nil, List.replicate, List.cons_append, List.nil_append, List.append_nil, Nat.sub_self, List.getElem?_cons_zero, List.getElem?_cons_succ, List.set_cons_zero, List.set_cons_succ,
  Option.some.injEq, L2.V.int.injEq, L2.V.bl.injEq, L2.V.ref.injEq, L2.V.str.injEq, exists_eq_left', exists_eq_left, exists_eq_right', exists_eq_right, exists_and_left, exists_const, true_and, and_true, Nat.zero_add, Nat.add_zero, Nat.reduceAdd, Nat.reduceSub, List.cons.injEq, reduceCtorEq, false_and, and_false, exists_false, false_or, or_false, ne_eq, not_false_eq_true, not_true_eq_false, Bool.false_eq_true, if_false, if_true, Bool.not_true, Bool.not_false, ite_self, decide_true, decide_false]))
namespace FW
open PySem PySem.Spec PyProof.Rows L2 PySem.FwE
variable {P : Program} {w : World} {K : PySem.W.Frag} {mg : Str → Option Value} {base : Heap}
def spPool (K : PySem.W.Frag) : Sp := fun vs H Q _ => ∃ (a : Addr) (ns : List Int), vs = [.ref a] ∧ SqL K H a (ns.map V.int) ∧ ns.length ≤ 63 ∧ ∀ (H' : Hp) (p : Addr), Same H H' → Pool H' p → Q (.ref p) H'
def B120 : Int := 1000000000000000000000000000000000000000000000000000000000000 * 1000000000000000000000000000000000000000000000000000000000000
theorem B120_pos : 0 < B120 := by decide
def PR : Int := 2305843009213693952 - 1
theorem cut_map (ns : List Int) (lo hi : Option Int) : ∃ ms : List Int, cutV (ns.map V.int) lo hi = ms.map V.int ∧ ms.length ≤ ns.length := by
  refine ⟨(ns.drop (HT.sIx (ns.map V.int).length 0 lo)).take (HT.sIx (ns.map V.int).length (ns.map V.int).length hi - HT.sIx (ns.map V.int).length 0 lo), ?_, ?_⟩
  · unfold cutV
    rw [List.map_take, List.map_drop]
  · rw [List.length_take, List.length_drop]
    omega
def I11 (H : Hp) (Dl : Addr) (i : Nat) (H' : Hp) : Prop := ∃ cs : List Int, Same H H' ∧ H' Dl = some (.lst (cs.map V.int)) ∧ cs.length = i
def I12 (H : Hp) (a D p : Addr) (cs : List Int) (i : Nat) (σ' : L2.St) (H' : Hp) : Prop := ∃ v2 v5 v6 v7 v8, ∃ ps : List Int, σ' = [some (.ref a), some (.int PR), v2, some (.ref D), some (.ref p), v5, v6, v7, v8] ∧ Same H H' ∧ H' D = some (.lst (cs.map V.int)) ∧ H' p = some (.lst (ps.map V.int)) ∧ ps.length = i + 1
def I13 (H : Hp) (a D p : Addr) (i : Nat) (σ' : L2.St) (H' : Hp) : Prop := ∃ (c o t : Int) (v7 v8 : Option V), σ' = [some (.ref a), some (.int PR), some (.int c), some (.ref D), some (.ref p), some (.int o), some (.int t), v7, v8] ∧ H' = H ∧ (0 ≤ o ∧ o < PR) ∧ (0 ≤ t ∧ t < PR)
theorem cal__law_pool (T : Tx P K mg) : Cal P w K mg base "_law_pool" 1 ["script"] (spPool K) := by
  obtain ⟨fd, F⟩ := T.d__law_pool
  refine ⟨_, fd, F.ok (CX := L2.CX P w) sc__law_pool (fun vs H Q E h => ?_) (fun cdv A outer s H vs Q E hr h => ?_), T.m__law_pool, F.kp, F.bindsN fun _ _ _ _ _ _ us hl => match us, hl with | [_], _ => rfl⟩
  · obtain ⟨a, ns, rfl, _⟩ := h
    rfl
  · obtain ⟨a, ns, rfl, ha, hl, k⟩ := h
    refine ⟨_, ((pss_cons (ps_set (i := 1) sc__law_pool.nd rfl (Or.inl rfl) (pe_op op_sub (pe_op op_pow pe_int pe_int) pe_int))
      (pss_cons (ps_setLc (i := 3) (own := [("cell", 2)]) (g := _) (tt := _) rfl sc__law_pool.nd rfl rfl (sw_true rfl rfl rfl (by decide +kernel)) (pi_list (pe_slice sl_list (pv 0) po_none (po_some pe_int))) (blkOk_by (own := [("cell", 2)]) (N := ["script", "prime", "cell", "cells", "pool", "one", "two", "k", "three"]) (sc := defScope s__law_pool) (by decide +kernel)) (fun _ _ _ _ _ => (pg_name (i := 2) sc__law_pool.nd rfl (Or.inl rfl))) (fun _ _ _ _ _ => pts_nil) (fun _ _ _ _ _ => (pe_op op_mod (pe_callTy call_int1 (by rfl) T.f_int (by decide +kernel) (pa_cons (pv 2) pa_nil)) (pe_op op_mulW (pe_op op_pow pe_int pe_int) (pe_op op_pow pe_int pe_int)))))
      (pss_cons (ps_if (pt_cmpR op_eq (pe_callB call_len_seq (by rfl) T.f_len PySem.boot_len (pa_cons (pv 3) pa_nil)) pe_int (nomark _)) (pss_one (ps_expr (pe_bm PySem.F.plainAttrs_list PySem.F.slot_list_append PySem.F.type_list_append mt_append (pv 3) (pa_cons pe_int pa_nil)))) pss_nil)
      (pss_cons (ps_set (i := 4) sc__law_pool.nd rfl (Or.inl rfl) (pe_lst (pa_cons pe_int pa_nil)))
      (pss_cons (ps_for ownE rfl (pi_list (pv 3)) (pg_name (i := 2) sc__law_pool.nd rfl (Or.inl rfl))
        (pss_cons (ps_if (pt_cmpR op_lt (pv 2) (pe_op op_pow pe_int pe_int) (nomark _)) (pss_cons (ps_set (i := 5) sc__law_pool.nd rfl (Or.inl rfl) (pe_op op_mod (pe_callTy call_int1 (by rfl) T.f_int (by decide +kernel) (pa_cons (pe_op op_mul (pe_op op_add (pv 2) (pe_op op_mul pe_int (pe_callB call_len_seq (by rfl) T.f_len PySem.boot_len (pa_cons (pv 4) pa_nil)))) pe_int) pa_nil)) (pv 1)))
      (pss_cons (ps_set (i := 6) sc__law_pool.nd rfl (Or.inl rfl) (pe_op op_mod (pe_callTy call_int1 (by rfl) T.f_int (by decide +kernel) (pa_cons (pe_op op_add (pe_op op_mul (pv 5) (pv 5)) pe_int) pa_nil)) (pv 1)))
      (pss_cons (ps_set (i := 2) sc__law_pool.nd rfl (Or.inl rfl) (pv 5))
      (pss_one (ps_for ownE rfl (pi_range1 (by rfl) T.f_range (pa_cons pe_int pa_nil)) (pg_name (i := 7) sc__law_pool.nd rfl (Or.inl rfl))
        (pss_cons (ps_set (i := 2) sc__law_pool.nd rfl (Or.inl rfl) (pe_op op_add (pe_op op_mul (pv 2) (pv 1)) (pv 6)))
      (pss_cons (ps_set (i := 8) sc__law_pool.nd rfl (Or.inl rfl) (pe_op op_mod (pe_callTy call_int1 (by rfl) T.f_int (by decide +kernel) (pa_cons (pe_op op_add (pe_op op_mul (pv 5) (pv 6)) pe_int) pa_nil)) (pv 1)))
      (pss_cons (ps_set (i := 5) sc__law_pool.nd rfl (Or.inl rfl) (pv 6))
      (pss_one (ps_set (i := 6) sc__law_pool.nd rfl (Or.inl rfl) (pv 8))))))))))) pss_nil)
      (pss_one (ps_expr (pe_bm PySem.F.plainAttrs_list PySem.F.slot_list_append PySem.F.type_list_append mt_append (pv 4) (pa_cons (pv 2) pa_nil))))))
      (pss_one (ps_ret (pv 4))))))))), ?_⟩
    walk_at "rd"
    refine ⟨_, ha, fun q hq => ?_⟩
    obtain ⟨ms, em, lm⟩ := cut_map ns none (some 63)
    rw [em]
    refine ⟨⟨_, SqL.of upd_same⟩, fun D hD => ?_⟩
    have s1 := Same.new (o := .lst (ms.map V.int)) hq
    have qD : q ≠ D := fun z => by rw [← z, upd_same] at hD; cases hD
    have HD : H D = none := by rw [upd_ne (fun z => qD z.symm)] at hD; exact hD
    have h1 : (upd H q (.lst (ms.map V.int))) q = some (.lst (ms.map V.int)) := upd_same
    refine lcL (ms.map V.int) (I11 (upd H q (.lst (ms.map V.int))) D) ⟨[], Same.new hD, upd_same, rfl⟩ (fun i H' _ ⟨_, s, _⟩ => SqL.of (s _ _ h1)) ?_ ?_
    · rintro i x H1 hi ⟨cs, s2, h2, l2⟩
      obtain ⟨n, hn, rfl⟩ := map_at hi
      walk_at "rd"
      refine ⟨_, h2, by rw [List.length_map, l2]; rw [List.getElem?_eq_some_iff] at hn; have := hn.1; omega, cs ++ [n % B120], Same.mut s2 hD, ?_, by rw [List.length_append, l2]; rfl⟩
      rw [upd_same, List.map_append]
      rfl
    · rintro H1 ⟨cs, s2, h2, l2⟩
      have fin : ∀ (H3 : Hp) (es : List Int), Same H H3 → H3 D = some (.lst (es.map V.int)) → 1 ≤ es.length → es.length ≤ 63 → ∀ p, H3 p = none → ∀ σ' H', I12 H a D p es es.length σ' H' → tRet (tVar 4) { nx := fun _ H' => Q V.non H', rt := Q } σ' H' := by
        rintro H3 es s3 h3 l3 l4 p hp σ' H' ⟨v2, v5, v6, v7, v8, ps, rfl, s4, h4, h5, l5⟩
        walk_at "rd"
        exact k _ _ s4 ⟨ps, h5, by omega⟩
      have l2' : cs.length ≤ 63 := by rw [l2, List.length_map]; omega
      refine ⟨_, .inl (SqL.of h2), ?_⟩
      by_cases h0 : cs.length = 0
      all_goals first
        | (rw [List.length_map, decide_eq_true (by omega), if_pos rfl]
           obtain rfl : cs = [] := List.eq_nil_of_length_eq_zero h0
           refine ⟨tyL h2, _, h2, by decide, ?_⟩
           have s3 : Same H (upd H1 D (.lst ([] ++ [V.int 0]))) := Same.mut (s1.trans s2) HD
           obtain ⟨es, he⟩ : ∃ es : List Int, es = [0] := ⟨_, rfl⟩
           have h3 : (upd H1 D (.lst ([] ++ [V.int 0]))) D = some (.lst (es.map V.int)) := by rw [upd_same, he]; rfl
           have l3 : 1 ≤ es.length := by rw [he]; decide
           have l4 : es.length ≤ 63 := by rw [he]; decide)
        | (rw [List.length_map, decide_eq_false (by omega), if_neg (by decide)]
           have s3 : Same H H1 := s1.trans s2
           obtain ⟨es, he⟩ : ∃ es : List Int, es = cs := ⟨_, rfl⟩
           have h3 : H1 D = some (.lst (es.map V.int)) := by rw [h2, he]
           have l3 : 1 ≤ es.length := by rw [he]; omega
           have l4 : es.length ≤ 63 := by rw [he]; omega)
      all_goals
        intro p hp
        have np : D ≠ p := ne_of_none h3 hp
        have s4 := Same.new (o := .lst [V.int 0]) hp
        have hPp : H p = none := by
          cases e : H p with
          | none => rfl
          | some o => exact absurd ((s3 _ _ e).symm.trans hp) (by intro z; cases z)
        refine ⟨⟨_, SqL.of (s4 _ _ h3)⟩, loopL (es.map V.int) (I12 H a D p es) ⟨none, none, none, none, none, [0], rfl, s3.trans s4, s4 _ _ h3, upd_same, rfl⟩ (fun i σ' H' _ ⟨_, _, _, _, _, _, _, _, e, _⟩ => SqL.of e) ?_ (by have e := fin _ es s3 h3 l3 l4 p hp; rw [List.length_map]; exact e)⟩
        rintro i x σ' H2 hi ⟨v2, v5, v6, v7, v8, ps, rfl, s5, h5, h6, l6⟩
        obtain ⟨c, hc, rfl⟩ := map_at hi
        have li : i < 63 := by
          have := (List.getElem?_eq_some_iff.mp hc).1
          omega
        walk_at "rd"
        have ip : ∀ n : Int, 0 ≤ n % PR ∧ n % PR < PR := fun n => ⟨Int.emod_nonneg _ (by decide), Int.emod_lt_of_pos _ (by decide)⟩
        have PRb : PR < 2 ^ 64 := by decide
        have close : ∀ (v5 v6 v7 v8 : Option V) (c : Int), tyV K "list" (V.ref p) H2 ∧ ∃ x, H2 p = some (.lst x) ∧ x.length < 16777216 ∧ I12 H a D p es (i + 1) [some (.ref a), some (.int PR), some (.int c), some (.ref D), some (.ref p), v5, v6, v7, v8] (upd H2 p (.lst (x ++ [.int c]))) := by
          intro v5 v6 v7 v8 c
          refine ⟨tyL h6, _, h6, by rw [List.length_map, l6]; omega, _, _, _, _, _, ps ++ [c], rfl, Same.mut s5 hPp, by rw [upd_ne np]; exact h5, by rw [upd_same, List.map_append]; rfl, by rw [List.length_append, l6]; rfl⟩
        by_cases hc18 : c < 1000000000000000000
        · rw [decide_eq_true hc18, if_pos rfl]
          refine ⟨_, .inl (SqL.of h6), .inl (by omega), .inr (by omega), .inl (by have := ip ((c + 7919 * ((ps.map V.int).length : Nat)) * 918273645546372819); omega), ?_⟩
          refine loopR (Int.toNat 5) (I13 H2 a D p) ⟨_, _, _, _, _, rfl, rfl, ip _, ip _⟩ ?_ ?_
          · rintro j σ' H6 hj ⟨c, o, t, v7, v8, rfl, rfl, ho, ht⟩
            walk_at "rd"
            refine ⟨.inr (by omega), .inl (by omega), _, _, _, _, _, rfl, rfl, ht, ip _⟩
          · rintro σ' H6 ⟨c, o, t, v7, v8, rfl, rfl, ho, ht⟩
            walk_at "rd"
            exact close _ _ _ _ _
        · rw [decide_eq_false hc18, if_neg (by decide)]
          exact close _ _ _ _ _
end FW
set_option Elab.async false
set_option linter.all false
set_option maxRecDepth 100000
set_option maxHeartbeats 4000000
local macro_rules | `(tactic| walk_at "rd") => `(tactic| (simp (config := { decide := true }) only [L2.start, L2.tSeq, L2.tNext, L2.tAsg, L2.gName, L2.gTup, L2.gCons, L2.gNil, L2.tRet, L2.tRetN, L2.tIfS, L2.tTest, L2.tOp, L2.tUn, L2.tCons, L2.tNil, L2.tVar, L2.tC, L2.tCall, L2.tCallS, L2.tMake, FW.tCallK0, L2.rI, L2.rI0, L2.rU, L2.rEq, L2.rNe, L2.scal, L2.tB, L2.tNot, L2.tAnd, L2.tOr, L2.tAndV, L2.tOrV, L2.tNotV, L2.tIf, L2.tChain, L2.tDrop, L2.tCB, L2.tTup, L2.tLst, L2.tFld, L2.sFld, L2.tBM, L2.tBM0, L2.rAppend, L2.tRaiseErr, L2.tMkErr, L2.tBreak, L2.tCont, L2.gSub, L2.rSetL, L2.rIxL, L2.tAug, L2.ipI, L2.tSl, L2.tPart, L2.tNoPart, L2.rSlL, L2.CDiv, L2.CDivN, L2.CPow, L2.tPar, L2.rIsB, L2.rNotB, FW.cxK, FW.p10_9, FW.p10_20, FW.p10_31, FW.p10_60, FW.p10_18, FW.p10_6, FW.p10_23, FW.p2_61, FW.P10ok, FW.m60,  FW.tFor_eq, FW.tLc_eq, L2.iList, L2.iTup, L2.iRng1, L2.iRng2, L2.iEnum, FW.iOwn, L2.wipe, L2.tYes, L2.tDNewT, L2.tDNotIn, L2.tDGet, L2.sDPut, PySem.sizeLine_eq, Nat.reduceLeDiff,
  List.map_cons, List.map_nil, List.length_cons, List.length_nil, List.replicate, List.cons_append, List.nil_append, List.append_nil, Nat.sub_self, List.getElem?_cons_zero, List.getElem?_cons_succ, List.set_cons_zero, List.set_cons_succ,
  Option.some.injEq, L2.V.int.injEq, L2.V.bl.injEq, L2.V.ref.injEq, L2.V.str.injEq, exists_eq_left', exists_eq_left, exists_eq_right', exists_eq_right, exists_and_left, exists_const, true_and, and_true, Nat.zero_add, Nat.add_zero, Nat.reduceAdd, Nat.reduceSub, List.cons.injEq, reduceCtorEq, false_and, and_false, exists_false, false_or, or_false, ne_eq, not_false_eq_true, not_true_eq_false, Bool.false_eq_true, if_false, if_true, Bool.not_true, Bool.not_false, ite_self, decide_true, decide_false]))
namespace FW
open PySem PySem.Spec PyProof.Rows L2 PySem.FwE
variable {P : Program} {w : World} {K : PySem.W.Frag} {mg : Str → Option Value} {base : Heap}
theorem u1 {k : Nat} {A : Around} (r : Room k A) : A.units + 1 < cLine := by
  have := u65 r
  omega
theorem ixL {X : Cx} {K : PySem.W.Frag} (h : X.K = K) : IxR X (rIxL K) := h ▸ ix_list
theorem inL {X : Cx} {K : PySem.W.Frag} (h : X.K = K) : OpR X (compareOp .In) (rIn K false) := h ▸ op_in_seq
theorem notInL {X : Cx} {K : PySem.W.Frag} (h : X.K = K) : OpR X (compareOp .NotIn) (rIn K true) := h ▸ op_notIn_seq
theorem pg_tupL {X : Cx} {K : PySem.W.Frag} {es : List Expr} {k : Nat} {pos : Pos} {t : TGs} {n : Nat} (hK : X.K = K) (hc : X.calm = true) (h : PGs X es t)
    (hn : (assignEach es X.env).length = n) (hst : (assignEach es X.env).findIdx? (·.1) = none) : PG X (.Tuple es k pos) (gTup K n t) := hK ▸ pg_tup hc h hn hst
/-! ### sums of coins -/
def stepR (cs : List Int) (n : Nat) (r : List Bool) : List Bool := r ++ [cs.any fun p => decide (p ≤ 1 + (n : Int)) && (r[(1 + (n : Int) - p).toNat]?).getD false]
def reachL (cs : List Int) : Nat → List Bool
  | 0 => [true]
  | n + 1 => stepR cs n (reachL cs n)
def leastOf (m : Int) : Int := if m < 48 then m else 48 + m % 12
def isSumB (cs : List Int) (m : Int) : Bool := ((reachL cs (leastOf m).toNat)[(leastOf m).toNat]?).getD false
theorem reachL_len (cs : List Int) : ∀ n, (reachL cs n).length = n + 1
  | 0 => rfl
  | n + 1 => by
    show (stepR cs n (reachL cs n)).length = n + 1 + 1
    unfold stepR
    rw [List.length_append, reachL_len cs n]
    rfl
def spIsSum : Sp := fun vs H Q _ => ∃ (t : Addr) (cs : List Int) (m : Int), vs = [.ref t, .int m] ∧ H t = some (.tup (cs.map V.int)) ∧ (∀ p ∈ cs, 1 ≤ p) ∧ cs.length ≤ 4 ∧ 6 ≤ m ∧ ∀ H', Same H H' → Q (.bl (isSumB cs m)) H'
def I14 (H : Hp) (t r : Addr) (cs : List Int) (m l : Int) (i : Nat) (σ' : L2.St) (H' : Hp) : Prop := ∃ v4 v5 v6, σ' = [some (.ref t), some (.int m), some (.int l), some (.ref r), v4, v5, v6] ∧ Same H H' ∧ H' r = some (.lst ((reachL cs i).map V.bl))
def I15 (H : Hp) (D : Addr) (f : Int → Bool) (cs : List Int) (i : Nat) (H' : Hp) : Prop := ∃ acc : List V, Same H H' ∧ H' D = some (.lst acc) ∧ acc.length ≤ i ∧ (0 < acc.length ↔ (cs.take i).any f = true)
theorem cal__law_is_sum (T : Tx P K mg) : Cal P w K mg base "_law_is_sum" 1 ["coins", "m"] spIsSum := by
  obtain ⟨fd, F⟩ := T.d__law_is_sum
  refine ⟨_, fd, F.ok (CX := L2.CX P w) sc__law_is_sum (fun vs H Q E h => ?_) (fun cdv A outer s H vs Q E hr h => ?_), T.m__law_is_sum, F.kp, F.bindsN fun _ _ _ _ _ _ us hl => match us, hl with | [_, _], _ => rfl⟩
  · obtain ⟨t, cs, m, rfl, _⟩ := h
    rfl
  · obtain ⟨t, cs, m, rfl, ht, hp, hl4, hm, k⟩ := h
    refine ⟨_, ((pss_cons (ps_set (i := 2) sc__law_is_sum.nd rfl (Or.inl rfl) (pe_ifExp (pt_cmpR op_lt (pv 1) pe_int (nomark _)) (pv 1) (pe_op op_add pe_int (pe_op op_mod (pe_callTy call_int1 (by rfl) T.f_int (by decide +kernel) (pa_cons (pv 1) pa_nil)) pe_int))))
      (pss_cons (ps_set (i := 3) sc__law_is_sum.nd rfl (Or.inr rfl) (pe_lst (pa_cons pe_bl pa_nil)))
      (pss_cons (ps_for ownE rfl (pi_range2 (by rfl) T.f_range (pa_cons pe_int (pa_cons (pe_op op_add (pv 2) pe_int) pa_nil))) (pg_name (i := 4) sc__law_is_sum.nd rfl (Or.inr rfl))
        (pss_cons (ps_setLc (i := 5) (own := [("p", 6)]) (g := _) (tt := _) rfl sc__law_is_sum.nd rfl rfl (sw_true rfl rfl rfl (by decide +kernel)) (pi_tup (pv 0)) (blkOk_by (own := [("p", 6)]) (N := ["coins", "m", "least", "reach", "k", "ends", "p"]) (sc := defScope s__law_is_sum) (by decide +kernel)) (fun _ _ _ _ _ => (pg_name (i := 6) sc__law_is_sum.nd rfl (Or.inl rfl))) (fun _ _ _ _ _ => (pts_one (PW.pt (pw_and (pt_cmpR op_le (pv 6) (pv 4) (nomark _)) (pw_and1 (pt_val (pe_ix (ixL (K := K) rfl) (pv 3) (pe_op op_sub (pv 4) (pv 6)) (fun _ _ => rfl)))))))) (fun _ _ _ _ _ => (pv 6)))
      (pss_one (ps_expr (pe_bm PySem.F.plainAttrs_list PySem.F.slot_list_append PySem.F.type_list_append mt_append (pv 3) (pa_cons (pe_cmpR op_gt (pe_callB call_len_seq (by rfl) T.f_len PySem.boot_len (pa_cons (pv 5) pa_nil)) pe_int (nomark _)) pa_nil))))))
      (pss_one (ps_ret (pe_ix ix_list (pv 3) (pv 2) (fun _ _ => rfl)))))))), ?_⟩
    walk_at "rd"
    have hb := Int.emod_nonneg m (by decide : (12 : Int) ≠ 0)
    have hb2 := Int.emod_lt_of_pos m (by decide : (0 : Int) < 12)
    by_cases hm48 : m < 48
    all_goals first
      | (have el : leastOf m = m := if_pos hm48
         rw [decide_eq_true hm48])
      | (have el : leastOf m = 48 + m % 12 := if_neg hm48
         rw [decide_eq_false hm48])
    all_goals
      walk_at "rd"
      intro p hpp
      refine ⟨1, _, ⟨rfl, rfl⟩, ⟨by omega, by omega, by omega, by omega⟩, loopR _ (I14 H t p cs m _) ⟨none, none, none, rfl, Same.new hpp, upd_same⟩ ?_ ?_⟩
      · rintro i σ' H1 hi ⟨v4, v5, v6, rfl, s1, h1⟩
        have nr := reachL_len cs i
        walk_at "rd"
        refine ⟨⟨_, SqT.of (s1 _ _ ht)⟩, fun D hD => ?_⟩
        refine lcT (cs.map V.int) (I15 H1 D (fun q => decide (q ≤ 1 + (i : Int)) && ((reachL cs i)[(1 + (i : Int) - q).toNat]?).getD false) cs) ⟨[], Same.new hD, upd_same, Nat.le_refl _, by simp⟩ (fun i σ' _ ⟨_, s, _⟩ => SqT.of (s _ _ (s1 _ _ ht))) ?_ ?_
        · rintro j x H2 hj ⟨acc, s2, h2, l2, e2⟩
          obtain ⟨q, hq, rfl⟩ := map_at hj
          have q1 := hp q (List.mem_of_getElem? hq)
          have lj := (List.getElem?_eq_some_iff.mp hq).1
          walk_at "rd"
          have stay : (decide (q ≤ 1 + (i : Int)) && ((reachL cs i)[(1 + (i : Int) - q).toNat]?).getD false) = false → I15 H1 D (fun q => decide (q ≤ 1 + (i : Int)) && ((reachL cs i)[(1 + (i : Int) - q).toNat]?).getD false) cs (j + 1) H2 := fun e => by
            refine ⟨acc, s2, h2, by omega, ?_⟩
            rw [take_snoc hq, List.any_append, e2]
            simp only [List.any_cons, List.any_nil, e, Bool.or_false]
          by_cases hq2 : q ≤ 1 + (i : Int)
          · rw [decide_eq_true hq2, if_pos rfl]
            have hlt : (1 + (i : Int) - q).toNat < (reachL cs i).length := by omega
            have e1 : (reachL cs i)[(1 + (i : Int) - q).toNat]? = some (reachL cs i)[(1 + (i : Int) - q).toNat] := List.getElem?_eq_getElem hlt
            refine ⟨_, SqL.of (s2 _ _ h1), V.bl ((reachL cs i)[(1 + (i : Int) - q).toNat]), ?_, _, rfl, ?_⟩
            · unfold atI
              rw [List.length_map, ix_in (by omega) (by omega), Option.bind_some, List.getElem?_map, e1]
              rfl
            · by_cases hb : (reachL cs i)[(1 + (i : Int) - q).toNat] = true
              · rw [hb, if_pos rfl]
                refine ⟨acc, h2, by omega, acc ++ [.int q], Same.mut s2 hD, upd_same, by rw [List.length_append, List.length_singleton]; omega, ?_⟩
                rw [take_snoc hq, List.any_append]
                simp only [List.any_cons, List.any_nil, e1, hb, decide_eq_true hq2, Option.getD_some, Bool.and_self, Bool.or_false, Bool.or_true, List.length_append, List.length_singleton, iff_true]
                omega
              · have hb' : (reachL cs i)[(1 + (i : Int) - q).toNat] = false := by simpa using hb
                rw [hb', if_neg (by decide)]
                exact stay (by rw [e1, hb']; simp)
          · rw [decide_eq_false hq2, if_neg (by decide)]
            exact stay (by simp [hq2])
        · rintro H2 ⟨acc, s2, h2, l2, e2⟩
          rw [List.length_map] at l2 e2
          rw [List.take_length] at e2
          have h3 := s2 _ _ h1
          have e3 : decide ((0 : Int) < ((acc.length : Nat) : Int)) = cs.any (fun q => decide (q ≤ 1 + (i : Int)) && ((reachL cs i)[(1 + (i : Int) - q).toNat]?).getD false) := by
            rw [Bool.eq_iff_iff, ← e2, decide_eq_true_iff]
            omega
          refine ⟨tyL h3, acc, .inl (SqL.of h2), _, h3, by rw [List.length_map, nr]; omega, _, _, _, rfl, Same.mut (s1.trans s2) hpp, ?_⟩
          rw [e3, upd_same]
          show _ = some (HO.lst ((stepR cs i (reachL cs i)).map V.bl))
          unfold stepR
          rw [List.map_append]
          rfl
      · rintro σ' H1 ⟨v4, v5, v6, rfl, s1, h1⟩
        walk_at "rd"
        refine ⟨_, SqL.of h1, V.bl (isSumB cs m), ?_, k _ s1⟩
        unfold isSumB atI
        rw [el, List.length_map, reachL_len, ix_in (by omega) (by omega), Option.bind_some, List.getElem?_map]
        rw [Int.add_sub_cancel, List.getElem?_eq_getElem (by rw [reachL_len]; omega)]
        rfl
/-! ### the height -/
/-- the items whose bit is set -/
def subB {α : Type} : List α → Nat → List α
  | [], _ => []
  | b :: bs, k => if k % 2 = 1 then b :: subB bs (k / 2) else subB bs (k / 2)
theorem subB_snoc {α : Type} (b : α) : ∀ (bs : List α) (k : Nat), subB (bs ++ [b]) k = subB bs k ++ (if k / 2 ^ bs.length % 2 = 1 then [b] else [])
  | [], k => by simp [subB]
  | c :: bs, k => by
    have ih := subB_snoc b bs (k / 2)
    have e : k / 2 / 2 ^ bs.length = k / 2 ^ (bs.length + 1) := by rw [Nat.div_div_eq_div_mul, Nat.pow_succ, Nat.mul_comm]
    rw [e] at ih
    show (if k % 2 = 1 then c :: subB (bs ++ [b]) (k / 2) else subB (bs ++ [b]) (k / 2)) = (if k % 2 = 1 then c :: subB bs (k / 2) else subB bs (k / 2)) ++ _
    rw [ih, List.length_cons]
    split <;> rfl
theorem subB_mem {α : Type} {b : α} : ∀ {bs : List α} {k : Nat}, b ∈ subB bs k → b ∈ bs
  | [], _, h => by cases h
  | c :: bs, k, h => by
    unfold subB at h
    split at h
    · rcases List.mem_cons.mp h with e | h
      · rw [e]
        exact List.mem_cons_self
      · exact List.mem_cons_of_mem _ (subB_mem h)
    · exact List.mem_cons_of_mem _ (subB_mem h)
def coinsOf (bs : List (Int × Int)) : List Int := [1, 2, 3, 4].filter fun p => (bs.map (·.1)).any fun q => decide (q = p)
def lcmStep (h : Nat) (b : Int × Int) : Nat := Nat.lcm h b.2.toNat
def lcmH (bs : List (Int × Int)) : Nat := bs.foldl lcmStep 1
def hStep (bs : List (Int × Int)) (m : Int) (told : Nat) (k : Nat) : Nat := if isSumB (coinsOf (subB bs k)) m = true then Nat.gcd told (lcmH (subB bs k)) else told
def heightT (bs : List (Int × Int)) (m : Int) : Nat → Nat
  | 0 => 0
  | i + 1 => hStep bs m (heightT bs m i) (i + 1)
def heightF (bs : List (Int × Int)) (m : Int) : Nat := heightT bs m (2 ^ bs.length - 1)
def In4 (b : Int × Int) : Prop := 1 ≤ b.1 ∧ b.1 ≤ 4 ∧ 1 ≤ b.2 ∧ b.2 ≤ 4
def spHeight : Sp := fun vs H Q _ => ∃ (b : Addr) (xs : List V) (bs : List (Int × Int)) (m : Int), vs = [.ref b, .int m] ∧ H b = some (.lst xs) ∧ PL H xs bs ∧ (∀ c ∈ bs, In4 c) ∧ bs.length ≤ 6 ∧ 6 ≤ m ∧ ∀ H', Same H H' → Q (.int (heightF bs m : Nat)) H'
theorem lcmH_snoc (bs : List (Int × Int)) (b : Int × Int) : lcmH (bs ++ [b]) = lcmStep (lcmH bs) b := by
  unfold lcmH
  rw [List.foldl_append]
  rfl
theorem q_dvd {b : Int × Int} (h : In4 b) : b.2.toNat ∣ 12 ∧ 0 < b.2.toNat ∧ ((b.2.toNat : Nat) : Int) = b.2 := by
  obtain ⟨_, _, h1, h2⟩ := h
  refine ⟨?_, by omega, by omega⟩
  have e : b.2 = 1 ∨ b.2 = 2 ∨ b.2 = 3 ∨ b.2 = 4 := by omega
  rcases e with e | e | e | e <;> rw [e] <;> decide
theorem lcm_ok : ∀ (bs : List (Int × Int)) (h : Nat), (∀ c ∈ bs, In4 c) → h ∣ 12 → bs.foldl lcmStep h ∣ 12
  | [], h, _, d => d
  | b :: bs, h, hin, d => lcm_ok bs (lcmStep h b) (fun c hc => hin c (List.mem_cons_of_mem _ hc)) (Nat.lcm_dvd d (q_dvd (hin b List.mem_cons_self)).1)
theorem lcmH_dvd {bs : List (Int × Int)} (h : ∀ c ∈ bs, In4 c) : lcmH bs ∣ 12 := lcm_ok bs 1 h (Nat.one_dvd _)
theorem lcmH_le {bs : List (Int × Int)} (h : ∀ c ∈ bs, In4 c) : 0 < lcmH bs ∧ lcmH bs ≤ 12 := by
  have d := lcmH_dvd h
  exact ⟨Nat.pos_of_dvd_of_pos d (by decide), Nat.le_of_dvd (by decide) d⟩
theorem map_inl : ∀ {ds cs : List Int}, ds.map (Sum.inl : Int → Key) = cs.map Sum.inl → ds = cs
  | [], [], _ => rfl
  | [], _ :: _, h => by cases h
  | _ :: _, [], h => by cases h
  | d :: ds, c :: cs, h => by
    rw [List.map_cons, List.map_cons] at h
    injection h with h1 h2
    rw [Sum.inl.inj h1, map_inl h2]
theorem bit_eq (i j : Nat) : decide (Builtin.bitAnd ((1 + (i : Int)) / 2 ^ ((j : Nat) : Int).toNat) 1 = 1) = decide ((i + 1) / 2 ^ j % 2 = 1) := by
  have e2 : (2 : Int) ^ j = ((2 ^ j : Nat) : Int) := by simp
  have e1 : (1 + (i : Int)) = ((i + 1 : Nat) : Int) := by omega
  rw [PyProof.Rows.bitAnd_m1, Int.toNat_natCast, e2, e1, ← Int.natCast_ediv]
  rw [Bool.eq_iff_iff, decide_eq_true_iff, decide_eq_true_iff]
  omega
def R14 : List Int := [1, 2, 3, 4]
theorem R14_at {j : Nat} (h : j < 4) : R14[j]? = some (1 + (j : Int)) := by
  match j, h with
  | 0, _ => rfl
  | 1, _ => rfl
  | 2, _ => rfl
  | 3, _ => rfl
theorem inV_int (p : Int) (ps : List Int) : inV (.int p) (ps.map V.int) = ps.any fun q => decide (q = p) := by
  induction ps with
  | nil => rfl
  | cons q ps ih =>
    show (eqV (.int q) (.int p) || inV (.int p) (ps.map V.int)) = _
    rw [ih, List.any_cons]
    show ((q == p) || _) = _
    rw [Bool.beq_eq_decide_eq]
theorem flat_int (ps : List Int) : (ps.map V.int).all flatV = true := by
  rw [List.all_map]
  exact List.all_eq_true.mpr fun _ _ => rfl
def Known (kvs : List (List Key × V)) (m : Int) : Prop := ∀ (cs : List Int) v, valV kvs (cs.map Sum.inl) = some v → v = .bl (isSumB cs m)
theorem Known.put {kvs : List (List Key × V)} {m : Int} (h : Known kvs m) (cs : List Int) : Known (putK kvs (cs.map Sum.inl) (.bl (isSumB cs m))) m := fun ds v e => by
  rw [valV_put] at e
  split at e
  · next z =>
    have z2 : ds = cs := map_inl z
    rw [z2]
    exact (Option.some.inj e).symm
  · exact h ds v e
theorem keys_int (cs : List Int) : (cs.map (Sum.inl : Int → Key)).map kV = cs.map V.int := by
  rw [List.map_map]
  rfl
def I16 (H : Hp) (b kd : Addr) (bs : List (Int × Int)) (m : Int) (i : Nat) (σ' : L2.St) (H' : Hp) : Prop := ∃ v4 v5 v6 v7 v8 v9 v10 v11 v12 kvs, σ' = [some (.ref b), some (.int m), some (.int (heightT bs m i : Nat)), some (.ref kd), v4, v5, v6, v7, v8, v9, v10, v11, v12] ∧ Same H H' ∧ H' kd = some (.dT kvs) ∧ kvs.length ≤ i ∧ Known kvs m
def I17 (H : Hp) (D : Addr) (bs : List (Int × Int)) (k i : Nat) (H' : Hp) : Prop := ∃ ys, Same H H' ∧ H' D = some (.lst ys) ∧ ys.length ≤ i ∧ PL H' ys (subB (bs.take i) k)
def I18 (H : Hp) (D : Addr) (bs : List (Int × Int)) (i : Nat) (H' : Hp) : Prop := Same H H' ∧ H' D = some (.lst ((bs.take i).map fun c => V.int c.1))
def I20 (H : Hp) (D : Addr) (f : Int → Bool) (i : Nat) (H' : Hp) : Prop := Same H H' ∧ H' D = some (.lst (((R14.take i).filter f).map V.int))
def I19 (H : Hp) (s0 s1 s2 s3 s4 s5 s8 s9 s11 s12 : Option V) (bs : List (Int × Int)) (i : Nat) (σ' : L2.St) (H' : Hp) : Prop := ∃ v6 v7, σ' = [s0, s1, s2, s3, s4, s5, v6, v7, s8, s9, some (.int (lcmH (bs.take i) : Nat)), s11, s12] ∧ H' = H
theorem cal__law_height (T : Tx P K mg) : Cal P w K mg base "_law_height" 2 ["bricks", "m"] spHeight := by
  obtain ⟨fd, F⟩ := T.d__law_height
  have C__law_gcd := cal__law_gcd (w := w) (base := base) T
  have C__law_is_sum := cal__law_is_sum (w := w) (base := base) T
  refine ⟨_, fd, F.ok (CX := L2.CX P w) sc__law_height (fun vs H Q E h => ?_) (fun cdv A outer s H vs Q E hr h => ?_), T.m__law_height, F.kp, F.bindsN fun _ _ _ _ _ _ us hl => match us, hl with | [_, _], _ => rfl⟩
  · obtain ⟨b, xs, bs, m, rfl, _⟩ := h
    rfl
  · obtain ⟨b, xs, bs, m, rfl, hb, hx, hin, hl6, hm, k⟩ := h
    refine ⟨_, ((pss_cons (ps_set (i := 2) sc__law_height.nd rfl (Or.inl rfl) pe_int)
      (pss_cons (ps_set (i := 3) sc__law_height.nd rfl (Or.inl rfl) pe_dnewT)
      (pss_cons (ps_for ownE rfl (pi_range2 (by rfl) T.f_range (pa_cons pe_int (pa_cons (pe_op op_shl pe_int (pe_callB call_len_seq (by rfl) T.f_len PySem.boot_len (pa_cons (pv 0) pa_nil))) pa_nil))) (pg_name (i := 4) sc__law_height.nd rfl (Or.inr rfl))
        (pss_cons (ps_setLc (i := 5) (own := [("k", 11), ("b", 12)]) (g := _) (tt := _) rfl sc__law_height.nd rfl rfl (sw_true rfl rfl rfl (by decide +kernel)) (pi_enum (by rfl) T.f_enumerate (pa_cons (pv 0) pa_nil)) (blkOk_by (own := [("k", 11), ("b", 12)]) (N := ["bricks", "m", "told", "known", "mask", "some", "p", "q", "wide", "coins", "high", "k", "b"]) (sc := defScope s__law_height) (by decide +kernel)) (fun _ _ _ _ _ => (pg_tupL (K := K) (n := 2) rfl rfl (pgs_cons (pg_name (i := 11) sc__law_height.nd rfl (Or.inl rfl)) (pgs_cons (pg_name (i := 12) sc__law_height.nd rfl (Or.inl rfl)) pgs_nil)) rfl rfl)) (fun _ _ _ _ _ => (pts_one (pt_cmpR op_eq (pe_op op_and (pe_op op_shr (pv 4) (pv 11)) pe_int) pe_int (nomark _)))) (fun _ _ _ _ _ => (pv 12)))
      (pss_cons (ps_set (i := 8) sc__law_height.nd rfl (Or.inr rfl) (pe_lc (own := [("p", 6), ("q", 7)]) (g := _) (tt := _) rfl sc__law_height.nd (pi_list (pv 5)) (blkOk_by (own := [("p", 6), ("q", 7)]) (N := ["bricks", "m", "told", "known", "mask", "some", "p", "q", "wide", "coins", "high", "k", "b"]) (sc := defScope s__law_height) (by decide +kernel)) (fun _ _ _ _ _ => (pg_tupL (K := K) (n := 2) rfl rfl (pgs_cons (pg_name (i := 6) sc__law_height.nd rfl (Or.inl rfl)) (pgs_cons (pg_name (i := 7) sc__law_height.nd rfl (Or.inl rfl)) pgs_nil)) rfl rfl)) (fun _ _ _ _ _ => pts_nil) (fun _ _ _ _ _ => (pv 6))))
      (pss_cons (ps_set (i := 9) sc__law_height.nd rfl (Or.inl rfl) (pe_callTy call_tuple_of (by rfl) T.f_tuple (by decide +kernel) (pa_cons (pe_lc (own := [("p", 6)]) (g := _) (tt := _) rfl sc__law_height.nd (pi_range2 (by rfl) T.f_range (pa_cons pe_int (pa_cons pe_int pa_nil))) (blkOk_by (own := [("p", 6)]) (N := ["bricks", "m", "told", "known", "mask", "some", "p", "q", "wide", "coins", "high", "k", "b"]) (sc := defScope s__law_height) (by decide +kernel)) (fun _ _ _ _ _ => (pg_name (i := 6) sc__law_height.nd rfl (Or.inl rfl))) (fun _ _ _ _ _ => (pts_one (pt_cmpR (inL (K := K) rfl) (pv 6) (pv 8) rfl))) (fun _ _ _ _ _ => (pv 6))) pa_nil)))
      (pss_cons (ps_if (pt_cmp (pc_dnotin (u1 hr) (pv 9) (pv 3)) rfl) (pss_one (ps_dput (u1 hr) (pv 3) (pv 9) (pe_callC C__law_is_sum (hr.mono (by decide)) passE (pa_cons (pv 9) (pa_cons (pv 1) pa_nil))) rfl)) pss_nil)
      (pss_one (ps_if (pt_val (pe_dget (u1 hr) (pv 3) (pv 9) (fun _ _ => rfl))) (pss_cons (ps_set (i := 10) sc__law_height.nd rfl (Or.inl rfl) pe_int)
      (pss_cons (ps_for ownE rfl (pi_list (pv 5)) (pg_tup rfl (pgs_cons (pg_name (i := 6) sc__law_height.nd rfl (Or.inl rfl)) (pgs_cons (pg_name (i := 7) sc__law_height.nd rfl (Or.inl rfl)) pgs_nil)))
        (pss_one (ps_set (i := 10) sc__law_height.nd rfl (Or.inl rfl) (pe_op op_fdiv (pe_op op_mul (pv 10) (pv 7)) (pe_callC C__law_gcd (hr.mono (by decide)) passE (pa_cons (pv 10) (pa_cons (pv 7) pa_nil)))))))
      (pss_one (ps_set (i := 2) sc__law_height.nd rfl (Or.inl rfl) (pe_callC C__law_gcd (hr.mono (by decide)) passE (pa_cons (pv 2) (pa_cons (pv 10) pa_nil))))))) pss_nil)))))))
      (pss_one (ps_ret (pv 2))))))), ?_⟩
    walk_at "rd"
    intro kd hkd
    have nb : xs.length = bs.length := hx.1
    have e2 : (2 : Int) ^ ((xs.length : Nat) : Int).toNat = ((2 ^ bs.length : Nat) : Int) := by
      rw [Int.toNat_natCast, nb]
      simp
    have l64 : 2 ^ bs.length ≤ 64 := Nat.pow_le_pow_right (by decide) hl6
    have l0 : 0 < 2 ^ bs.length := Nat.pow_pos (by decide)
    refine ⟨_, .inl (SqL.of (Same.new hkd _ _ hb)), ⟨by omega, by omega⟩, 1, _, ⟨rfl, rfl⟩, ?_, ?_⟩
    · rw [e2]
      omega
    have e0 : (1 * (2 : Int) ^ ((xs.length : Nat) : Int).toNat - 1).toNat = 2 ^ bs.length - 1 := by
      rw [e2]
      omega
    rw [e0]
    refine loopR _ (I16 H b kd bs m) ⟨none, none, none, none, none, none, none, none, none, [], rfl, Same.new hkd, upd_same, Nat.le_refl _, fun cs v e => by cases e⟩ ?_ ?_
    · rintro i σ' H1 hi ⟨v4, v5, v6, v7, v8, v9, v10, v11, v12, kvs, rfl, s1, h1, l1, kn⟩
      walk_at "rd"
      refine ⟨_, SqL.of (s1 _ _ hb), fun D hD => ?_⟩
      have hkd1 := h1
      refine lcE xs (I17 H1 D bs (i + 1)) ⟨[], Same.new hD, upd_same, Nat.le_refl _, rfl, fun i x e => by simp at e⟩ (fun i H' _ ⟨_, s, _⟩ => SqL.of (s _ _ (s1 _ _ hb))) ?_ ?_
      · rintro j x H2 t hj ⟨ys, s2, h2, l2, c2⟩ ht
        obtain ⟨c, hc, hxc⟩ := hx.2 j x hj
        have lj := (List.getElem?_eq_some_iff.mp hc).1
        walk_at "rd"
        have s3 := Same.new (o := .tup [.int (j : Nat), x]) ht
        have h3 := s3 _ _ h2
        have ljb : (bs.take j).length = j := by rw [List.length_take]; omega
        have esn := subB_snoc c (bs.take j) (i + 1)
        rw [← take_snoc hc, ljb] at esn
        refine ⟨_, SqT.of upd_same, rfl, _, _, rfl, _, _, rfl, rfl, _, rfl, by omega, ?_⟩
        rw [bit_eq]
        by_cases hbit : (i + 1) / 2 ^ j % 2 = 1
        · rw [decide_eq_true hbit, if_pos rfl]
          refine ⟨_, h3, by omega, ys ++ [x], Same.mut (s2.trans s3) hD, upd_same, by rw [List.length_append, List.length_singleton]; omega, ?_⟩
          rw [esn, if_pos hbit]
          exact ((c2.mono s3).snoc (hxc.mono (((s1.trans s2)).trans s3))).but (But.upd But.refl) h3
        · rw [decide_eq_false hbit, if_neg (by decide)]
          refine ⟨ys, s2.trans s3, h3, by omega, ?_⟩
          rw [esn, if_neg hbit, List.append_nil]
          exact c2.mono s3
      · rintro H2 ⟨ys, s2, h2, l2, c2⟩
        rw [nb, List.take_length] at c2
        obtain ⟨ss, hss⟩ : ∃ ss, ss = subB bs (i + 1) := ⟨_, rfl⟩
        rw [← hss] at c2
        have ins : ∀ c ∈ ss, In4 c := fun c hc => hin c (subB_mem (by rw [← hss]; exact hc))
        have lys : ys.length = ss.length := c2.1
        refine ⟨⟨_, SqL.of h2⟩, fun D2 hD2 => ?_⟩
        refine lcL ys (I18 H2 D2 ss) ⟨Same.new hD2, upd_same⟩ (fun i H' _ ⟨s, _⟩ => SqL.of (s _ _ h2)) ?_ ?_
        · rintro j x H3 hj ⟨s3, h3⟩
          obtain ⟨c, hc, tc, rfl, htc⟩ := c2.2 j x hj
          have lj := (List.getElem?_eq_some_iff.mp hc).1
          walk_at "rd"
          refine ⟨_, SqT.of (s3 _ _ htc), rfl, _, _, rfl, _, _, rfl, rfl, ?_⟩
          refine ⟨_, h3, by rw [List.length_map, List.length_take]; omega, Same.mut s3 hD2, ?_⟩
          rw [upd_same, take_snoc hc, List.map_append]
          rfl
        · rintro H3 ⟨s3, h3⟩
          rw [lys, List.take_length] at h3
          refine ⟨1, 5, ⟨rfl, rfl⟩, by decide, fun D3 hD3 => ?_⟩
          have e51 : ((5 : Int) - 1).toNat = 4 := by decide
          rw [e51]
          refine lcR 4 (I20 H3 D3 fun p => (ss.map (·.1)).any fun q => decide (q = p)) ⟨Same.new hD3, upd_same⟩ ?_ ?_
          · rintro j H4 hj ⟨s4, h4⟩
            have hR := R14_at hj
            have e3 : (ss.map fun c => V.int c.1) = (ss.map (·.1)).map V.int := by rw [List.map_map]; rfl
            walk_at "rd"
            refine ⟨D2, _, rfl, .inl (SqL.of (s4 _ _ h3)), rfl, by rw [e3]; exact flat_int _, ?_⟩
            rw [if_neg (by decide), e3, inV_int]
            have hf : ∀ v : Bool, (((ss.map (·.1)).any fun q => decide (q = 1 + (j : Int))) = v) → ((R14.take (j + 1)).filter fun p => (ss.map (·.1)).any fun q => decide (q = p)) = ((R14.take j).filter fun p => (ss.map (·.1)).any fun q => decide (q = p)) ++ (if v = true then [1 + (j : Int)] else []) := fun v e => by
              rw [take_snoc hR, List.filter_append, List.filter_cons, e]
              rfl
            have lf : ((R14.take j).filter fun p => (ss.map (·.1)).any fun q => decide (q = p)).length ≤ 4 := Nat.le_trans (List.length_filter_le _ _) (by rw [List.length_take]; omega)
            cases hv : (ss.map (·.1)).any fun q => decide (q = 1 + (j : Int)) with
            | true =>
              refine ⟨_, rfl, ?_⟩
              rw [if_pos rfl]
              refine ⟨_, h4, by rw [List.length_map]; omega, Same.mut s4 hD3, ?_⟩
              rw [upd_same, hf _ hv, if_pos rfl, List.map_append]
              rfl
            | false =>
              refine ⟨_, rfl, ?_⟩
              rw [if_neg (by decide)]
              refine ⟨s4, ?_⟩
              rw [hf _ hv, if_neg (by decide), List.append_nil]
              exact h4
          · rintro H4 ⟨s4, h4⟩
            obtain ⟨cs, hcs⟩ : ∃ cs, cs = coinsOf ss := ⟨_, rfl⟩
            have h4' : H4 D3 = some (.lst (cs.map V.int)) := by rw [h4, hcs]; rfl
            have cs1 : ∀ p ∈ cs, 1 ≤ p := fun p hp => by
              have hm := (List.mem_filter.mp (by rw [hcs] at hp; exact hp)).1
              have : ∀ p ∈ ([1, 2, 3, 4] : List Int), 1 ≤ p := by decide
              exact this p hm
            have cs4 : cs.length ≤ 4 := by
              rw [hcs]
              exact List.length_filter_le _ _
            refine ⟨_, .inl ⟨SqL.of h4', fun l hl => ?_⟩⟩
            have s5 : Same H1 (upd H4 l (.tup (cs.map V.int))) := (((s2.trans s3).trans s4).trans (Same.new hl))
            have g1 := s5 _ _ h1
            have gl : (upd H4 l (.tup (cs.map V.int))) l = some (.tup ((cs.map Sum.inl).map kV)) := by rw [keys_int]; exact upd_same
            have s34 : Same H2 (upd H4 l (.tup (cs.map V.int))) := (s3.trans s4).trans (Same.new hl)
            have gD := s34 _ _ h2
            have gc := c2.mono s34
            refine ⟨_, DGet.t g1 gl, ?_⟩
            have nkl : l ≠ kd := ne_of gl g1 (by intro z; cases z)
            have nkD : D ≠ kd := ne_of gD g1 (by intro z; cases z)
            rcases hv : valV kvs (cs.map Sum.inl) with _ | v
            all_goals first
              | (have z : valV kvs (cs.map Sum.inl) = none := hv
                 rw [if_pos (show (!(none : Option V).isSome) = true from rfl)]
                 refine ⟨l, cs, m, rfl, upd_same, cs1, cs4, hm, fun H5 s6 => ?_⟩
                 have k1 := kn.put cs
                 have q1 := s6 _ _ g1
                 have ql := s6 _ _ gl
                 have e1 : (upd H5 kd (.dT (putK kvs (cs.map Sum.inl) (.bl (isSumB cs m))))) kd = some (.dT (putK kvs (cs.map Sum.inl) (.bl (isSumB cs m)))) := upd_same
                 have e2 := DGet.t (a := kd) (b := l) e1 (by rw [upd_ne nkl]; exact ql)
                 rw [valV_put, if_pos rfl] at e2
                 have f1 : Same H _ := Same.mut (s1.trans (s5.trans s6)) hkd (o := .dT (putK kvs (cs.map Sum.inl) (.bl (isSumB cs m))))
                 have f2 := Nat.le_trans (length_putK kvs (cs.map Sum.inl) (.bl (isSumB cs m))) (Nat.succ_le_succ l1)
                 have f3 : (upd H5 kd (.dT (putK kvs (cs.map Sum.inl) (.bl (isSumB cs m))))) D = some (.lst ys) := by rw [upd_ne nkD]; exact s6 _ _ gD
                 have f4 : PL (upd H5 kd (.dT (putK kvs (cs.map Sum.inl) (.bl (isSumB cs m))))) ys ss := ⟨gc.1, fun i x e => by
                   obtain ⟨b, b1, t, b2, b3⟩ := (gc.mono s6).2 i x e
                   exact ⟨b, b1, t, b2, by rw [upd_ne (ne_of b3 q1 (by intro z; cases z))]; exact b3⟩⟩
                 refine ⟨_, DPut.t q1 ql (by rw [sizeLine_eq]; omega), _, e2, _, rfl, ?_⟩)
              | (rw [if_neg (by simp)]
                 have k1 := kn
                 have e1 := g1
                 have e2 := DGet.t g1 gl
                 rw [hv] at e2
                 have f1 : Same H _ := s1.trans s5
                 have f2 := Nat.le_succ_of_le l1
                 have f3 := gD
                 have f4 := gc
                 refine ⟨_, e2, _, kn _ _ hv, ?_⟩)
            all_goals
              have hstep : heightT bs m (i + 1) = hStep bs m (heightT bs m i) (i + 1) := rfl
              unfold hStep at hstep
              rw [← hss, ← hcs] at hstep
              by_cases hs : isSumB cs m = true
              · rw [if_pos hs] at hstep ⊢
                refine ⟨⟨_, SqL.of f3⟩, loopL ys (I19 _ _ _ _ _ _ _ _ _ _ _ ss) ⟨_, _, rfl, rfl⟩ (fun i σ' H' _ ⟨_, _, _, e⟩ => by rw [e]; exact SqL.of f3) ?_ ?_⟩
                · rintro j x σ' H7 hj ⟨w6, w7, rfl, rfl⟩
                  obtain ⟨c, hc, tc, rfl, htc⟩ := f4.2 j x hj
                  walk_at "rd"
                  have ic := ins c (List.mem_of_getElem? hc)
                  obtain ⟨ic1, ic2, ic3, ic4⟩ := ic
                  obtain ⟨n, hn⟩ := Int.eq_ofNat_of_zero_le (by omega : 0 ≤ c.2)
                  have lt12 := (lcmH_le (bs := ss.take j) fun c hc => ins c (List.mem_of_mem_take hc)).2
                  have ge1 : 0 < Int.gcd ((lcmH (ss.take j) : Nat) : Int) c.2 := by
                    rw [hn, Int.gcd_natCast_natCast]
                    exact Nat.gcd_pos_of_pos_right _ (by omega)
                  have le4 : Int.gcd ((lcmH (ss.take j) : Nat) : Int) c.2 ≤ n := by
                    rw [hn, Int.gcd_natCast_natCast]
                    exact Nat.le_of_dvd (by omega) (Nat.gcd_dvd_right _ _)
                  refine ⟨_, SqT.of htc, rfl, _, _, rfl, _, _, rfl, rfl, c.2, rfl, .inr (by omega), _, c.2, rfl, by omega, by omega, _, rfl, by omega, ?_⟩
                  have ev : ((lcmH (ss.take j) : Nat) : Int) * c.2 / ((Int.gcd ((lcmH (ss.take j) : Nat) : Int) c.2 : Nat) : Int) = ((lcmH (ss.take (j + 1)) : Nat) : Int) := by
                    rw [take_snoc hc, lcmH_snoc]
                    unfold lcmStep
                    rw [hn, Int.toNat_natCast, Int.gcd_natCast_natCast, ← Int.natCast_mul, ← Int.natCast_ediv]
                    rfl
                  rw [ev]
                  exact ⟨_, _, rfl, rfl⟩
                · rintro σ' H7 ⟨w6, w7, rfl, rfl⟩
                  walk_at "rd"
                  rw [lys, List.take_length]
                  refine ⟨_, _, rfl, by omega, by omega, ?_⟩
                  rw [Int.gcd_natCast_natCast]
                  rw [← hstep]
                  exact ⟨_, _, _, _, _, _, _, _, _, _, rfl, f1, e1, f2, k1⟩
              · rw [if_neg hs] at hstep ⊢
                rw [← hstep]
                exact ⟨_, _, _, _, _, _, _, _, _, _, rfl, f1, e1, f2, k1⟩
    · rintro σ' H1 ⟨v4, v5, v6, v7, v8, v9, v10, v11, v12, kvs, rfl, s1, h1, l1, kn⟩
      walk_at "rd"
      exact k _ s1
end FW
set_option Elab.async false
set_option linter.all false
set_option maxRecDepth 100000
set_option maxHeartbeats 4000000
local macro_rules | `(tactic| walk_at "rd") => `(tactic| (simp (config := { decide := true }) only [L2.start, L2.tSeq, L2.tNext, L2.tAsg, L2.gName, L2.gTup, L2.gCons, L2.gNil, L2.tRet, L2.tRetN, L2.tIfS, L2.tTest, L2.tOp, L2.tUn, L2.tCons, L2.tNil, L2.tVar, L2.tC, L2.tCall, L2.tCallS, L2.tMake, FW.tCallK0, L2.rI, L2.rI0, L2.rU, L2.rEq, L2.rNe, L2.scal, L2.tB, L2.tNot, L2.tAnd, L2.tOr, L2.tAndV, L2.tOrV, L2.tNotV, L2.tIf, L2.tChain, L2.tDrop, L2.tCB, L2.tTup, L2.tLst, L2.tFld, L2.sFld, L2.tBM, L2.tBM0, L2.rAppend, L2.tRaiseErr, L2.tMkErr, L2.tBreak, L2.tCont, L2.gSub, L2.rSetL, L2.rIxL, L2.tAug, L2.ipI, L2.tSl, L2.tPart, L2.tNoPart, L2.rSlL, L2.CDiv, L2.CDivN, L2.CPow, L2.tPar, L2.rIsB, L2.rNotB, FW.cxK, FW.p10_9, FW.p10_20, FW.p10_31, FW.p10_60, FW.p10_18, FW.p10_6, FW.p10_23, FW.p2_61, FW.P10ok, FW.m60,  FW.tFor_eq, FW.tLc_eq, L2.iList, L2.iTup, L2.iRng1, L2.iRng2, L2.iEnum, FW.iOwn, L2.wipe, L2.tYes, L2.tDNewT, L2.tDNotIn, L2.tDGet, L2.sDPut, PySem.sizeLine_eq, Nat.reduceLeDiff,
  List.map_cons, List.map_nil, List.length_cons, List.length_nil, List.replicate, List.cons_append, List.nil_append, List.append_nil, Nat.sub_self, List.getElem?_cons_zero, List.getElem?_cons_succ, List.set_cons_zero, List.set_cons_succ,
  Option.some.injEq, L2.V.int.injEq, L2.V.bl.injEq, L2.V.ref.injEq, L2.V.str.injEq, exists_eq_left', exists_eq_left, exists_eq_right', exists_eq_right, exists_and_left, exists_const, true_and, and_true, Nat.zero_add, Nat.add_zero, Nat.reduceAdd, Nat.reduceSub, List.cons.injEq, reduceCtorEq, false_and, and_false, exists_false, false_or, or_false, ne_eq, not_false_eq_true, not_true_eq_false, Bool.false_eq_true, if_false, if_true, Bool.not_true, Bool.not_false, ite_self, decide_true, decide_false]))
namespace FW
open PySem PySem.Spec PyProof.Rows L2 PySem.FwE
variable {P : Program} {w : World} {K : PySem.W.Frag} {mg : Str → Option Value} {base : Heap}
theorem u64 {k : Nat} {A : Around} (r : Room k A) : A.units + 64 < cLine := by
  have := u65 r
  omega
theorem keepB_perm {a u : Int} {bs bs' : List (Int × Int)} (p : bs'.Perm bs) : keepB a u bs' = keepB a u bs := by
  unfold keepB
  rw [Bool.eq_iff_iff, List.all_eq_true, List.all_eq_true]
  exact ⟨fun h b hb => h b (p.mem_iff.mpr hb), fun h b hb => h b (p.mem_iff.mp hb)⟩
theorem firstEx_perm {bs bs' : List (Int × Int)} (p : bs'.Perm bs) (m n : Int) : firstEx bs' m n = firstEx bs m n := by
  rw [firstEx_eq, firstEx_eq]
  congr 1
  funext c
  unfold exK
  rw [keepB_perm p]
theorem firstLong_none {bs : List (Int × Int)} (h : ∀ b ∈ bs, In4 b) : firstLong bs = none := by
  unfold firstLong
  rw [List.find?_eq_none]
  intro s hs
  obtain ⟨b, hb, hs⟩ := List.mem_flatMap.mp hs
  obtain ⟨_, h2, _, h4⟩ := h b hb
  simp at hs
  rcases hs with e | e <;> simp <;> omega
theorem cs_isb (T : Tx P K mg) (b : Bool) (H : Hp) (Q : VK) (h : Q (.bl true) H) : rIsi K [.bl b, .ty "bool"] H Q := ⟨_, _, _, _, _, rfl, .ty "bool", .base (.bl _), T.k_Tbool_Tbool, h⟩
theorem cs_isc (T : Tx P K mg) {p : Addr} {a u : Int} {H : Hp} {Q : VK} (hc : ClkAt K H p a u) (h : Q (.bl true) H) : rIsi K [.ref p, .ref (He.ga K "Clocks")] H Q := by
  obtain ⟨dx, e⟩ := hc
  exact ⟨_, _, _, _, _, rfl, .own _, T.ty_Clocks _ _ _ _ e, T.k_Clocks_Clocks, h⟩
theorem fmod_dec (h n : Int) : decide (n % h = 0) = decide (h ∣ n) := emod_dvd
def spAsked (K : PySem.W.Frag) : Sp := fun vs H Q _ => ∃ (l b : Addr) (xs : List V) (bs bs' : List (Int × Int)) (m n h : Int), vs = [.ref l, .ref b, .int m, .int n, .int h] ∧ LotAt K H l bs' ∧ bs'.Perm bs ∧ H b = some (.lst xs) ∧ PL H xs bs ∧ (∀ c ∈ bs, In4 c) ∧
  (6 ≤ m ∧ m ≤ M31) ∧ (6 ≤ n ∧ n ≤ M31) ∧ ((0 < h ∧ h ∣ n) ↔ firstEx bs m n = none) ∧ ∀ H', Same H H' → Q (.bl true) H'
theorem cal__law_asked (T : Tx P K mg) : Cal P w K mg base "_law_asked" 7 ["lot", "bricks", "m", "n", "high"] (spAsked K) := by
  obtain ⟨fd, F⟩ := T.d__law_asked
  have C_is_sized := cal_is_sized (w := w) (base := base) T
  have C_excluding_size := cal_excluding_size (w := w) (base := base) T
  have C__law_excluding := cal__law_excluding (w := w) (base := base) T
  refine ⟨_, fd, F.ok (CX := L2.CX P w) sc__law_asked (fun vs H Q E h => ?_) (fun cdv A outer s H vs Q E hr h => ?_), T.m__law_asked, F.kp, F.bindsN fun _ _ _ _ _ _ us hl => match us, hl with | [_, _, _, _, _], _ => rfl⟩
  · obtain ⟨l, b, xs, bs, bs', m, n, h, rfl, _⟩ := h
    rfl
  · obtain ⟨l, b, xs, bs, bs', m, n, h, rfl, hL, hp, hb, hx, hin, hm, hn, iff, k⟩ := h
    refine ⟨_, ((pss_cons (ps_set (i := 5) sc__law_asked.nd rfl (Or.inl rfl) (pe_and (pe_cmpR op_gt (pv 4) pe_int (nomark _)) (pe_one (pe_cmpR op_eq (pe_op op_mod (pe_callTy call_int1 (by rfl) T.f_int (by decide +kernel) (pa_cons (pv 3) pa_nil)) (pv 4)) pe_int (nomark _)))))
      (pss_cons (ps_set (i := 6) sc__law_asked.nd rfl (Or.inl rfl) (pe_callC C_is_sized (hr.mono (by decide)) passE (pa_cons (pv 0) (pa_cons (pv 2) (pa_cons (pv 3) pa_nil)))))
      (pss_cons (ps_if (PW.pt (pw_or (pt_not (pt_val (pe_callB call_isi (by rfl) T.f_isinstance (by decide +kernel) (pa_cons (pv 6) (pa_cons (pe_bltn (by rfl) T.f_bool (by decide +kernel) (v := V.ty "bool") rfl) pa_nil))))) (pw_or1 (pt_cmpR op_ne (pv 6) (pv 5) (nomark _))))) (pss_one (ps_ret pe_bl)) pss_nil)
      (pss_cons (ps_set (i := 7) sc__law_asked.nd rfl (Or.inl rfl) (pe_callC C_excluding_size (hr.mono (by decide)) passE (pa_cons (pv 0) (pa_cons (pv 2) (pa_cons (pv 3) pa_nil)))))
      (pss_cons (ps_if (pt_val (pv 5)) (pss_one (ps_ret (pe_cmpR op_isN (pv 7) pe_non (nomark _)))) pss_nil)
      (pss_cons (ps_if (pt_not (pt_val (pe_callB call_isi (by rfl) T.f_isinstance (by decide +kernel) (pa_cons (pv 7) (pa_cons (pe_gref T.m_Clocks) pa_nil))))) (pss_one (ps_ret pe_bl)) pss_nil)
      (pss_one (ps_ret (pe_cmpR (op_eqD (u64 hr)) (pe_tup (pa_cons (pe_fld (pv 7) rfl) (pa_cons (pe_fld (pv 7) rfl) pa_nil))) (pe_callC C__law_excluding (hr.mono (by decide)) passE (pa_cons (pv 1) (pa_cons (pv 2) (pa_cons (pv 3) pa_nil)))) (nomark _))))))))))), ?_⟩
    have fl : firstLong bs' = none := firstLong_none fun c hc => hin c (hp.mem_iff.mp hc)
    have fp := firstEx_perm hp m n
    have m1 : 1 ≤ m ∧ m ≤ M31 := ⟨by omega, hm.2⟩
    have n1 : 1 ≤ n ∧ n ≤ M31 := ⟨by omega, hn.2⟩
    rcases hf : firstEx bs m n with _ | c
    · obtain ⟨h0, hd⟩ := iff.mpr hf
      walk_at "rd"
      rw [decide_eq_true h0]
      walk_at "rd"
      rw [emod_dvd, decide_eq_true hd]
      walk_at "rd"
      refine ⟨h0, l, bs', m, n, rfl, hL, fun z => absurd m1 z, fun _ z => absurd n1 z, fun _ _ => ⟨fun s e => (by rw [fl] at e; cases e), fun _ => ⟨hm.1, hn.1, fun H1 s1 => ?_⟩⟩⟩
      rw [fp, hf]
      walk_at "rd"
      refine cs_isb T _ _ _ ?_
      walk_at "rd"
      refine ⟨l, bs', m, n, rfl, hL.mono s1, fun z => absurd m1 z, fun _ z => absurd n1 z, fun _ _ H2 s2 => ⟨fun _ => ?_, fun c p e => by rw [fp, hf] at e; cases e⟩⟩
      exact k _ (s1.trans s2)
    · walk_at "rd"
      by_cases h0 : 0 < h
      all_goals first
        | (rw [decide_eq_true h0]
           walk_at "rd"
           have hd : ¬ h ∣ n := fun z => by rw [iff.mp ⟨h0, z⟩] at hf; cases hf
           rw [emod_dvd, decide_eq_false hd]
           walk_at "rd"
           refine ⟨h0, ?_⟩)
        | (rw [decide_eq_false h0]
           walk_at "rd")
      all_goals
        refine ⟨l, bs', m, n, rfl, hL, fun z => absurd m1 z, fun _ z => absurd n1 z, fun _ _ => ⟨fun s e => (by rw [fl] at e; cases e), fun _ => ⟨hm.1, hn.1, fun H1 s1 => ?_⟩⟩⟩
        rw [fp, hf]
        walk_at "rd"
        refine cs_isb T _ _ _ ?_
        walk_at "rd"
        refine ⟨l, bs', m, n, rfl, hL.mono s1, fun z => absurd m1 z, fun _ z => absurd n1 z, fun _ _ H2 s2 => ⟨fun e => (by rw [fp, hf] at e; cases e), fun c' p e hc => ?_⟩⟩
        rw [fp, hf] at e
        cases e
        walk_at "rd"
        refine cs_isc T hc ?_
        obtain ⟨dx, hp2⟩ := hc
        walk_at "rd"
        refine ⟨_, _, _, hp2, T.cl_Clocks, T.na_Clocks_along, _, lk_1, _, _, _, hp2, T.cl_Clocks, T.na_Clocks_up, _, lk_2 (by decide), ?_⟩
        intro t ht
        have s3 := Same.new (o := .tup [.int c.1, .int c.2]) ht
        have s4 : Same H _ := s1.trans (s2.trans s3)
        refine ⟨b, xs, bs, m, n, rfl, s4 _ _ hb, hx.mono s4, fun H4 s5 => ⟨fun e => (by rw [hf] at e; cases e), fun c' x e hx' => ?_⟩⟩
        rw [hf] at e
        cases e
        refine ⟨pD c, pD c, IsP.dp ⟨t, rfl, s5 _ _ upd_same⟩, hx'.dp, pD_shaped _, pD_shaped _, ?_⟩
        rw [pD_eqv, decide_eq_true rfl]
        exact k _ (s4.trans s5)
/-! ### calls by keywords -/
theorem FunD_kws {x qual : Str} {params : Arguments} {body : List Stmt} {scope : Scope} {f : Addr} {fd : FuncData} {ps ks : List Str} {g : List Value → List Value} (F : FunD K x qual params body scope [] [] f fd)
    (h : ∀ (kV doc pm : Value) (an : Option Addr) (cdv ct : Value) (ws : List Value), (g ws).length = ps.length → bindArgs (PySem.W.fnOf x qual params body scope .none kV doc pm an cdv ct) ⟨[], ks.zip ws⟩ = pure (ps.zip (g ws))) (s : Shared) (ws : List Value) (hk : K.In s.heap) (hl : (g ws).length = ps.length) :
    BindsTo s fd ⟨[], ks.zip ws⟩ (ps.zip (g ws)) := by
  obtain ⟨oc, od, dV, kV, doc, pm, an, cdv, ct, osl, rfl, lk, hcd, hD, hK⟩ := F.ex
  rcases hD with ⟨_, rfl⟩ | ⟨e, _⟩
  · exact .of_eq (h kV doc pm an cdv ct ws hl)
  · exact absurd rfl e
/-- the values of three keywords put in the order 1, 2, 0 -/
def g120 {α : Type} : List α → List α
  | [a, b, c] => [b, c, a]
  | _ => []
def g021 {α : Type} : List α → List α
  | [a, b, c] => [a, c, b]
  | _ => []
theorem g120_vals {zs : List V} {ws : List Value} (h : Vals zs ws) : Vals (g120 zs) (g120 ws) := by
  cases h with
  | nil => exact .nil
  | cons a h => cases h with
    | nil => exact .nil
    | cons b h => cases h with
      | nil => exact .nil
      | cons c h => cases h with
        | nil => exact .cons b (.cons c (.cons a .nil))
        | cons d h => exact .nil
theorem g021_vals {zs : List V} {ws : List Value} (h : Vals zs ws) : Vals (g021 zs) (g021 ws) := by
  cases h with
  | nil => exact .nil
  | cons a h => cases h with
    | nil => exact .nil
    | cons b h => cases h with
      | nil => exact .nil
      | cons c h => cases h with
        | nil => exact .cons a (.cons c (.cons b .nil))
        | cons d h => exact .nil
theorem g120_len {α : Type} {ws : List α} (h : (g120 ws).length = 3) : ∃ a b c, ws = [a, b, c] := by
  match ws, h with
  | [a, b, c], _ => exact ⟨a, b, c, rfl⟩
theorem g021_len {α : Type} {ws : List α} (h : (g021 ws).length = 3) : ∃ a b c, ws = [a, b, c] := by
  match ws, h with
  | [a, b, c], _ => exact ⟨a, b, c, rfl⟩
theorem calK_excluding_size (T : Tx P K mg) : CalK P w K mg base "excluding_size" 5 ["lot", "m", "n"] ["n", "lot", "m"] g120 (spExcluding K) := by
  obtain ⟨fd, F, O⟩ := fn_excluding_size (w := w) (base := base) T
  refine ⟨_, fd, g120, O, T.m_excluding_size, F.kp, FunD_kws F fun _ _ _ _ _ _ ws hl => ?_, g120_vals⟩
  obtain ⟨a, b, c, rfl⟩ := g120_len hl
  rfl
theorem calK_is_sized (T : Tx P K mg) : CalK P w K mg base "is_sized" 6 ["lot", "m", "n"] ["lot", "n", "m"] g021 (spSized K) := by
  obtain ⟨fd, F, O⟩ := fn_is_sized (w := w) (base := base) T
  refine ⟨_, fd, g021, O, T.m_is_sized, F.kp, FunD_kws F fun _ _ _ _ _ _ ws hl => ?_, g021_vals⟩
  obtain ⟨a, b, c, rfl⟩ := g021_len hl
  rfl
def spPaired (K : PySem.W.Frag) : Sp := fun vs H Q _ => ∃ (l b : Addr) (xs : List V) (bs bs' : List (Int × Int)) (m n : Int), vs = [.ref l, .ref b, .int m, .int n] ∧ LotAt K H l bs' ∧ bs'.Perm bs ∧ H b = some (.lst xs) ∧ PL H xs bs ∧
  (6 ≤ m ∧ m ≤ M31) ∧ (6 ≤ n ∧ n ≤ M31) ∧ ∀ H', Same H H' → Q (.bl true) H'
theorem cal__law_paired (T : Tx P K mg) : Cal P w K mg base "_law_paired" 6 ["lot", "bricks", "m", "n"] (spPaired K) := by
  obtain ⟨fd, F⟩ := T.d__law_paired
  have K_excluding_size := calK_excluding_size (w := w) (base := base) T
  have C__law_excluding := cal__law_excluding (w := w) (base := base) T
  refine ⟨_, fd, F.ok (CX := L2.CX P w) sc__law_paired (fun vs H Q E h => ?_) (fun cdv A outer s H vs Q E hr h => ?_), T.m__law_paired, F.kp, F.bindsN fun _ _ _ _ _ _ us hl => match us, hl with | [_, _, _, _], _ => rfl⟩
  · obtain ⟨l, b, xs, bs, bs', m, n, rfl, _⟩ := h
    rfl
  · obtain ⟨l, b, xs, bs, bs', m, n, rfl, hL, hp, hb, hx, hm, hn, k⟩ := h
    refine ⟨_, ((pss_cons (ps_set (i := 4) sc__law_paired.nd rfl (Or.inl rfl) (pe_callC C__law_excluding (hr.mono (by decide)) passE (pa_cons (pv 1) (pa_cons (pv 2) (pa_cons (pv 3) pa_nil)))))
      (pss_cons (ps_set (i := 5) sc__law_paired.nd rfl (Or.inl rfl) (pe_callKC K_excluding_size (hr.mono (by decide)) passE (pk_cons (pv 3) (pk_cons (pv 0) (pk_cons (pv 2) pk_nil)))))
      (pss_cons (ps_if (pt_cmpR op_isN (pv 4) pe_non (nomark _)) (pss_one (ps_ret (pe_cmpR op_isN (pv 5) pe_non (nomark _)))) pss_nil)
      (pss_one (ps_ret (pe_and (pe_callB call_isi (by rfl) T.f_isinstance (by decide +kernel) (pa_cons (pv 5) (pa_cons (pe_gref T.m_Clocks) pa_nil))) (pe_one (pe_cmpR (op_eqD (u64 hr)) (pe_tup (pa_cons (pe_fld (pv 5) rfl) (pa_cons (pe_fld (pv 5) rfl) pa_nil))) (pv 4) (nomark _)))))))))), ?_⟩
    have fp := firstEx_perm hp m n
    have m1 : 1 ≤ m ∧ m ≤ M31 := ⟨by omega, hm.2⟩
    have n1 : 1 ≤ n ∧ n ≤ M31 := ⟨by omega, hn.2⟩
    walk_at "rd"
    refine ⟨b, xs, bs, m, n, rfl, hb, hx, fun H1 s1 => ⟨fun e1 => ?_, fun c x e1 hc => ?_⟩⟩
    · walk_at "rd"
      refine ⟨l, bs', m, n, rfl, hL.mono s1, fun z => absurd m1 z, fun _ z => absurd n1 z, fun _ _ H2 s2 => ⟨fun _ => ?_, fun c' p e _ => (by rw [fp, e1] at e; cases e)⟩⟩
      exact k _ (s1.trans s2)
    · walk_at "rd"
      refine ⟨l, bs', m, n, rfl, hL.mono s1, fun z => absurd m1 z, fun _ z => absurd n1 z, fun _ _ H2 s2 => ⟨fun e => (by rw [fp, e1] at e; cases e), fun c' p e hc' => ?_⟩⟩
      rw [fp, e1] at e
      cases e
      obtain ⟨tx, rfl, hx2⟩ := hc
      walk_at "rd"
      refine cs_isc T hc' ?_
      obtain ⟨dx, hp2⟩ := hc'
      walk_at "rd"
      refine ⟨_, _, _, hp2, T.cl_Clocks, T.na_Clocks_along, _, lk_1, _, _, _, hp2, T.cl_Clocks, T.na_Clocks_up, _, lk_2 (by decide), ?_⟩
      intro t ht
      have s3 := Same.new (o := .tup [.int c.1, .int c.2]) ht
      refine ⟨pD c, pD c, IsP.dp ⟨t, rfl, upd_same⟩, IsP.dp ⟨tx, rfl, s3 _ _ (s2 _ _ hx2)⟩, pD_shaped _, pD_shaped _, ?_⟩
      rw [pD_eqv, decide_eq_true rfl]
      exact k _ (s1.trans (s2.trans s3))
end FW
set_option Elab.async false
set_option linter.all false
set_option maxRecDepth 100000
set_option maxHeartbeats 4000000
local macro_rules | `(tactic| walk_at "rd") => `(tactic| (simp (config := { decide := true }) only [L2.start, L2.tSeq, L2.tNext, L2.tAsg, L2.gName, L2.gTup, L2.gCons, L2.gNil, L2.tRet, L2.tRetN, L2.tIfS, L2.tTest, L2.tOp, L2.tUn, L2.tCons, L2.tNil, L2.tVar, L2.tC, L2.tCall, L2.tCallS, L2.tMake, FW.tCallK0, L2.rI, L2.rI0, L2.rU, L2.rEq, L2.rNe, L2.scal, L2.tB, L2.tNot, L2.tAnd, L2.tOr, L2.tAndV, L2.tOrV, L2.tNotV, L2.tIf, L2.tChain, L2.tDrop, L2.tCB, L2.tTup, L2.tLst, L2.tFld, L2.sFld, L2.tBM, L2.tBM0, L2.rAppend, L2.tRaiseErr, L2.tMkErr, L2.tBreak, L2.tCont, L2.gSub, L2.rSetL, L2.rIxL, L2.tAug, L2.ipI, L2.tSl, L2.tPart, L2.tNoPart, L2.rSlL, L2.CDiv, L2.CDivN, L2.CPow, L2.tPar, L2.rIsB, L2.rNotB, FW.cxK, FW.p10_9, FW.p10_20, FW.p10_31, FW.p10_60, FW.p10_18, FW.p10_6, FW.p10_23, FW.p2_61, FW.P10ok, FW.m60,  FW.tFor_eq, FW.tLc_eq, L2.iList, L2.iTup, L2.iRng1, L2.iRng2, L2.iEnum, FW.iOwn, L2.wipe, L2.tYes, L2.tDNewT, L2.tDNotIn, L2.tDGet, L2.sDPut, L2.wAs, L2.WE, L2.tXf, PySem.sizeLine_eq, Nat.reduceLeDiff,
  List.map_cons, List.map_nil, List.length_cons, List.length_nil, List.replicate, List.cons_append, List.nil_append, List.append_nil, Nat.sub_self, List.getElem?_cons_zero, List.getElem?_cons_succ, List.set_cons_zero, List.set_cons_succ,
  Option.some.injEq, L2.V.int.injEq, L2.V.bl.injEq, L2.V.ref.injEq, L2.V.str.injEq, exists_eq_left', exists_eq_left, exists_eq_right', exists_eq_right, exists_and_left, exists_const, true_and, and_true, Nat.zero_add, Nat.add_zero, Nat.reduceAdd, Nat.reduceSub, List.cons.injEq, reduceCtorEq, false_and, and_false, exists_false, false_or, or_false, ne_eq, not_false_eq_true, not_true_eq_false, Bool.false_eq_true, if_false, if_true, Bool.not_true, Bool.not_false, ite_self, decide_true, decide_false]))
namespace FW
open PySem PySem.Spec PyProof.Rows L2 PySem.FwE
variable {P : Program} {w : World} {K : PySem.W.Frag} {mg : Str → Option Value} {base : Heap}
def outD : Option (Str × Int) → PyData
  | none => .list []
  | some (x, v) => .list [.tuple [.str x, .int v]]
def outOf (bs : List (Int × Int)) (door m n : Int) : Option (Str × Int) :=
  if ¬ (1 ≤ m ∧ m ≤ M31) then some ("number", m) else if ¬ (1 ≤ n ∧ n ≤ M31) then some ("number", n) else if door = 0 then (firstLong bs).map fun s => ("long", s) else none
/-- the list r tells o -/
def OutAt (H : Hp) (r : Addr) (o : Option (Str × Int)) : Prop := match o with
  | none => H r = some (.lst [])
  | some (x, v) => ∃ t, H r = some (.lst [.ref t]) ∧ H t = some (.tup [.str x, .int v])
theorem OutAt.mono {H H' : Hp} (s : Same H H') {r : Addr} {o : Option (Str × Int)} (h : OutAt H r o) : OutAt H' r o := by
  rcases o with _ | ⟨x, v⟩
  · exact s _ _ h
  · obtain ⟨t, h1, h2⟩ := h
    exact ⟨t, s _ _ h1, s _ _ h2⟩
theorem OutAt.dp {H : Hp} {r : Addr} {o : Option (Str × Int)} (h : OutAt H r o) : Dp K H (.ref r) (outD o) := by
  rcases o with _ | ⟨x, v⟩
  · exact .lst (SqL.of h) .nil
  · obtain ⟨t, h1, h2⟩ := h
    exact .lst (SqL.of h1) (.cons (.tup (SqT.of h2) (.cons (.str _) (.cons (.int _) .nil))) .nil)
def spRefusal (K : PySem.W.Frag) : Sp := fun vs H Q _ => ∃ (l : Addr) (bs : List (Int × Int)) (door m n : Int), vs = [.int door, .ref l, .int m, .int n] ∧ LotAt K H l bs ∧ (1 ≤ m → 1 ≤ n → 6 ≤ m ∧ 6 ≤ n) ∧
  ∀ (H' : Hp) (r : Addr), Same H H' → OutAt H' r (outOf bs door m n) → Q (.ref r) H'
def tsRef (K : PySem.W.Frag) : Addr → Value → Option Addr → TS := fun a cls d => tSeq
  (tIfS (tB (tCB (rIsX K cls d a) (tCons (tVar 5) (tCons (tC (.ref (He.ga K "NumberError"))) tNil)))) (tDrop (tBM K "list" rAppend (tVar 4) (tCons (tTup (tCons (tC (.str "number")) (tCons (tXf a cls d (He.ga K "NumberError") "number" (tVar 5)) tNil))) tNil))) tNext)
  (tIfS (tB (tCB (rIsX K cls d a) (tCons (tVar 5) (tCons (tC (.ref (He.ga K "LongError"))) tNil)))) (tDrop (tBM K "list" rAppend (tVar 4) (tCons (tTup (tCons (tC (.str "long")) (tCons (tXf a cls d (He.ga K "LongError") "side" (tVar 5)) tNil))) tNil))) tNext)
theorem isx {D C d a : Addr} {fs : List (Str × V)} {b : Bool} {H : Hp} {Q : VK} (hd : H d = some (.xd fs)) (ic : IsC K D) (hk : PySem.W.kitOne K (.ref D) (.ref C) = some b) (q : Q (.bl b) H) : rIsX K (.ref D) (some d) a [.ref a, .ref C] H Q :=
  ⟨_, _, _, _, _, b, rfl, .own _, rfl, rfl, hd, ic, hk, q⟩
theorem out1 {H : Hp} {p t : Addr} {x : Str} {v : Int} {xs : List V} (hp : H p = some (.lst xs)) (ht : H t = none) : OutAt (upd (upd H t (.tup [.str x, .int v])) p (.lst [.ref t])) p (some (x, v)) := by
  have n : t ≠ p := fun z => by rw [z, hp] at ht; cases ht
  exact ⟨t, upd_same, by rw [upd_ne n]; exact upd_same⟩
theorem cal__law_refusal (T : Tx P K mg) : Cal P w K mg base "_law_refusal" 7 ["door", "lot", "m", "n"] (spRefusal K) := by
  obtain ⟨fd, F⟩ := T.d__law_refusal
  have C_is_sized := cal_is_sized (w := w) (base := base) T
  have C_excluding_size := cal_excluding_size (w := w) (base := base) T
  have nfN : PySem.W.findIn K (.ref (He.ga K "NumberError")) "number" = some none := by
    obtain ⟨_, _, z⟩ := T.e_NumberError
    exact z.noF
  have nfL : PySem.W.findIn K (.ref (He.ga K "LongError")) "side" = some none := by
    obtain ⟨_, _, z⟩ := T.e_LongError
    exact z.noF
  refine ⟨_, fd, F.ok (CX := L2.CX P w) sc__law_refusal (fun vs H Q E h => ?_) (fun cdv A outer s H vs Q E hr h => ?_), T.m__law_refusal, F.kp, F.bindsN fun _ _ _ _ _ _ us hl => match us, hl with | [_, _, _, _], _ => rfl⟩
  · obtain ⟨l, bs, door, m, n, rfl, _⟩ := h
    rfl
  · obtain ⟨l, bs, door, m, n, rfl, hL, h6, k⟩ := h
    refine ⟨_, (pss_cons (ps_set (i := 4) sc__law_refusal.nd rfl (Or.inl rfl) (pe_lst pa_nil))
      (pss_cons (ps_try_as (x := "FloorwordsError") (n := "e") (c := .ref (He.ga K "FloorwordsError")) (i := 5) (ts := tsRef K) rfl rfl sc__law_refusal.nd rfl rfl ⟨rfl, by decide, .inl T.m_FloorwordsError⟩ takE
        (fun W pn xe tk hx => pss_one (ps_if (pt_cmpR op_eq (pv 0) pe_int (nomark _)) (pss_one (ps_expr (pe_callCS C_is_sized (hr.mono (by decide)) tk (pa_cons (pv 1) (pa_cons (pv 2) (pa_cons (pv 3) pa_nil)))))) (pss_one (ps_expr (pe_callCS C_excluding_size (hr.mono (by decide)) tk (pa_cons (pv 1) (pa_cons (pv 2) (pa_cons (pv 3) pa_nil))))))))
        (fun a oe cls d pn hz hf => pss_cons (ps_if (pt_val (pe_callB (call_isX hz hf) (by rfl) T.f_isinstance (by decide +kernel) (pa_cons (pv 5) (pa_cons (pe_gref T.m_NumberError) pa_nil)))) (pss_one (ps_expr (pe_bm PySem.F.plainAttrs_list PySem.F.slot_list_append PySem.F.type_list_append mt_append (pv 4) (pa_cons (pe_tup (pa_cons pe_str (pa_cons (pe_xf T.i_NumberError.xf nfN hz hf (pv 5)) pa_nil))) pa_nil)))) pss_nil)
          (pss_one (ps_if (pt_val (pe_callB (call_isX hz hf) (by rfl) T.f_isinstance (by decide +kernel) (pa_cons (pv 5) (pa_cons (pe_gref T.m_LongError) pa_nil)))) (pss_one (ps_expr (pe_bm PySem.F.plainAttrs_list PySem.F.slot_list_append PySem.F.type_list_append mt_append (pv 4) (pa_cons (pe_tup (pa_cons pe_str (pa_cons (pe_xf T.i_LongError.xf nfL hz hf (pv 5)) pa_nil))) pa_nil)))) pss_nil))))
      (pss_one (ps_ret (pv 4))))), ?_⟩
    walk_at "rd"
    intro p hp
    have s1 := Same.new (o := .lst []) hp
    have num : ∀ v : Int, outOf bs door m n = some (("number" : Str), v) → Err K "NumberError" "number" (.int v) (upd H p (.lst [])) (WE (wAs K (.ref (He.ga K "FloorwordsError")) 5 (tsRef K) (fun cls d _ H => E cls d H) { nx := tRet (tVar 4) { nx := fun _ H' => Q V.non H', rt := Q }, rt := Q }) [some (.int door), some (.ref l), some (.int m), some (.int n), some (.ref p), none]) := by
      intro v hv d hd
      have s2 := Same.new (o := .xd [("number", .int v)]) hd
      refine ⟨true, T.x_NumberError, fun _ a ha => ?_, fun z => by cases z⟩
      unfold tsRef
      walk_at "rd"
      have h0 : (upd (upd H p (.lst [])) d (.xd [("number", .int v)])) d = some (.xd [("number", .int v)]) := upd_same
      have hl := s2 _ _ (upd_same : (upd H p (.lst [])) p = some (.lst []))
      refine isx h0 T.i_NumberError T.k_NumberError_NumberError ?_
      walk_at "rd"
      refine ⟨tyL hl, _, h0, _, lk_1, fun t ht => ⟨_, Same.new ht _ _ hl, by decide, ?_⟩⟩
      have s3 := Same.new (o := .tup [.str "number", .int v]) ht
      have ndp : d ≠ p := ne_of h0 hl (by intro z; cases z)
      refine isx (by rw [upd_ne ndp]; exact s3 _ _ h0) T.i_NumberError T.k_NumberError_LongError ?_
      walk_at "rd"
      refine k _ p (Same.mut (s1.trans (s2.trans s3)) hp) ?_
      rw [hv]
      exact out1 hl ht
    have lng : ∀ v : Int, outOf bs door m n = some (("long" : Str), v) → Err K "LongError" "side" (.int v) (upd H p (.lst [])) (WE (wAs K (.ref (He.ga K "FloorwordsError")) 5 (tsRef K) (fun cls d _ H => E cls d H) { nx := tRet (tVar 4) { nx := fun _ H' => Q V.non H', rt := Q }, rt := Q }) [some (.int door), some (.ref l), some (.int m), some (.int n), some (.ref p), none]) := by
      intro v hv d hd
      have s2 := Same.new (o := .xd [("side", .int v)]) hd
      refine ⟨true, T.x_LongError, fun _ a ha => ?_, fun z => by cases z⟩
      unfold tsRef
      walk_at "rd"
      have h0 : (upd (upd H p (.lst [])) d (.xd [("side", .int v)])) d = some (.xd [("side", .int v)]) := upd_same
      have hl := s2 _ _ (upd_same : (upd H p (.lst [])) p = some (.lst []))
      refine isx h0 T.i_LongError T.k_LongError_NumberError ?_
      walk_at "rd"
      refine isx h0 T.i_LongError T.k_LongError_LongError ?_
      walk_at "rd"
      refine ⟨tyL hl, _, h0, _, lk_1, fun t ht => ⟨_, Same.new ht _ _ hl, by decide, ?_⟩⟩
      have s3 := Same.new (o := .tup [.str "long", .int v]) ht
      refine k _ p (Same.mut (s1.trans (s2.trans s3)) hp) ?_
      rw [hv]
      exact out1 hl ht
    have nil : outOf bs door m n = none → ∀ H2 : Hp, Same (upd H p (.lst [])) H2 → Q (.ref p) H2 := fun hv H2 s2 => by
      refine k _ p (s1.trans s2) ?_
      rw [hv]
      exact s2 _ _ upd_same
    unfold outOf at num lng nil
    by_cases hd : door = 0
    · rw [decide_eq_true hd, if_pos rfl]
      refine ⟨l, bs, m, n, rfl, hL.mono s1, fun z => num m (by rw [if_pos z]), fun y z => num n (by rw [if_neg (fun q => q y), if_pos z]), fun y z => ⟨fun s e => lng s (by rw [if_neg (fun q => q y), if_neg (fun q => q z), if_pos hd, e]; rfl), fun e => ⟨(h6 y.1 z.1).1, (h6 y.1 z.1).2, fun H2 s2 => nil (by rw [if_neg (fun q => q y), if_neg (fun q => q z), if_pos hd, e]; rfl) H2 s2⟩⟩⟩
    · rw [decide_eq_false hd, if_neg (by decide)]
      refine ⟨l, bs, m, n, rfl, hL.mono s1, fun z => num m (by rw [if_pos z]), fun y z => num n (by rw [if_neg (fun q => q y), if_pos z]), fun y z H2 s2 => ⟨fun e => nil (by rw [if_neg (fun q => q y), if_neg (fun q => q z), if_neg hd]) H2 s2, fun c p e _ => nil (by rw [if_neg (fun q => q y), if_neg (fun q => q z), if_neg hd]) H2 s2⟩⟩
end FW
set_option Elab.async false
set_option linter.all false
set_option maxRecDepth 100000
set_option maxHeartbeats 4000000
local macro_rules | `(tactic| walk_at "rd") => `(tactic| (simp (config := { decide := true }) only [L2.start, L2.tSeq, L2.tNext, L2.tAsg, L2.gName, L2.gTup, L2.gCons, L2.gNil, L2.tRet, L2.tRetN, L2.tIfS, L2.tTest, L2.tOp, L2.tUn, L2.tCons, L2.tNil, L2.tVar, L2.tC, L2.tCall, L2.tCallS, L2.tMake, FW.tCallK0, L2.rI, L2.rI0, L2.rU, L2.rEq, L2.rNe, L2.scal, L2.tB, L2.tNot, L2.tAnd, L2.tOr, L2.tAndV, L2.tOrV, L2.tNotV, L2.tIf, L2.tChain, L2.tDrop, L2.tCB, L2.tTup, L2.tLst, L2.tFld, L2.sFld, L2.tBM, L2.tBM0, L2.rAppend, L2.tRaiseErr, L2.tMkErr, L2.tBreak, L2.tCont, L2.gSub, L2.rSetL, L2.rIxL, L2.tAug, L2.ipI, L2.tSl, L2.tPart, L2.tNoPart, L2.rSlL, L2.CDiv, L2.CDivN, L2.CPow, L2.tPar, L2.rIsB, L2.rNotB, FW.cxK, FW.p10_9, FW.p10_20, FW.p10_31, FW.p10_60, FW.p10_18, FW.p10_6, FW.p10_23, FW.p2_61, FW.P10ok, FW.m60,  FW.tFor_eq, FW.tLc_eq, L2.iList, L2.iTup, L2.iRng1, L2.iRng2, L2.iEnum, FW.iOwn, L2.wipe, L2.tYes, L2.tDNewT, L2.tDNotIn, L2.tDGet, L2.sDPut, L2.wAs, L2.WE, L2.tXf, PySem.sizeLine_eq, Nat.reduceLeDiff,
  List.map_cons, List.map_nil, List.length_cons, List.length_nil, List.replicate, List.cons_append, List.nil_append, List.append_nil, Nat.sub_self, List.getElem?_cons_zero, List.getElem?_cons_succ, List.set_cons_zero, List.set_cons_succ,
  Option.some.injEq, L2.V.int.injEq, L2.V.bl.injEq, L2.V.ref.injEq, L2.V.str.injEq, exists_eq_left', exists_eq_left, exists_eq_right', exists_eq_right, exists_and_left, exists_const, true_and, and_true, Nat.zero_add, Nat.add_zero, Nat.reduceAdd, Nat.reduceSub, List.cons.injEq, reduceCtorEq, false_and, and_false, exists_false, false_or, or_false, ne_eq, not_false_eq_true, not_true_eq_false, Bool.false_eq_true, if_false, if_true, Bool.not_true, Bool.not_false, ite_self, decide_true, decide_false]))
namespace FW
open PySem PySem.Spec PyProof.Rows L2 PySem.FwE
variable {P : Program} {w : World} {K : PySem.W.Frag} {mg : Str → Option Value} {base : Heap}
theorem LotAt.pool {H H' : Hp} {p l : Addr} {bs : List (Int × Int)} (hp : Pool H p) (s : But p H H') (h : LotAt K H l bs) : LotAt K H' l bs := by
  have hp2 := hp
  obtain ⟨ns, e, _⟩ := hp2
  obtain ⟨dx, t, xs, h1, h2, h3⟩ := h
  exact ⟨dx, t, xs, s _ _ h1 (ne_of h1 e (by intro z; cases z)), s _ _ h2 (ne_of h2 e (by intro z; cases z)), h3.pool hp s⟩
theorem firstEx_none {bs : List (Int × Int)} {m n : Int} : firstEx bs m n = none ↔ ∀ c ∈ P36, keepB c.1 c.2 bs = true → c.1 ∣ m ∨ c.2 ∣ n := by
  rw [firstEx_eq, List.find?_eq_none]
  refine ⟨fun h c hc hk => ?_, fun h c hc => ?_⟩
  · have := h c hc
    simp [exK, exclB, hk] at this
    by_cases d : c.1 ∣ m
    · exact .inl d
    · exact .inr (this d)
  · cases hk : keepB c.1 c.2 bs with
    | false => simp [exK, hk]
    | true =>
      rcases h c hc hk with d | d
      · simp [exK, exclB, d]
      · simp [exK, exclB, d]
theorem firstEx_one {a b m n : Int} (ha : a ∣ m) (hb : b ∣ n) : firstEx [(a, b)] m n = none := by
  rw [firstEx_none]
  intro c hc hk
  simp [keepB] at hk
  exact hk.imp (fun z => Int.dvd_trans z ha) fun z => Int.dvd_trans z hb
theorem mem36 {a u : Int} (ha : a ∈ KC) (hu : u ∈ KC) : (a, u) ∈ P36 := List.mem_flatMap.mpr ⟨a, ha, List.mem_map.mpr ⟨u, hu, rfl⟩⟩
theorem KC_in {a : Int} (h : 2 ≤ a) (h4 : a ≤ 4) : a ∈ KC := by
  have e : a = 2 ∨ a = 3 ∨ a = 4 := by omega
  rcases e with e | e | e <;> rw [e] <;> decide
theorem firstEx_notA {a b m n : Int} (h2 : 2 ≤ a) (h4 : a ≤ 4) (hm : ¬ a ∣ m) (hn : 0 < n) : ¬ firstEx [(a, b)] m n = none := fun z => by
  rw [firstEx_none] at z
  rcases z (a, 0) (mem36 (KC_in h2 h4) (by decide)) (by simp [keepB]) with d | d
  · exact hm d
  · exact absurd (Int.zero_dvd.mp d) (by omega)
theorem firstEx_notB {a b m n : Int} (h2 : 2 ≤ b) (h4 : b ≤ 4) (hn : ¬ b ∣ n) (hm : 0 < m) : ¬ firstEx [(a, b)] m n = none := fun z => by
  rw [firstEx_none] at z
  rcases z (0, b) (mem36 (by decide) (KC_in h2 h4)) (by simp [keepB]) with d | d
  · exact absurd (Int.zero_dvd.mp d) (by omega)
  · exact hn d
theorem not_dvd_off {a m r : Int} (ha : a ∣ m) (h1 : 1 ≤ r) (h2 : r < a) : ¬ a ∣ m + r := fun z => by
  have h3 : a ∣ r := (Int.dvd_add_right ha).mp z
  have := Int.le_of_dvd (by omega) h3
  omega
theorem sizedI {l : Addr} {bs : List (Int × Int)} {m n : Int} {H : Hp} {Q : VK} {E : XK} (hL : LotAt K H l bs) (fl : firstLong bs = none) (hm : 6 ≤ m ∧ m ≤ M31) (hn : 6 ≤ n ∧ n ≤ M31) (h : ∀ H', Same H H' → Q (.bl (decide (firstEx bs m n = none))) H') : spSized K [.ref l, .int m, .int n] H Q E :=
  ⟨l, bs, m, n, rfl, hL, fun z => absurd ⟨by omega, hm.2⟩ z, fun _ z => absurd ⟨by omega, hn.2⟩ z, fun _ _ => ⟨fun s e => (by rw [fl] at e; cases e), fun _ => ⟨hm.1, hn.1, h⟩⟩⟩
theorem side_ok {a i : Int} (ha : 2 ≤ a) (h4 : a ≤ 4) (h0 : 0 ≤ i) (h1 : i < 1000000000) : 6 ≤ a * (3 + i * 100000000000000000000) ∧ a * (3 + i * 100000000000000000000) + 4 ≤ M31 := by
  have e : a = 2 ∨ a = 3 ∨ a = 4 := by omega
  show _ ∧ _ ≤ (10000000000000000000000000000000 : Int)
  rcases e with e | e | e <;> rw [e] <;> omega
def spAlone : Sp := fun vs H Q _ => ∃ (p : Addr) (a b : Int), vs = [.ref p, .int a, .int b] ∧ Pool H p ∧ (2 ≤ a ∧ a ≤ 4) ∧ (2 ≤ b ∧ b ≤ 4) ∧ ∀ H', But p H H' → Pool H' p → Q (.bl true) H'
theorem cal__law_alone (T : Tx P K mg) : Cal P w K mg base "_law_alone" 7 ["pool", "p", "q"] spAlone := by
  obtain ⟨fd, F⟩ := T.d__law_alone
  have C_is_sized := cal_is_sized (w := w) (base := base) T
  have K_is_sized := calK_is_sized (w := w) (base := base) T
  have C__law_draw := cal__law_draw (w := w) (base := base) T
  have M_Lot := mak_Lot (w := w) (base := base) T
  refine ⟨_, fd, F.ok (CX := L2.CX P w) sc__law_alone (fun vs H Q E h => ?_) (fun cdv A outer s H vs Q E hr h => ?_), T.m__law_alone, F.kp, F.bindsN fun _ _ _ _ _ _ us hl => match us, hl with | [_, _, _], _ => rfl⟩
  · obtain ⟨p, a, b, rfl, _⟩ := h
    rfl
  · obtain ⟨p, a, b, rfl, hp, ha, hb, k⟩ := h
    refine ⟨_, ((pss_cons (ps_set (i := 3) sc__law_alone.nd rfl (Or.inl rfl) (pe_makeC M_Lot (hr.mono (by decide)) passE (pa_cons (pe_lst (pa_cons (pe_tup (pa_cons (pv 1) (pa_cons (pv 2) pa_nil))) pa_nil)) pa_nil)))
      (pss_cons (ps_set (i := 4) sc__law_alone.nd rfl (Or.inl rfl) (pe_op op_mul (pv 1) (pe_op op_add pe_int (pe_op op_mul (pe_callC C__law_draw (hr.mono (by decide)) passE (pa_cons (pv 0) (pa_cons (pe_op op_pow pe_int pe_int) pa_nil))) (pe_op op_pow pe_int pe_int)))))
      (pss_cons (ps_set (i := 5) sc__law_alone.nd rfl (Or.inl rfl) (pe_op op_mul (pv 2) (pe_op op_add pe_int (pe_op op_mul (pe_callC C__law_draw (hr.mono (by decide)) passE (pa_cons (pv 0) (pa_cons (pe_op op_pow pe_int pe_int) pa_nil))) (pe_op op_pow pe_int pe_int)))))
      (pss_cons (ps_if (PW.pt (pw_or (pt_cmpR op_notBl (pe_callC C_is_sized (hr.mono (by decide)) passE (pa_cons (pv 3) (pa_cons (pv 4) (pa_cons (pv 5) pa_nil)))) pe_bl (nomark _)) (pw_or1 (pt_cmpR op_notBl (pe_callKC K_is_sized (hr.mono (by decide)) passE (pk_cons (pv 3) (pk_cons (pv 5) (pk_cons (pv 4) pk_nil)))) pe_bl (nomark _))))) (pss_one (ps_ret pe_bl)) pss_nil)
      (pss_cons (ps_if (pt_cmpR op_notBl (pe_callC C_is_sized (hr.mono (by decide)) passE (pa_cons (pv 3) (pa_cons (pe_op op_add (pe_op op_add (pv 4) pe_int) (pe_callC C__law_draw (hr.mono (by decide)) passE (pa_cons (pv 0) (pa_cons (pe_op op_sub (pv 1) pe_int) pa_nil)))) (pa_cons (pv 5) pa_nil)))) pe_bl (nomark _)) (pss_one (ps_ret pe_bl)) pss_nil)
      (pss_one (ps_ret (pe_cmpR op_isBl (pe_callC C_is_sized (hr.mono (by decide)) passE (pa_cons (pv 3) (pa_cons (pv 4) (pa_cons (pe_op op_add (pe_op op_add (pv 5) pe_int) (pe_callC C__law_draw (hr.mono (by decide)) passE (pa_cons (pv 0) (pa_cons (pe_op op_sub (pv 2) pe_int) pa_nil)))) pa_nil)))) pe_bl (nomark _)))))))))), ?_⟩
    walk_at "rd"
    intro t ht q hq x dx hx hdx hne
    have s1 := Same.new (o := .tup [.int a, .int b]) ht
    have s2 := Same.new (o := .lst [.ref t]) hq
    have h2 : ∀ H2 : Hp, Same (upd (upd H t (.tup [.int a, .int b])) q (.lst [.ref t])) H2 → H2 q = some (.lst [.ref t]) ∧ H2 t = some (.tup [.int a, .int b]) := fun H2 s => ⟨s _ _ upd_same, s _ _ (s2 _ _ upd_same)⟩
    have hxn : (upd (upd (upd H t (.tup [.int a, .int b])) q (.lst [.ref t])) dx (.own x)) x = none := by rw [upd_ne (fun z => hne z.symm)]; exact hx
    have s3 : Same (upd (upd H t (.tup [.int a, .int b])) q (.lst [.ref t])) (upd (upd (upd (upd H t (.tup [.int a, .int b])) q (.lst [.ref t])) dx (.own x)) x (.ins (He.ga K "Lot") dx [])) := (Same.new hdx).trans (Same.new hxn)
    obtain ⟨g1, g2⟩ := h2 _ s3
    refine ⟨x, q, dx, [.ref t], [(a, b)], rfl, upd_same, g1, ⟨rfl, fun i y e => ?_⟩, ⟨Nat.le_refl 1, by show 1 ≤ 6; decide⟩, fun c hc => ?_, by simp, fun H3 bs' b3 pm hL => ?_⟩
    · match i, e with
      | 0, e => exact ⟨(a, b), rfl, t, (Option.some.inj e).symm, g2⟩
    · rw [List.mem_singleton] at hc
      subst hc
      exact ⟨by omega, by omega, by omega, by omega⟩
    · obtain rfl : bs' = [(a, b)] := List.perm_singleton.mp pm
      have s4 : Same H H3 := s1.trans (s2.trans (Same.made hx hdx b3))
      have fl : firstLong [(a, b)] = none := firstLong_none fun c hc => by
        rw [List.mem_singleton] at hc
        subst hc
        exact ⟨by omega, by omega, by omega, by omega⟩
      have p4 := hp.same s4
      refine ⟨rfl, p, 1000000000, rfl, p4, by decide, fun i H5 i0 i1 b5 p5 => ⟨i, rfl, .inl (by omega), .inl (by omega), p, 1000000000, rfl, p5, by decide, fun j H6 j0 j1 b6 p6 => ⟨j, rfl, .inl (by omega), .inl (by omega), ?_⟩⟩⟩
      have L6 := (hL.pool p4 b5).pool p5 b6
      obtain ⟨m1, m2⟩ := side_ok ha.1 ha.2 i0 i1
      obtain ⟨n1, n2⟩ := side_ok hb.1 hb.2 j0 j1
      have dm : a ∣ a * (3 + i * 100000000000000000000) := Int.dvd_mul_right _ _
      have dn : b ∣ b * (3 + j * 100000000000000000000) := Int.dvd_mul_right _ _
      have e1 := firstEx_one dm dn
      generalize a * (3 + i * 100000000000000000000) = m at *
      generalize b * (3 + j * 100000000000000000000) = n at *
      refine sizedI L6 fl ⟨m1, by omega⟩ ⟨n1, by omega⟩ fun H7 s7 => ⟨_, rfl, ?_⟩
      rw [decide_eq_true e1]
      walk_at "rd"
      refine sizedI (L6.mono s7) fl ⟨m1, by omega⟩ ⟨n1, by omega⟩ fun H8 s8 => ⟨_, rfl, ?_⟩
      rw [decide_eq_true e1]
      walk_at "rd"
      have p8 := p6.same (s7.trans s8)
      refine ⟨p, a - 1, rfl, p8, by omega, fun r H9 r0 r1 b9 p9 => ⟨r, rfl, ?_⟩⟩
      have L9 := (L6.mono (s7.trans s8)).pool p8 b9
      refine sizedI L9 fl ⟨by omega, by omega⟩ ⟨n1, by omega⟩ fun HA sA => ⟨_, rfl, ?_⟩
      have ne1 : ¬ firstEx [(a, b)] (m + 1 + r) n = none := firstEx_notA ha.1 ha.2 (by rw [Int.add_assoc]; exact not_dvd_off dm (by omega) (by omega)) (by omega)
      rw [decide_eq_false ne1]
      walk_at "rd"
      have pA := p9.same sA
      refine ⟨p, b - 1, rfl, pA, by omega, fun r2 HB q0 q1 bB pB => ⟨r2, rfl, ?_⟩⟩
      refine sizedI ((L9.mono sA).pool pA bB) fl ⟨m1, by omega⟩ ⟨by omega, by omega⟩ fun HC sC => ⟨_, rfl, ?_⟩
      have ne2 : ¬ firstEx [(a, b)] m (n + 1 + r2) = none := firstEx_notB hb.1 hb.2 (by rw [Int.add_assoc]; exact not_dvd_off dn (by omega) (by omega)) (by omega)
      rw [decide_eq_false ne2]
      have bt : But p H HC := (But.of s4).trans (b5.trans (b6.trans ((But.of (s7.trans s8)).trans (b9.trans ((But.of sA).trans (bB.trans (But.of sC)))))))
      exact k _ bt (pB.same sC)
end FW
set_option Elab.async false
set_option linter.all false
set_option maxRecDepth 100000
set_option maxHeartbeats 4000000
local macro_rules | `(tactic| walk_at "rd") => `(tactic| (simp (config := { decide := true }) only [L2.start, L2.tSeq, L2.tNext, L2.tAsg, L2.gName, L2.gTup, L2.gCons, L2.gNil, L2.tRet, L2.tRetN, L2.tIfS, L2.tTest, L2.tOp, L2.tUn, L2.tCons, L2.tNil, L2.tVar, L2.tC, L2.tCall, L2.tCallS, L2.tMake, FW.tCallK0, L2.rI, L2.rI0, L2.rU, L2.rEq, L2.rNe, L2.scal, L2.tB, L2.tNot, L2.tAnd, L2.tOr, L2.tAndV, L2.tOrV, L2.tNotV, L2.tIf, L2.tChain, L2.tDrop, L2.tCB, L2.tTup, L2.tLst, L2.tFld, L2.sFld, L2.tBM, L2.tBM0, L2.rAppend, L2.tRaiseErr, L2.tMkErr, L2.tBreak, L2.tCont, L2.gSub, L2.rSetL, L2.rIxL, L2.tAug, L2.ipI, L2.tSl, L2.tPart, L2.tNoPart, L2.rSlL, L2.CDiv, L2.CDivN, L2.CPow, L2.tPar, L2.rIsB, L2.rNotB, FW.cxK, FW.p10_9, FW.p10_20, FW.p10_31, FW.p10_60, FW.p10_18, FW.p10_6, FW.p10_23, FW.p2_61, FW.P10ok, FW.m60,  FW.tFor_eq, FW.tLc_eq, L2.iList, L2.iTup, L2.iRng1, L2.iRng2, L2.iEnum, FW.iOwn, L2.wipe, L2.tYes, L2.tDNewT, L2.tDNotIn, L2.tDGet, L2.sDPut, L2.wAs, L2.WE, L2.tXf, PySem.sizeLine_eq, Nat.reduceLeDiff,
  List.map_cons, List.map_nil, List.length_cons, List.length_nil, List.replicate, List.cons_append, List.nil_append, List.append_nil, Nat.sub_self, List.getElem?_cons_zero, List.getElem?_cons_succ, List.set_cons_zero, List.set_cons_succ,
  Option.some.injEq, L2.V.int.injEq, L2.V.bl.injEq, L2.V.ref.injEq, L2.V.str.injEq, exists_eq_left', exists_eq_left, exists_eq_right', exists_eq_right, exists_and_left, exists_const, true_and, and_true, Nat.zero_add, Nat.add_zero, Nat.reduceAdd, Nat.reduceSub, List.cons.injEq, reduceCtorEq, false_and, and_false, exists_false, false_or, or_false, ne_eq, not_false_eq_true, not_true_eq_false, Bool.false_eq_true, if_false, if_true, Bool.not_true, Bool.not_false, ite_self, decide_true, decide_false]))
namespace FW
open PySem PySem.Spec PyProof.Rows L2 PySem.FwE
variable {P : Program} {w : World} {K : PySem.W.Frag} {mg : Str → Option Value} {base : Heap}
theorem outD_shaped {o : Option (Str × Int)} (h : ∀ x v, o = some (x, v) → PyData.strOk x = true) : SeqAt.shaped (outD o) = true := by
  rcases o with _ | ⟨x, v⟩
  · simp [outD, SeqAt.shaped, PyData.canLay0, PyData.canLayAll0, PyData.depth, PyData.depthAll]
  · have := h x v rfl
    simp [outD, SeqAt.shaped, PyData.canLay0, PyData.canLayAll0, PyData.depth, PyData.depthAll, this]
theorem outN (v : Int) : SeqAt.shaped (outD (some ("number", v))) = true := outD_shaped fun x u e => by cases e; decide +kernel
theorem outL (v : Int) : SeqAt.shaped (outD (some ("long", v))) = true := outD_shaped fun x u e => by cases e; decide +kernel
theorem outO : SeqAt.shaped (outD none) = true := outD_shaped fun x u e => by cases e
theorem outD_eqv {o : Option (Str × Int)} (h : SeqAt.shaped (outD o) = true) : PyData.eqv (outD o) (outD o) = true := SeqAt.eqv_refl _ (SeqAt.canLay_of_shaped h)
theorem firstLong_pair {bs : List (Int × Int)} {a b s r : Int} (p : bs.Perm [(a, b), (s, r)]) (ha : a ≤ 4) (hb : b ≤ 4) (hs : 4 < s) : firstLong bs = some s := by
  have hl := p.length_eq
  match bs, hl, p with
  | [x, y], _, p =>
    have hx : x ∈ [(a, b), (s, r)] := p.mem_iff.mp List.mem_cons_self
    rcases List.mem_cons.mp hx with e | e
    · subst e
      have p2 := (List.perm_cons _).mp p
      have e2 := List.perm_singleton.mp p2
      cases e2
      simp [firstLong, List.find?_cons, show ¬ 4 < a by omega, show ¬ 4 < b by omega, hs]
    · rw [List.mem_singleton] at e
      subst e
      simp [firstLong, List.find?_cons, hs]
def Bad (k : Int) : Prop := ¬ (1 ≤ k ∧ k ≤ M31)
theorem Bad.six {k : Int} (h : Bad k) : 1 ≤ k → 6 ≤ k := fun h1 => by
  have h2 : ¬ k ≤ M31 := fun z => h ⟨h1, z⟩
  have h3 : (10000000000000000000000000000000 : Int) < k := Int.not_le.mp h2
  omega
theorem neD1 {HB : Hp} {r u v : Addr} {x : Str} {k : Int} {Q : VK} (sh : SeqAt.shaped (outD (some (x, k))) = true) (h : OutAt HB r (some (x, k))) (hu : HB u = none) (hv : (upd HB u (.tup [.str x, .int k])) v = none) (q : Q (.bl false) (upd (upd HB u (.tup [.str x, .int k])) v (.lst [.ref u]))) :
    rNeD K (.ref r) (.ref v) (upd (upd HB u (.tup [.str x, .int k])) v (.lst [.ref u])) Q := by
  have s1 := Same.new (o := .tup [.str x, .int k]) hu
  have s2 := Same.new (o := .lst [.ref u]) hv
  refine ⟨_, _, (h.mono (s1.trans s2)).dp, OutAt.dp (o := some (x, k)) ⟨u, upd_same, s2 _ _ upd_same⟩, sh, sh, ?_⟩
  rw [outD_eqv sh]
  exact q
def I21 (H : Hp) (s0 s1 s2 s3 s4 s5 s6 s7 s8 : Option V) (σ' : L2.St) (H' : Hp) : Prop := ∃ v9 v10, σ' = [s0, s1, s2, s3, s4, s5, s6, s7, s8, v9, v10] ∧ Same H H'
def I22 (H : Hp) (s0 s1 s2 s3 s4 s5 s6 s7 s8 s9 : Option V) (σ' : L2.St) (H' : Hp) : Prop := ∃ v10, σ' = [s0, s1, s2, s3, s4, s5, s6, s7, s8, s9, v10] ∧ Same H H'
def spRefusals (K : PySem.W.Frag) : Sp := fun vs H Q _ => ∃ (p l : Addr) (bs : List (Int × Int)) (m n : Int), vs = [.ref p, .ref l, .int m, .int n] ∧ Pool H p ∧ LotAt K H l bs ∧ (6 ≤ m ∧ m ≤ M31) ∧ (6 ≤ n ∧ n ≤ M31) ∧ ∀ H', Q (.bl true) H'
theorem cal__law_refusals (T : Tx P K mg) : Cal P w K mg base "_law_refusals" 8 ["pool", "lot", "m", "n"] (spRefusals K) := by
  obtain ⟨fd, F⟩ := T.d__law_refusals
  have C__law_refusal := cal__law_refusal (w := w) (base := base) T
  have C__law_paired := cal__law_paired (w := w) (base := base) T
  have C__law_draw := cal__law_draw (w := w) (base := base) T
  have M_Lot := mak_Lot (w := w) (base := base) T
  refine ⟨_, fd, F.ok (CX := L2.CX P w) sc__law_refusals (fun vs H Q E h => ?_) (fun cdv A outer s H vs Q E hr h => ?_), T.m__law_refusals, F.kp, F.bindsN fun _ _ _ _ _ _ us hl => match us, hl with | [_, _, _, _], _ => rfl⟩
  · obtain ⟨p, l, bs, m, n, rfl, _⟩ := h
    rfl
  · obtain ⟨p, l, bs, m, n, rfl, hp, hL, hm, hn, k⟩ := h
    refine ⟨_, ((pss_cons (ps_set (i := 4) sc__law_refusals.nd rfl (Or.inl rfl) (pe_op op_add pe_int (pe_callC C__law_draw (hr.mono (by decide)) passE (pa_cons (pv 0) (pa_cons pe_int pa_nil)))))
      (pss_cons (ps_set (i := 5) sc__law_refusals.nd rfl (Or.inl rfl) (pe_lst (pa_cons (pe_tup (pa_cons (pe_op op_add pe_int (pe_callC C__law_draw (hr.mono (by decide)) passE (pa_cons (pv 0) (pa_cons pe_int pa_nil)))) (pa_cons (pe_op op_add pe_int (pe_callC C__law_draw (hr.mono (by decide)) passE (pa_cons (pv 0) (pa_cons pe_int pa_nil)))) pa_nil))) pa_nil)))
      (pss_cons (ps_expr (pe_bm PySem.F.plainAttrs_list PySem.F.slot_list_append PySem.F.type_list_append mt_append (pv 5) (pa_cons (pe_tup (pa_cons (pv 4) (pa_cons (pe_op op_add pe_int (pe_callC C__law_draw (hr.mono (by decide)) passE (pa_cons (pv 0) (pa_cons pe_int pa_nil)))) pa_nil))) pa_nil)))
      (pss_cons (ps_set (i := 6) sc__law_refusals.nd rfl (Or.inl rfl) (pe_makeC M_Lot (hr.mono (by decide)) passE (pa_cons (pe_callTy call_list_of (by rfl) T.f_list (by decide +kernel) (pa_cons (pv 5) pa_nil)) pa_nil)))
      (pss_cons (ps_set (i := 7) sc__law_refusals.nd rfl (Or.inl rfl) (pe_lst (pa_cons pe_int (pa_cons (pe_op op_add (pe_op op_pow pe_int pe_int) pe_int) (pa_cons (pe_op op_sub (pe_op op_sub pe_int pe_int) (pe_callC C__law_draw (hr.mono (by decide)) passE (pa_cons (pv 0) (pa_cons pe_int pa_nil)))) pa_nil)))))
      (pss_cons (ps_expr (pe_bm PySem.F.plainAttrs_list PySem.F.slot_list_append PySem.F.type_list_append mt_append (pv 7) (pa_cons (pe_op op_add (pe_op op_add (pe_op op_pow pe_int pe_int) pe_int) (pe_callC C__law_draw (hr.mono (by decide)) passE (pa_cons (pv 0) (pa_cons (pe_op op_pow pe_int pe_int) pa_nil)))) pa_nil)))
      (pss_cons (ps_set (i := 8) sc__law_refusals.nd rfl (Or.inl rfl) (pe_ix ix_list (pv 7) (pe_callC C__law_draw (hr.mono (by decide)) passE (pa_cons (pv 0) (pa_cons pe_int pa_nil))) (fun _ _ => rfl)))
      (pss_cons (ps_for ownE rfl (pi_list (pv 7)) (pg_name (i := 9) sc__law_refusals.nd rfl (Or.inl rfl))
        (pss_one (ps_for ownE rfl (pi_range1 (by rfl) T.f_range (pa_cons pe_int pa_nil)) (pg_name (i := 10) sc__law_refusals.nd rfl (Or.inl rfl))
        (pss_cons (ps_if (pt_cmpR (op_neD (u64 hr)) (pe_callC C__law_refusal (hr.mono (by decide)) passE (pa_cons (pv 10) (pa_cons (pv 1) (pa_cons (pv 9) (pa_cons (pv 8) pa_nil))))) (pe_lst (pa_cons (pe_tup (pa_cons pe_str (pa_cons (pv 9) pa_nil))) pa_nil)) (nomark _)) (pss_one (ps_ret pe_bl)) pss_nil)
      (pss_one (ps_if (pt_cmpR (op_neD (u64 hr)) (pe_callC C__law_refusal (hr.mono (by decide)) passE (pa_cons (pv 10) (pa_cons (pv 6) (pa_cons (pv 2) (pa_cons (pv 9) pa_nil))))) (pe_lst (pa_cons (pe_tup (pa_cons pe_str (pa_cons (pv 9) pa_nil))) pa_nil)) (nomark _)) (pss_one (ps_ret pe_bl)) pss_nil))))))
      (pss_cons (ps_if (pt_cmpR (op_neD (u64 hr)) (pe_callC C__law_refusal (hr.mono (by decide)) passE (pa_cons pe_int (pa_cons (pv 6) (pa_cons (pv 2) (pa_cons (pv 3) pa_nil))))) (pe_lst (pa_cons (pe_tup (pa_cons pe_str (pa_cons (pv 4) pa_nil))) pa_nil)) (nomark _)) (pss_one (ps_ret pe_bl)) pss_nil)
      (pss_one (ps_ret (pe_and (pe_cmpR (op_eqD (u64 hr)) (pe_callC C__law_refusal (hr.mono (by decide)) passE (pa_cons pe_int (pa_cons (pv 6) (pa_cons (pv 2) (pa_cons (pv 3) pa_nil))))) (pe_lst pa_nil) (nomark _)) (pe_one (pe_callC C__law_paired (hr.mono (by decide)) passE (pa_cons (pv 6) (pa_cons (pv 5) (pa_cons (pv 2) (pa_cons (pv 3) pa_nil))))))))))))))))))), ?_⟩
    walk_at "rd"
    refine ⟨p, 2, rfl, hp, by decide, fun sd H1 d0 d1 b1 p1 => ⟨sd, rfl, ?_⟩⟩
    refine ⟨p, 4, rfl, p1, by decide, fun a H2 a0 a1 b2 p2 => ⟨a, rfl, ?_⟩⟩
    refine ⟨p, 4, rfl, p2, by decide, fun b H3 b0 b1' b3 p3 => ⟨b, rfl, ?_⟩⟩
    intro t ht q hq
    have s4 := Same.new (o := .tup [.int (1 + a), .int (1 + b)]) ht
    have s5 := Same.new (o := .lst [.ref t]) hq
    have p5 := p3.same (s4.trans s5)
    have nqp : q ≠ p := (p3.same s4).ne hq
    have ntq : t ≠ q := fun z => by rw [← z, upd_same] at hq; cases hq
    have gq : (upd (upd H3 t (.tup [.int (1 + a), .int (1 + b)])) q (.lst [.ref t])) q = some (.lst [.ref t]) := upd_same
    have gt := s5 _ _ (upd_same : (upd H3 t (.tup [.int (1 + a), .int (1 + b)])) t = _)
    refine ⟨tyL gq, p, 6, rfl, p5, by decide, fun r H4 r0 r1 b4 p4 => ⟨r, rfl, ?_⟩⟩
    have L4 := (((hL.pool hp b1).pool p1 b2).pool p2 b3)
    have L4 := ((L4.mono (s4.trans s5)).pool p5 b4)
    have ntp : t ≠ p := p3.ne ht
    have gq := b4 _ _ gq nqp
    have gt := b4 _ _ gt ntp
    intro t2 ht2
    have s6 := Same.new (o := .tup [.int (5 + sd), .int (1 + r)]) ht2
    have gq := s6 _ _ gq
    have gt := s6 _ _ gt
    have gt2 : (upd H4 t2 (.tup [.int (5 + sd), .int (1 + r)])) t2 = some (.tup [.int (5 + sd), .int (1 + r)]) := upd_same
    refine ⟨_, gq, by show 1 < 16777216; decide, _, .inl (SqL.of upd_same), ?_⟩
    have nt2q : t2 ≠ q := ne_of gt2 gq (by intro z; cases z)
    have p6 : Pool (upd (upd H4 t2 (.tup [.int (5 + sd), .int (1 + r)])) q (.lst ([.ref t] ++ [.ref t2]))) p := (p4.same s6).mut nqp
    have L6 : LotAt K (upd (upd H4 t2 (.tup [.int (5 + sd), .int (1 + r)])) q (.lst ([.ref t] ++ [.ref t2]))) l bs := by
      obtain ⟨dx, u, ys, e1, e2, e3⟩ := L4.mono s6
      exact ⟨dx, u, ys, by rw [upd_ne (ne_of e1 gq (by intro z; cases z))]; exact e1, by rw [upd_ne (ne_of e2 gq (by intro z; cases z))]; exact e2, e3.but (But.upd But.refl) gq⟩
    have gt : (upd (upd H4 t2 (.tup [.int (5 + sd), .int (1 + r)])) q (.lst ([.ref t] ++ [.ref t2]))) t = some (.tup [.int (1 + a), .int (1 + b)]) := by rw [upd_ne ntq]; exact gt
    have gt2 : (upd (upd H4 t2 (.tup [.int (5 + sd), .int (1 + r)])) q (.lst ([.ref t] ++ [.ref t2]))) t2 = some (.tup [.int (5 + sd), .int (1 + r)]) := by rw [upd_ne nt2q]; exact gt2
    have gq : (upd (upd H4 t2 (.tup [.int (5 + sd), .int (1 + r)])) q (.lst ([.ref t] ++ [.ref t2]))) q = some (.lst [.ref t, .ref t2]) := upd_same
    generalize upd (upd H4 t2 (.tup [.int (5 + sd), .int (1 + r)])) q (.lst ([.ref t] ++ [.ref t2])) = G at *
    have PLG : PL G [.ref t, .ref t2] [(1 + a, 1 + b), (5 + sd, 1 + r)] := ⟨rfl, fun i y e => by
      match i, e with
      | 0, e => exact ⟨_, rfl, t, (Option.some.inj e).symm, gt⟩
      | 1, e => exact ⟨_, rfl, t2, (Option.some.inj e).symm, gt2⟩⟩
    intro l1 hl1 x dx hx hdx hne
    have s7 := Same.new (o := .lst [.ref t, .ref t2]) hl1
    have hxn : (upd (upd G l1 (.lst [.ref t, .ref t2])) dx (.own x)) x = none := by rw [upd_ne (fun z => hne z.symm)]; exact hx
    have s8 : Same (upd G l1 (.lst [.ref t, .ref t2])) (upd (upd (upd G l1 (.lst [.ref t, .ref t2])) dx (.own x)) x (.ins (He.ga K "Lot") dx [])) := (Same.new hdx).trans (Same.new hxn)
    refine ⟨x, l1, dx, [.ref t, .ref t2], [(1 + a, 1 + b), (5 + sd, 1 + r)], rfl, upd_same, s8 _ _ upd_same, PLG.mono (s7.trans s8), ⟨by show 1 ≤ 2; decide, by show 2 ≤ 6; decide⟩, fun c hc => ?_, ?_, fun H5 bs' b5 pm HL => ?_⟩
    · rcases List.mem_cons.mp hc with e | e
      · subst e
        exact ⟨by omega, by omega, by omega, by omega⟩
      · rw [List.mem_singleton] at e
        subst e
        exact ⟨by omega, by omega, by omega, by omega⟩
    · have : ¬ ((1 + a, 1 + b) : Int × Int) = (5 + sd, 1 + r) := fun z => by
        have := congrArg Prod.fst z
        dsimp only at this
        omega
      simp [this]
    have s9 : Same G H5 := s7.trans (Same.made hx hdx b5)
    have fl := firstLong_pair pm (by omega) (by omega) (by omega)
    have p9 := p6.same s9
    have L9 := L6.mono s9
    have q9 := s9 _ _ gq
    have P9 := PLG.mono s9
    refine ⟨rfl, p, 9, rfl, p9, by decide, fun x9 H6 x0 x1 b6 p6' => ⟨x9, rfl, fun o ho => ?_⟩⟩
    have sA := Same.new (o := .lst [V.int 0, V.int (10000000000000000000000000000000 + 1), V.int (0 - 1 - x9)]) ho
    have nop : o ≠ p := p6'.ne ho
    have goA : (upd H6 o (.lst [V.int 0, V.int (10000000000000000000000000000000 + 1), V.int (0 - 1 - x9)])) o = some (.lst [V.int 0, V.int (10000000000000000000000000000000 + 1), V.int (0 - 1 - x9)]) := upd_same
    have pA := p6'.same sA
    refine ⟨tyL goA, p, 1000000, rfl, pA, by decide, fun y9 H7 y0 y1 b7 p7 => ⟨y9, rfl, ?_⟩⟩
    have goB := b7 _ _ goA nop
    refine ⟨_, goB, by show 3 < 16777216; decide, ?_⟩
    have LB := (((L9.pool p9 b6).mono sA).pool pA b7)
    have HB := (((HL.pool p9 b6).mono sA).pool pA b7)
    have PB := (((P9.pool p9 b6).mono sA).pool pA b7)
    have qB := b7 _ _ (sA _ _ (b6 _ _ q9 nqp)) nqp
    obtain ⟨ns, hns⟩ : ∃ ns : List Int, ns = [0, 10000000000000000000000000000000 + 1, 0 - 1 - x9, 10000000000000000000000000000000 + 2 + y9] := ⟨_, rfl⟩
    have nbad : ∀ k ∈ ns, Bad k := fun k hk => by
      rw [hns] at hk
      have e : k = 0 ∨ k = 10000000000000000000000000000000 + 1 ∨ k = 0 - 1 - x9 ∨ k = 10000000000000000000000000000000 + 2 + y9 := by simpa using hk
      intro z
      have z2 : k ≤ (10000000000000000000000000000000 : Int) := z.2
      have z1 := z.1
      omega
    have gns : [V.int 0, V.int (10000000000000000000000000000000 + 1), V.int (0 - 1 - x9)] ++ [V.int (10000000000000000000000000000000 + 2 + y9)] = ns.map V.int := by rw [hns]; rfl
    rw [gns]
    have pC : Pool (upd H7 o (.lst (ns.map V.int))) p := p7.mut nop
    have butC : But o H7 (upd H7 o (.lst (ns.map V.int))) := But.upd But.refl
    have LC : LotAt K (upd H7 o (.lst (ns.map V.int))) l bs := by
      obtain ⟨dx, u, ys, e1, e2, e3⟩ := LB
      exact ⟨dx, u, ys, butC _ _ e1 (ne_of e1 goB (by intro z; cases z)), butC _ _ e2 (ne_of e2 goB (by intro z; cases z)), e3.but butC goB⟩
    have HC : LotAt K (upd H7 o (.lst (ns.map V.int))) x bs' := by
      obtain ⟨dx, u, ys, e1, e2, e3⟩ := HB
      exact ⟨dx, u, ys, butC _ _ e1 (ne_of e1 goB (by intro z; cases z)), butC _ _ e2 (ne_of e2 goB (by intro z; cases z)), e3.but butC goB⟩
    have PC := PB.but butC goB
    have nqo : q ≠ o := fun z => by
      rw [← z] at goB
      rw [qB] at goB
      cases goB
    have qC := butC _ _ qB nqo
    have oC : (upd H7 o (.lst (ns.map V.int))) o = some (.lst (ns.map V.int)) := upd_same
    generalize upd H7 o (.lst (ns.map V.int)) = G2 at *
    refine ⟨p, 4, rfl, pC, by decide, fun at_ H8 at0 at1 b8 p8 => ?_⟩
    have oD := b8 _ _ oC nop
    have qD := b8 _ _ qC nqp
    have LD := LC.pool pC b8
    have HD := HC.pool pC b8
    have PD := PC.pool pC b8
    have nl : ns.length = 4 := by rw [hns]; rfl
    obtain ⟨ot, eo⟩ := at_in (ns := ns) (i := at_) at0 (by omega)
    have bot : Bad ot := by
      unfold atI at eo
      rw [List.length_map, ix_in at0 (by omega), Option.bind_some, List.getElem?_map] at eo
      cases e : ns[at_.toNat]? with
      | none => rw [e] at eo; cases eo
      | some z =>
        rw [e] at eo
        have := V.int.inj (Option.some.inj eo)
        rw [← this]
        exact nbad z (List.mem_of_getElem? e)
    refine ⟨_, at_, rfl, SqL.of oD, _, eo, ⟨_, SqL.of oD⟩, loopL (ns.map V.int) (fun _ => I21 H8 _ _ _ _ _ _ _ _ _) ⟨none, none, rfl, Same.refl _⟩ (fun i σ' H' _ ⟨_, _, _, s⟩ => SqL.of (s _ _ oD)) ?_ ?_⟩
    · rintro i y σ' H9 hi ⟨v9, v10, rfl, s9'⟩
      obtain ⟨nu, hnu, rfl⟩ := map_at hi
      have bnu := nbad nu (List.mem_of_getElem? hnu)
      walk_at "rd"
      refine loopR (Int.toNat 2) (fun _ => I22 H8 _ _ _ _ _ _ _ _ _ _) ⟨v10, rfl, s9'⟩ ?_ ?_
      · rintro j σ' HA hj ⟨v10, rfl, sA'⟩
        walk_at "rd"
        have o1 : ∀ dd : Int, outOf bs dd nu ot = some (("number" : Str), nu) := fun dd => if_pos bnu
        have o2 : ∀ dd : Int, outOf bs' dd m nu = some (("number" : Str), nu) := fun dd => by
          unfold outOf
          rw [if_neg (fun z => z ⟨by omega, hm.2⟩)]
          exact if_pos bnu
        refine ⟨l, bs, _, nu, ot, rfl, LD.mono sA', fun z y => ⟨bnu.six z, bot.six y⟩, fun HB r1 sB oB => ?_⟩
        rw [o1] at oB
        intro u hu v hv
        refine neD1 (outN nu) oB hu hv ⟨_, rfl, ?_⟩
        rw [if_neg (by decide)]
        have sC : Same H8 (upd (upd HB u (.tup [.str "number", .int nu])) v (.lst [.ref u])) := sA'.trans (sB.trans ((Same.new hu).trans (Same.new hv)))
        refine ⟨x, bs', _, m, nu, rfl, HD.mono sC, fun _ y => ⟨hm.1, bnu.six y⟩, fun HE r2 sE oE => ?_⟩
        rw [o2] at oE
        intro u2 hu2 v2 hv2
        refine neD1 (outN nu) oE hu2 hv2 ⟨_, rfl, ?_⟩
        rw [if_neg (by decide)]
        exact ⟨_, rfl, sC.trans (sE.trans ((Same.new hu2).trans (Same.new hv2)))⟩
      · rintro σ' HA ⟨v10, rfl, sA'⟩
        exact ⟨_, _, rfl, sA'⟩
    · rintro σ' H9 ⟨v9, v10, rfl, s9'⟩
      walk_at "rd"
      have o3 : outOf bs' 0 m n = some (("long" : Str), 5 + sd) := by
        unfold outOf
        rw [if_neg (fun z => z ⟨by omega, hm.2⟩), if_neg (fun z => z ⟨by omega, hn.2⟩), if_pos rfl, fl]
        rfl
      have o4 : outOf bs' 1 m n = none := by
        unfold outOf
        rw [if_neg (fun z => z ⟨by omega, hm.2⟩), if_neg (fun z => z ⟨by omega, hn.2⟩), if_neg (by decide)]
      refine ⟨x, bs', 0, m, n, rfl, HD.mono s9', fun _ _ => ⟨hm.1, hn.1⟩, fun HB r1 sB oB => ?_⟩
      rw [o3] at oB
      intro u hu v hv
      refine neD1 (outL (5 + sd)) oB hu hv ⟨_, rfl, ?_⟩
      rw [if_neg (by decide)]
      have sC : Same H8 (upd (upd HB u (.tup [.str "long", .int (5 + sd)])) v (.lst [.ref u])) := s9'.trans (sB.trans ((Same.new hu).trans (Same.new hv)))
      refine ⟨x, bs', 1, m, n, rfl, HD.mono sC, fun _ _ => ⟨hm.1, hn.1⟩, fun HE r2 sE oE => ?_⟩
      rw [o4] at oE
      intro u2 hu2
      have sF := Same.new (o := .lst []) hu2
      refine ⟨_, _, (oE.mono sF).dp, OutAt.dp (o := none) upd_same, outO, outO, ?_⟩
      rw [outD_eqv outO]
      refine ⟨_, rfl, ?_⟩
      rw [if_pos rfl]
      have sG := sC.trans (sE.trans sF)
      exact ⟨x, q, _, _, bs', m, n, rfl, HD.mono sG, pm, sG _ _ qD, PD.mono sG, hm, hn, fun H' _ => k H'⟩
end FW
set_option Elab.async false
set_option linter.all false
set_option maxRecDepth 100000
set_option maxHeartbeats 4000000
namespace FW
/-! ### sums of coins, in plain words -/
def rAt (cs : List Int) (k : Nat) : Bool := ((reachL cs k)[k]?).getD false
theorem reach_pre (cs : List Int) : ∀ (n k : Nat), k ≤ n → (reachL cs n)[k]? = (reachL cs k)[k]?
  | 0, 0, _ => rfl
  | n + 1, k, h => by
    by_cases e : k = n + 1
    · rw [e]
    · have h2 : k ≤ n := by omega
      rw [← reach_pre cs n k h2]
      show (stepR cs n (reachL cs n))[k]? = _
      unfold stepR
      rw [List.getElem?_append_left (by rw [reachL_len]; omega)]
theorem rAt_succ (cs : List Int) (n : Nat) (h1 : ∀ p ∈ cs, 1 ≤ p) : rAt cs (n + 1) = cs.any fun p => decide (p ≤ 1 + (n : Int)) && rAt cs (1 + (n : Int) - p).toNat := by
  have e : rAt cs (n + 1) = cs.any fun p => decide (p ≤ 1 + (n : Int)) && ((reachL cs n)[(1 + (n : Int) - p).toNat]?).getD false := by
    unfold rAt
    show ((stepR cs n (reachL cs n))[n + 1]?).getD false = _
    unfold stepR
    rw [List.getElem?_append_right (by rw [reachL_len]; omega), reachL_len, Nat.sub_self]
    rfl
  rw [e]
  have : ∀ p ∈ cs, (decide (p ≤ 1 + (n : Int)) && ((reachL cs n)[(1 + (n : Int) - p).toNat]?).getD false) = (decide (p ≤ 1 + (n : Int)) && rAt cs (1 + (n : Int) - p).toNat) := fun p hp => by
    have := h1 p hp
    unfold rAt
    rw [reach_pre cs n _ (by omega)]
  rw [Bool.eq_iff_iff, List.any_eq_true, List.any_eq_true]
  constructor
  · rintro ⟨p, hp, h⟩
    exact ⟨p, hp, by rw [← this p hp]; exact h⟩
  · rintro ⟨p, hp, h⟩
    exact ⟨p, hp, by rw [this p hp]; exact h⟩
def stF (f1 f2 f3 f4 : Bool) : Nat → Bool × Bool × Bool × Bool
  | 0 => (true, false, false, false)
  | n + 1 => match stF f1 f2 f3 f4 n with
    | (a, b, c, d) => ((f1 && a) || ((f2 && b) || ((f3 && c) || (f4 && d))), a, b, c)
theorem any_R14 (f : Int → Bool) (g : Int → Bool) : (R14.filter f).any g = ((f 1 && g 1) || ((f 2 && g 2) || ((f 3 && g 3) || (f 4 && g 4)))) := by
  have e : (R14.filter f).any g = R14.any fun p => f p && g p := by
    rw [List.any_filter]
  rw [e]
  simp [R14]
theorem R14_pos (f : Int → Bool) : ∀ p ∈ R14.filter f, 1 ≤ p := fun p hp => by
  have : ∀ p ∈ R14, 1 ≤ p := by decide
  exact this p (List.mem_filter.mp hp).1
theorem stF_eq (f : Int → Bool) : ∀ n : Nat, stF (f 1) (f 2) (f 3) (f 4) n = (rAt (R14.filter f) n, decide (1 ≤ n) && rAt (R14.filter f) (n - 1), decide (2 ≤ n) && rAt (R14.filter f) (n - 2), decide (3 ≤ n) && rAt (R14.filter f) (n - 3))
  | 0 => by
    simp [stF, rAt, reachL]
  | n + 1 => by
    show (match stF (f 1) (f 2) (f 3) (f 4) n with
      | (a, b, c, d) => ((f 1 && a) || ((f 2 && b) || ((f 3 && c) || (f 4 && d))), a, b, c)) = _
    rw [stF_eq f n]
    have e := rAt_succ (R14.filter f) n (R14_pos f)
    rw [any_R14] at e
    have t1 : (1 + (n : Int) - 1).toNat = n := by omega
    have t2 : (1 + (n : Int) - 2).toNat = n - 1 := by omega
    have t3 : (1 + (n : Int) - 3).toNat = n - 2 := by omega
    have t4 : (1 + (n : Int) - 4).toNat = n - 3 := by omega
    have d1 : decide ((1 : Int) ≤ 1 + (n : Int)) = true := decide_eq_true (by omega)
    have d2 : decide ((2 : Int) ≤ 1 + (n : Int)) = decide (1 ≤ n) := by rw [Bool.eq_iff_iff, decide_eq_true_iff, decide_eq_true_iff]; omega
    have d3 : decide ((3 : Int) ≤ 1 + (n : Int)) = decide (2 ≤ n) := by rw [Bool.eq_iff_iff, decide_eq_true_iff, decide_eq_true_iff]; omega
    have d4 : decide ((4 : Int) ≤ 1 + (n : Int)) = decide (3 ≤ n) := by rw [Bool.eq_iff_iff, decide_eq_true_iff, decide_eq_true_iff]; omega
    rw [t1, t2, t3, t4, d1, d2, d3, d4, Bool.true_and] at e
    have c1 : decide (1 ≤ n + 1) = true := decide_eq_true (by omega)
    have c2 : decide (2 ≤ n + 1) = decide (1 ≤ n) := by rw [Bool.eq_iff_iff, decide_eq_true_iff, decide_eq_true_iff]; omega
    have c3 : decide (3 ≤ n + 1) = decide (2 ≤ n) := by rw [Bool.eq_iff_iff, decide_eq_true_iff, decide_eq_true_iff]; omega
    rw [e, c1, c2, c3, Bool.true_and]
    rfl
def gF (f1 f2 f3 f4 : Bool) : Nat := Nat.gcd (if f1 then 1 else 0) (Nat.gcd (if f2 then 2 else 0) (Nat.gcd (if f3 then 3 else 0) (if f4 then 4 else 0)))
def okAll : Bool := [true, false].all fun f1 => [true, false].all fun f2 => [true, false].all fun f3 => [true, false].all fun f4 => (List.range 54).all fun k => (stF f1 f2 f3 f4 (k + 6)).1 == decide (gF f1 f2 f3 f4 ∣ k + 6)
theorem okAll_true : okAll = true := by decide +kernel
theorem mem_tf (b : Bool) : b ∈ [true, false] := by cases b <;> decide
theorem ok_at (f1 f2 f3 f4 : Bool) {k : Nat} (h : 6 ≤ k) (h2 : k < 60) : (stF f1 f2 f3 f4 k).1 = decide (gF f1 f2 f3 f4 ∣ k) := by
  have z := okAll_true
  unfold okAll at z
  have z1 := List.all_eq_true.mp z f1 (mem_tf _)
  have z2 := List.all_eq_true.mp z1 f2 (mem_tf _)
  have z3 := List.all_eq_true.mp z2 f3 (mem_tf _)
  have z4 := List.all_eq_true.mp z3 f4 (mem_tf _)
  have z5 := List.all_eq_true.mp z4 (k - 6) (List.mem_range.mpr (by omega))
  have e : k - 6 + 6 = k := by omega
  rw [e] at z5
  exact eq_of_beq z5
theorem gF_least (f1 f2 f3 f4 : Bool) (m : Int) (h : 6 ≤ m) : ((gF f1 f2 f3 f4 : Nat) : Int) ∣ leastOf m ↔ ((gF f1 f2 f3 f4 : Nat) : Int) ∣ m := by
  unfold leastOf
  by_cases h48 : m < 48
  · rw [if_pos h48]
  · rw [if_neg h48]
    have key : ∀ g : Nat, g ≤ 4 → (((g : Nat) : Int) ∣ 48 + m % 12 ↔ ((g : Nat) : Int) ∣ m) := fun g hg => by
      match g, hg with
      | 0, _ =>
        have r := Int.emod_nonneg m (by decide : (12 : Int) ≠ 0)
        constructor
        · intro z
          have := Int.zero_dvd.mp z
          omega
        · intro z
          have := Int.zero_dvd.mp z
          omega
      | 1, _ => exact ⟨fun _ => Int.one_dvd _, fun _ => Int.one_dvd _⟩
      | 2, _ => show (2 : Int) ∣ _ ↔ (2 : Int) ∣ _; omega
      | 3, _ => show (3 : Int) ∣ _ ↔ (3 : Int) ∣ _; omega
      | 4, _ => show (4 : Int) ∣ _ ↔ (4 : Int) ∣ _; omega
    refine key _ ?_
    cases f1 <;> cases f2 <;> cases f3 <;> cases f4 <;> decide +kernel
theorem isSum_iff (f : Int → Bool) (m : Int) (h : 6 ≤ m) : isSumB (R14.filter f) m = true ↔ ((gF (f 1) (f 2) (f 3) (f 4) : Nat) : Int) ∣ m := by
  have hb := Int.emod_nonneg m (by decide : (12 : Int) ≠ 0)
  have hb2 := Int.emod_lt_of_pos m (by decide : (0 : Int) < 12)
  have l : 6 ≤ leastOf m ∧ leastOf m < 60 := by
    unfold leastOf
    split <;> omega
  have e : isSumB (R14.filter f) m = rAt (R14.filter f) (leastOf m).toNat := rfl
  have e2 := congrArg (·.1) (stF_eq f (leastOf m).toNat)
  rw [e, ← show (stF (f 1) (f 2) (f 3) (f 4) (leastOf m).toNat).1 = rAt (R14.filter f) (leastOf m).toNat from e2, ok_at _ _ _ _ (by omega) (by omega), decide_eq_true_iff, ← gF_least _ _ _ _ m h]
  rw [← Int.natCast_dvd_natCast, Int.toNat_of_nonneg (by omega)]
end FW
set_option Elab.async false
set_option linter.all false
set_option maxRecDepth 100000
set_option maxHeartbeats 4000000
namespace FW
/-- the greatest common divisor of the widths -/
def hasW (ss : List (Int × Int)) (p : Int) : Bool := (ss.map (·.1)).any fun q => decide (q = p)
def gW (ss : List (Int × Int)) : Nat := gF (hasW ss 1) (hasW ss 2) (hasW ss 3) (hasW ss 4)
theorem coins_sum (ss : List (Int × Int)) (m : Int) (h : 6 ≤ m) : isSumB (coinsOf ss) m = true ↔ ((gW ss : Nat) : Int) ∣ m := isSum_iff (hasW ss) m h
theorem hasW_iff {ss : List (Int × Int)} {p : Int} : hasW ss p = true ↔ ∃ c ∈ ss, c.1 = p := by
  unfold hasW
  rw [List.any_eq_true]
  constructor
  · rintro ⟨q, hq, e⟩
    obtain ⟨c, hc, rfl⟩ := List.mem_map.mp hq
    exact ⟨c, hc, of_decide_eq_true e⟩
  · rintro ⟨c, hc, rfl⟩
    exact ⟨c.1, List.mem_map.mpr ⟨c, hc, rfl⟩, decide_eq_true rfl⟩
theorem dvd_gF (a : Nat) (f1 f2 f3 f4 : Bool) : a ∣ gF f1 f2 f3 f4 ↔ (f1 = true → a ∣ 1) ∧ (f2 = true → a ∣ 2) ∧ (f3 = true → a ∣ 3) ∧ (f4 = true → a ∣ 4) := by
  have one : ∀ (f : Bool) (k : Nat), (a ∣ if f then k else 0) ↔ (f = true → a ∣ k) := fun f k => by
    cases f <;> simp
  unfold gF
  rw [Nat.dvd_gcd_iff, Nat.dvd_gcd_iff, Nat.dvd_gcd_iff]
  have o1 := one f1 1
  have o2 := one f2 2
  have o3 := one f3 3
  have o4 := one f4 4
  rw [o1, o2, o3, o4]
theorem dvd_gW {ss : List (Int × Int)} (hin : ∀ c ∈ ss, In4 c) (a : Int) : a ∣ ((gW ss : Nat) : Int) ↔ ∀ c ∈ ss, a ∣ c.1 := by
  rw [← Int.natAbs_dvd_natAbs, Int.natAbs_natCast]
  unfold gW
  rw [dvd_gF]
  have up : ∀ k : Nat, (hasW ss (k : Int) = true → a.natAbs ∣ k) ↔ ∀ c ∈ ss, c.1 = (k : Int) → a ∣ c.1 := fun k => by
    rw [hasW_iff]
    constructor
    · intro h c hc e
      have := h ⟨c, hc, e⟩
      rw [e, ← Int.natAbs_dvd_natAbs]
      exact this
    · rintro h ⟨c, hc, e⟩
      have := h c hc e
      rw [e, ← Int.natAbs_dvd_natAbs] at this
      exact this
  have u1 := up 1
  have u2 := up 2
  have u3 := up 3
  have u4 := up 4
  constructor
  · rintro ⟨h1, h2, h3, h4⟩ c hc
    obtain ⟨i1, i2, _, _⟩ := hin c hc
    have e : c.1 = 1 ∨ c.1 = 2 ∨ c.1 = 3 ∨ c.1 = 4 := by omega
    rcases e with e | e | e | e
    · exact u1.mp h1 c hc e
    · exact u2.mp h2 c hc e
    · exact u3.mp h3 c hc e
    · exact u4.mp h4 c hc e
  · intro h
    exact ⟨u1.mpr fun c hc _ => h c hc, u2.mpr fun c hc _ => h c hc, u3.mpr fun c hc _ => h c hc, u4.mpr fun c hc _ => h c hc⟩
theorem gW_le {ss : List (Int × Int)} (hin : ∀ c ∈ ss, In4 c) (hne : ss ≠ []) : 1 ≤ gW ss ∧ gW ss ≤ 4 := by
  obtain ⟨c, hc⟩ := List.exists_mem_of_ne_nil ss hne
  have d := (dvd_gW hin _).mp (Int.dvd_refl _) c hc
  obtain ⟨i1, i2, _, _⟩ := hin c hc
  have := Int.le_of_dvd (by omega) d
  have : gW ss ≠ 0 := fun z => by
    rw [z] at d
    have := Int.zero_dvd.mp d
    omega
  omega
/-! ### heights -/
theorem foldl_dvd (B : Nat) : ∀ (ss : List (Int × Int)) (h : Nat), (ss.foldl lcmStep h ∣ B) ↔ (h ∣ B ∧ ∀ c ∈ ss, c.2.toNat ∣ B)
  | [], h => by simp
  | c :: ss, h => by
    rw [List.foldl_cons, foldl_dvd B ss]
    unfold lcmStep
    constructor
    · rintro ⟨h1, h2⟩
      refine ⟨Nat.dvd_trans (Nat.dvd_lcm_left _ _) h1, fun d hd => ?_⟩
      rcases List.mem_cons.mp hd with e | e
      · rw [e]
        exact Nat.dvd_trans (Nat.dvd_lcm_right _ _) h1
      · exact h2 d e
    · rintro ⟨h1, h2⟩
      exact ⟨Nat.lcm_dvd h1 (h2 c List.mem_cons_self), fun d hd => h2 d (List.mem_cons_of_mem _ hd)⟩
theorem lcmH_dvd_iff {ss : List (Int × Int)} {B : Nat} : lcmH ss ∣ B ↔ ∀ c ∈ ss, c.2.toNat ∣ B := by
  unfold lcmH
  rw [foldl_dvd]
  exact ⟨fun h => h.2, fun h => ⟨Nat.one_dvd _, h⟩⟩
theorem dvd_lcmH {ss : List (Int × Int)} {c : Int × Int} (hc : c ∈ ss) : c.2.toNat ∣ lcmH ss := lcmH_dvd_iff.mp (Nat.dvd_refl _) c hc
theorem dvd_heightT {bs : List (Int × Int)} {m : Int} (x : Nat) : ∀ N : Nat, x ∣ heightT bs m N ↔ ∀ k, 1 ≤ k → k ≤ N → isSumB (coinsOf (subB bs k)) m = true → x ∣ lcmH (subB bs k)
  | 0 => ⟨fun _ k h1 h2 => by omega, fun _ => Nat.dvd_zero x⟩
  | N + 1 => by
    show x ∣ hStep bs m (heightT bs m N) (N + 1) ↔ _
    have ih := dvd_heightT (bs := bs) (m := m) x N
    unfold hStep
    by_cases h : isSumB (coinsOf (subB bs (N + 1))) m = true
    · rw [if_pos h, Nat.dvd_gcd_iff, ih]
      constructor
      · rintro ⟨h1, h2⟩ k k1 k2 hk
        by_cases e : k = N + 1
        · rw [e]
          exact h2
        · exact h1 k k1 (by omega) hk
      · intro z
        exact ⟨fun k k1 k2 hk => z k k1 (by omega) hk, z (N + 1) (by omega) (Nat.le_refl _) h⟩
    · rw [if_neg h, ih]
      constructor
      · intro h1 k k1 k2 hk
        by_cases e : k = N + 1
        · rw [e] at hk
          exact absurd hk h
        · exact h1 k k1 (by omega) hk
      · intro z k k1 k2 hk
        exact z k k1 (by omega) hk
theorem subB_zero {α : Type} : ∀ bs : List α, subB bs 0 = []
  | [] => rfl
  | b :: bs => by
    show (if 0 % 2 = 1 then b :: subB bs (0 / 2) else subB bs (0 / 2)) = []
    rw [if_neg (by decide)]
    exact subB_zero bs
theorem subB_filter {α : Type} (p : α → Bool) : ∀ bs : List α, ∃ k, k < 2 ^ bs.length ∧ subB bs k = bs.filter p
  | [] => ⟨0, by show 0 < 1; decide, rfl⟩
  | b :: bs => by
    obtain ⟨k, hk, e⟩ := subB_filter p bs
    rw [List.length_cons, Nat.pow_succ]
    cases hp : p b with
    | true =>
      refine ⟨2 * k + 1, by omega, ?_⟩
      show (if (2 * k + 1) % 2 = 1 then b :: subB bs ((2 * k + 1) / 2) else subB bs ((2 * k + 1) / 2)) = _
      have h2 : (2 * k + 1) / 2 = k := by omega
      rw [if_pos (by omega), h2, e, List.filter_cons, hp]
      rfl
    | false =>
      refine ⟨2 * k, by omega, ?_⟩
      show (if (2 * k) % 2 = 1 then b :: subB bs ((2 * k) / 2) else subB bs ((2 * k) / 2)) = _
      have h2 : (2 * k) / 2 = k := by omega
      rw [if_neg (by omega), h2, e, List.filter_cons, hp]
      rfl
theorem sub_at {bs : List (Int × Int)} (p : Int × Int → Bool) (hne : bs.filter p ≠ []) : ∃ k, 1 ≤ k ∧ k ≤ 2 ^ bs.length - 1 ∧ subB bs k = bs.filter p := by
  obtain ⟨k, hk, e⟩ := subB_filter p bs
  refine ⟨k, ?_, by omega, e⟩
  by_cases h0 : k = 0
  · rw [h0, subB_zero] at e
    exact absurd e.symm hne
  · omega
theorem keepB_iff {a u : Int} {bs : List (Int × Int)} : keepB a u bs = true ↔ ∀ c ∈ bs, a ∣ c.1 ∨ u ∣ c.2 := by
  unfold keepB
  rw [List.all_eq_true]
  simp
theorem height_ok {bs : List (Int × Int)} (hin : ∀ c ∈ bs, In4 c) (hne : bs ≠ []) {m n : Int} (hm : 6 ≤ m) (hn : 0 < n) :
    ((0 < ((heightF bs m : Nat) : Int) ∧ ((heightF bs m : Nat) : Int) ∣ n) ↔ firstEx bs m n = none) := by
  have sub_in : ∀ k, ∀ c ∈ subB bs k, In4 c := fun k c hc => hin c (subB_mem hc)
  have char := fun x => dvd_heightT (bs := bs) (m := m) x (2 ^ bs.length - 1)
  have eF : heightF bs m = heightT bs m (2 ^ bs.length - 1) := rfl
  rw [← eF] at char
  have self := (char (heightF bs m)).mp (Nat.dvd_refl _)
  rw [firstEx_none]
  constructor
  · rintro ⟨g0, gn⟩ c hc hk
    obtain ⟨a, u⟩ := c
    dsimp only at hk ⊢
    rw [keepB_iff] at hk
    by_cases ha : a ∣ m
    · exact .inl ha
    · refine .inr (Int.dvd_trans ?_ gn)
      rw [← Int.natAbs_dvd_natAbs, Int.natAbs_natCast, char]
      intro k k1 k2 hs
      rw [coins_sum _ _ hm] at hs
      have ex : ∃ c ∈ subB bs k, ¬ a ∣ c.1 := Classical.byContradiction fun z => by
        have all : ∀ c ∈ subB bs k, a ∣ c.1 := fun c hc => Classical.byContradiction fun q => z ⟨c, hc, q⟩
        exact ha (Int.dvd_trans ((dvd_gW (sub_in k) a).mpr all) hs)
      obtain ⟨c, hc, na⟩ := ex
      have hu := (hk c (subB_mem hc)).resolve_left na
      refine Nat.dvd_trans ?_ (dvd_lcmH hc)
      rw [← Int.natAbs_dvd_natAbs] at hu
      have e : c.2.natAbs = c.2.toNat := by
        have := (sub_in k c hc).2.2.1
        omega
      rw [← e]
      exact hu
  · intro h
    -- a set of bricks whose widths' divisor d does not divide m, and e that divides the other bricks' heights
    have bad : ∀ (T : List (Int × Int)) (e : Int), (∀ c ∈ T, In4 c) → T ≠ [] → e ∈ KC → (∀ c ∈ bs, e ∣ c.2 ∨ c ∈ T) → ¬ ((gW T : Nat) : Int) ∣ m → ¬ e ∣ n → False := fun T e tin tne he hc hd hne => by
      have le := gW_le tin tne
      have n1 : gW T ≠ 1 := fun z => hd (by rw [z]; exact Int.one_dvd _)
      have hk : keepB ((gW T : Nat) : Int) e bs = true := keepB_iff.mpr fun c hb => by
        rcases hc c hb with z | z
        · exact .inr z
        · exact .inl ((dvd_gW tin _).mp (Int.dvd_refl _) c z)
      have kk : ((gW T : Nat) : Int) ∈ KC := KC_in (by omega) (by omega)
      rcases h (((gW T : Nat) : Int), e) (mem36 kk he) hk with z | z
      · exact hd z
      · exact hne z
    have g0 : 0 < heightF bs m := by
      apply Nat.pos_of_ne_zero
      intro z
      have eall : bs.filter (fun _ => true) = bs := List.filter_eq_self.mpr fun _ _ => rfl
      obtain ⟨k, k1, k2, ek⟩ := sub_at (bs := bs) (fun _ => true) (by rw [eall]; exact hne)
      rw [eall] at ek
      refine bad bs 0 hin hne (by decide) (fun c hc => .inr hc) (fun q => ?_) (fun q => by have := Int.zero_dvd.mp q; omega)
      have := self k k1 k2 (by rw [ek, coins_sum _ _ hm]; exact q)
      rw [z, ek] at this
      have := Nat.eq_zero_of_zero_dvd this
      have := (lcmH_le hin).1
      omega
    refine ⟨by omega, ?_⟩
    apply Classical.byContradiction
    intro gn
    -- a prime power of the height that does not divide n
    have g12 : heightF bs m ∣ 12 := by
      apply Classical.byContradiction
      intro z
      have : heightF bs m = 0 := by
        have : 0 ∣ heightF bs m := by
          rw [char]
          intro k k1 k2 hs
          exact absurd (Nat.dvd_trans (self k k1 k2 hs) (lcmH_dvd (sub_in k))) z
        exact Nat.eq_zero_of_zero_dvd this
      omega
    have pick : ∃ e B : Nat, (e : Int) ∈ KC ∧ e ∣ heightF bs m ∧ ¬ (e : Int) ∣ n ∧ ¬ e ∣ B ∧ ∀ q : Nat, 1 ≤ q → q ≤ 4 → ¬ e ∣ q → q ∣ B := by
      have le := Nat.le_of_dvd (by decide) g12
      have p2 : ¬ (2 : Nat) ∣ 3 ∧ ∀ q : Nat, 1 ≤ q → q ≤ 4 → ¬ 2 ∣ q → q ∣ 3 := by
        refine ⟨by decide, fun q h1 h2 h3 => ?_⟩
        have : q = 1 ∨ q = 2 ∨ q = 3 ∨ q = 4 := by omega
        rcases this with e | e | e | e <;> subst e <;> first | decide | exact absurd (by decide) h3
      have p3 : ¬ (3 : Nat) ∣ 4 ∧ ∀ q : Nat, 1 ≤ q → q ≤ 4 → ¬ 3 ∣ q → q ∣ 4 := by
        refine ⟨by decide, fun q h1 h2 h3 => ?_⟩
        have : q = 1 ∨ q = 2 ∨ q = 3 ∨ q = 4 := by omega
        rcases this with e | e | e | e <;> subst e <;> first | decide | exact absurd (by decide) h3
      have p4 : ¬ (4 : Nat) ∣ 6 ∧ ∀ q : Nat, 1 ≤ q → q ≤ 4 → ¬ 4 ∣ q → q ∣ 6 := by
        refine ⟨by decide, fun q h1 h2 h3 => ?_⟩
        have : q = 1 ∨ q = 2 ∨ q = 3 ∨ q = 4 := by omega
        rcases this with e | e | e | e <;> subst e <;> first | decide | exact absurd (by decide) h3
      generalize heightF bs m = g at *
      have cases12 : g = 1 ∨ g = 2 ∨ g = 3 ∨ g = 4 ∨ g = 6 ∨ g = 12 := by
        have : ∀ g : Nat, g ≤ 12 → 0 < g → g ∣ 12 → g = 1 ∨ g = 2 ∨ g = 3 ∨ g = 4 ∨ g = 6 ∨ g = 12 := by decide
        exact this g le g0 g12
      rcases cases12 with e | e | e | e | e | e
      · subst e
        exact absurd (Int.one_dvd n) gn
      · subst e
        exact ⟨2, 3, by decide, by decide, gn, p2.1, p2.2⟩
      · subst e
        exact ⟨3, 4, by decide, by decide, gn, p3.1, p3.2⟩
      · subst e
        exact ⟨4, 6, by decide, by decide, gn, p4.1, p4.2⟩
      · subst e
        by_cases d : (2 : Int) ∣ n
        · refine ⟨3, 4, by decide, by decide, fun z => gn ?_, p3.1, p3.2⟩
          have z' : (3 : Int) ∣ n := z
          show (6 : Int) ∣ n
          omega
        · exact ⟨2, 3, by decide, by decide, d, p2.1, p2.2⟩
      · subst e
        by_cases d : (4 : Int) ∣ n
        · refine ⟨3, 4, by decide, by decide, fun z => gn ?_, p3.1, p3.2⟩
          have z' : (3 : Int) ∣ n := z
          show (12 : Int) ∣ n
          omega
        · exact ⟨4, 6, by decide, by decide, d, p4.1, p4.2⟩
    obtain ⟨e, B, eK, eg, en, eB, qB⟩ := pick
    obtain ⟨T, hT⟩ : ∃ T, T = bs.filter (fun c => !decide ((e : Int) ∣ c.2)) := ⟨_, rfl⟩
    have inT : ∀ c, c ∈ T ↔ c ∈ bs ∧ ¬ (e : Int) ∣ c.2 := fun c => by
      rw [hT, List.mem_filter]
      simp
    have tin : ∀ c ∈ T, In4 c := fun c hc => hin c ((inT c).mp hc).1
    have cover : ∀ c ∈ bs, (e : Int) ∣ c.2 ∨ c ∈ T := fun c hc => by
      by_cases d : (e : Int) ∣ c.2
      · exact .inl d
      · exact .inr ((inT c).mpr ⟨hc, d⟩)
    by_cases tne : T = []
    · have hk : keepB 0 (e : Int) bs = true := keepB_iff.mpr fun c hc => by
        rcases cover c hc with z | z
        · exact .inr z
        · rw [tne] at z
          cases z
      rcases h (0, (e : Int)) (mem36 (by decide) eK) hk with z | z
      · have := Int.zero_dvd.mp z
        omega
      · exact en z
    · obtain ⟨k, k1, k2, ek⟩ := sub_at (bs := bs) (fun c => !decide ((e : Int) ∣ c.2)) (by rw [← hT]; exact tne)
      rw [← hT] at ek
      refine bad T (e : Int) tin tne eK cover (fun q => ?_) en
      have d := self k k1 k2 (by rw [ek, coins_sum _ _ hm]; exact q)
      rw [ek] at d
      refine eB (Nat.dvd_trans eg (Nat.dvd_trans d (lcmH_dvd_iff.mpr fun c hc => ?_)))
      obtain ⟨i1, i2, i3, i4⟩ := tin c hc
      refine qB _ (by omega) (by omega) fun z => ((inT c).mp hc).2 ?_
      rw [← Int.natCast_dvd_natCast, Int.toNat_of_nonneg (by omega)] at z
      exact z
end FW
set_option Elab.async false
set_option linter.all false
set_option maxRecDepth 100000
set_option maxHeartbeats 4000000
local macro_rules | `(tactic| walk_at "rd") => `(tactic| (simp (config := { decide := true }) only [L2.start, L2.tSeq, L2.tNext, L2.tAsg, L2.gName, L2.gTup, L2.gCons, L2.gNil, L2.tRet, L2.tRetN, L2.tIfS, L2.tTest, L2.tOp, L2.tUn, L2.tCons, L2.tNil, L2.tVar, L2.tC, L2.tCall, L2.tCallS, L2.tMake, FW.tCallK0, L2.rI, L2.rI0, L2.rU, L2.rEq, L2.rNe, L2.scal, L2.tB, L2.tNot, L2.tAnd, L2.tOr, L2.tAndV, L2.tOrV, L2.tNotV, L2.tIf, L2.tChain, L2.tDrop, L2.tCB, L2.tTup, L2.tLst, L2.tFld, L2.sFld, L2.tBM, L2.tBM0, L2.rAppend, L2.tRaiseErr, L2.tMkErr, L2.tBreak, L2.tCont, L2.gSub, L2.rSetL, L2.rIxL, L2.tAug, L2.ipI, L2.tSl, L2.tPart, L2.tNoPart, L2.rSlL, L2.CDiv, L2.CDivN, L2.CPow, L2.tPar, L2.rIsB, L2.rNotB, FW.cxK, FW.p10_9, FW.p10_20, FW.p10_31, FW.p10_60, FW.p10_18, FW.p10_6, FW.p10_23, FW.p2_61, FW.P10ok, FW.m60,  FW.tFor_eq, FW.tLc_eq, L2.iList, L2.iTup, L2.iRng1, L2.iRng2, L2.iEnum, FW.iOwn, L2.wipe, L2.tYes, L2.tDNewT, L2.tDNotIn, L2.tDGet, L2.sDPut, L2.wAs, L2.WE, L2.tXf, PySem.sizeLine_eq, Nat.reduceLeDiff,
  List.map_cons, List.map_nil, List.length_cons, List.length_nil, List.replicate, List.cons_append, List.nil_append, List.append_nil, Nat.sub_self, List.getElem?_cons_zero, List.getElem?_cons_succ, List.set_cons_zero, List.set_cons_succ,
  Option.some.injEq, L2.V.int.injEq, L2.V.bl.injEq, L2.V.ref.injEq, L2.V.str.injEq, exists_eq_left', exists_eq_left, exists_eq_right', exists_eq_right, exists_and_left, exists_const, true_and, and_true, Nat.zero_add, Nat.add_zero, Nat.reduceAdd, Nat.reduceSub, List.cons.injEq, reduceCtorEq, false_and, and_false, exists_false, false_or, or_false, ne_eq, not_false_eq_true, not_true_eq_false, Bool.false_eq_true, if_false, if_true, Bool.not_true, Bool.not_false, ite_self, decide_true, decide_false]))
namespace FW
open PySem PySem.Spec PyProof.Rows L2 PySem.FwE
variable {P : Program} {w : World} {K : PySem.W.Frag} {mg : Str → Option Value} {base : Heap}
theorem heightT_le {bs : List (Int × Int)} (hin : ∀ c ∈ bs, In4 c) (m : Int) : ∀ N, heightT bs m N ≤ 12
  | 0 => Nat.zero_le _
  | N + 1 => by
    show hStep bs m (heightT bs m N) (N + 1) ≤ 12
    unfold hStep
    split
    · have h := lcmH_le (bs := subB bs (N + 1)) fun c hc => hin c (subB_mem hc)
      exact Nat.le_trans (Nat.le_of_dvd h.1 (Nat.gcd_dvd_right _ _)) h.2
    · exact heightT_le hin m N
def spLaw (K : PySem.W.Frag) : Sp := fun vs H Q _ => ∃ (a : Addr) (ns : List Int), vs = [.ref a] ∧ SqL K H a (ns.map V.int) ∧ ns.length ≤ 63 ∧ ∀ H', Q (.bl true) H'
theorem fn_law (T : Tx P K mg) {fd : FuncData} (F : FunD K "law" "law" (defArgs s_law) (defBody s_law) (defScope s_law) [] [] (He.fAd K ("law", none)) fd) : FnOk P w K mg base (L2.CX P w) 9 (He.fAd K ("law", none)) fd ["script"] (spLaw K) := by
  have C__law_pool := cal__law_pool (w := w) (base := base) T
  have C__law_draw := cal__law_draw (w := w) (base := base) T
  have C__law_bricks := cal__law_bricks (w := w) (base := base) T
  have C__law_side := cal__law_side (w := w) (base := base) T
  have C__law_height := cal__law_height (w := w) (base := base) T
  have C__law_asked := cal__law_asked (w := w) (base := base) T
  have C__law_alone := cal__law_alone (w := w) (base := base) T
  have C__law_refusals := cal__law_refusals (w := w) (base := base) T
  have M_Lot := mak_Lot (w := w) (base := base) T
  refine F.ok (CX := L2.CX P w) sc_law (fun vs H Q E h => ?_) (fun cdv A outer s H vs Q E hr h => ?_)
  · obtain ⟨a, ns, rfl, _⟩ := h
    rfl
  · obtain ⟨a, ns, rfl, ha, hl, k⟩ := h
    refine ⟨_, ((pss_cons (ps_set (i := 1) sc_law.nd rfl (Or.inl rfl) (pe_callC C__law_pool (hr.mono (by decide)) passE (pa_cons (pv 0) pa_nil)))
      (pss_cons (ps_set (i := 2) sc_law.nd rfl (Or.inl rfl) (pe_op op_add pe_int (pe_callC C__law_draw (hr.mono (by decide)) passE (pa_cons (pv 1) (pa_cons pe_int pa_nil)))))
      (pss_cons (ps_if (pt_cmpR op_eq (pe_callC C__law_draw (hr.mono (by decide)) passE (pa_cons (pv 1) (pa_cons pe_int pa_nil))) pe_int (nomark _)) (pss_one (ps_set (i := 2) sc_law.nd rfl (Or.inl rfl) pe_int)) pss_nil)
      (pss_cons (ps_set (i := 3) sc_law.nd rfl (Or.inl rfl) (pe_callC C__law_bricks (hr.mono (by decide)) passE (pa_cons (pv 1) (pa_cons (pv 2) pa_nil))))
      (pss_cons (ps_set (i := 4) sc_law.nd rfl (Or.inl rfl) (pe_makeC M_Lot (hr.mono (by decide)) passE (pa_cons (pe_callTy call_list_of (by rfl) T.f_list (by decide +kernel) (pa_cons (pv 3) pa_nil)) pa_nil)))
      (pss_cons (ps_set (i := 5) sc_law.nd rfl (Or.inl rfl) (pe_callC C__law_side (hr.mono (by decide)) passE (pa_cons (pv 1) pa_nil)))
      (pss_cons (ps_set (i := 6) sc_law.nd rfl (Or.inl rfl) (pe_callC C__law_side (hr.mono (by decide)) passE (pa_cons (pv 1) pa_nil)))
      (pss_cons (ps_set (i := 7) sc_law.nd rfl (Or.inl rfl) (pe_callC C__law_height (hr.mono (by decide)) passE (pa_cons (pv 3) (pa_cons (pv 5) pa_nil))))
      (pss_cons (ps_set (i := 8) sc_law.nd rfl (Or.inl rfl) (pe_op op_mul (pe_callB (call_max2 rfl) (by rfl) T.f_max (by decide +kernel) (pa_cons pe_int (pa_cons (pv 7) pa_nil))) (pe_op op_add pe_int (pe_op op_mul (pe_callC C__law_draw (hr.mono (by decide)) passE (pa_cons (pv 1) (pa_cons (pe_op op_pow pe_int pe_int) pa_nil))) (pe_op op_pow pe_int pe_int)))))
      (pss_cons (ps_for ownE rfl (pi_list (pe_lst (pa_cons (pv 6) (pa_cons (pv 8) (pa_cons (pe_op op_add (pv 8) pe_int) (pa_cons (pe_op op_sub (pv 8) pe_int) (pa_cons (pv 6) pa_nil))))))) (pg_name (i := 9) sc_law.nd rfl (Or.inl rfl))
        (pss_one (ps_if (pt_not (pt_val (pe_callC C__law_asked (hr.mono (by decide)) passE (pa_cons (pv 4) (pa_cons (pv 3) (pa_cons (pv 5) (pa_cons (pv 9) (pa_cons (pv 7) pa_nil)))))))) (pss_one (ps_ret pe_bl)) pss_nil)))
      (pss_cons (ps_for ownE rfl (pi_list (pe_lst (pa_cons (pv 6) (pa_cons (pe_op op_pow pe_int pe_int) pa_nil)))) (pg_name (i := 10) sc_law.nd rfl (Or.inl rfl))
        (pss_one (ps_if (pt_not (pt_val (pe_callC C__law_asked (hr.mono (by decide)) passE (pa_cons (pv 4) (pa_cons (pv 3) (pa_cons (pv 10) (pa_cons (pv 5) (pa_cons (pe_callC C__law_height (hr.mono (by decide)) passE (pa_cons (pv 3) (pa_cons (pv 10) pa_nil))) pa_nil)))))))) (pss_one (ps_ret pe_bl)) pss_nil)))
      (pss_cons (ps_if (pt_not (pt_val (pe_callC C__law_alone (hr.mono (by decide)) passE (pa_cons (pv 1) (pa_cons (pe_op op_add pe_int (pe_callC C__law_draw (hr.mono (by decide)) passE (pa_cons (pv 1) (pa_cons pe_int pa_nil)))) (pa_cons (pe_op op_add pe_int (pe_callC C__law_draw (hr.mono (by decide)) passE (pa_cons (pv 1) (pa_cons pe_int pa_nil)))) pa_nil)))))) (pss_one (ps_ret pe_bl)) pss_nil)
      (pss_one (ps_ret (pe_callC C__law_refusals (hr.mono (by decide)) passE (pa_cons (pv 1) (pa_cons (pv 4) (pa_cons (pv 5) (pa_cons (pv 6) pa_nil)))))))))))))))))))), ?_⟩
    walk_at "rd"
    refine ⟨a, ns, rfl, ha, hl, fun H1 p s1 p1 => ?_⟩
    walk_at "rd"
    refine ⟨p, 3, rfl, p1, by decide, fun mn H2 m0 m1 b2 p2 => ⟨mn, rfl, ?_⟩⟩
    refine ⟨p, 8, rfl, p2, by decide, fun e8 H3 e0 e1 b3 p3 => ?_⟩
    walk_at "rd"
    by_cases h7 : e8 = 7
    all_goals first
      | rw [decide_eq_true h7, if_pos rfl]
      | rw [decide_eq_false h7, if_neg (by decide)]
    all_goals
      refine ⟨p, _, rfl, p3, by omega, fun H4 b xs bs b4 p4 hb0 hb hx nd hlen hin => ⟨b, rfl, xs, .inl (SqL.of hb), fun l1 hl1 x dx hx0 hdx hne => ?_⟩⟩
      have nbp : b ≠ p := p3.ne hb0
      have s7 := Same.new (o := .lst xs) hl1
      have hxn : (upd (upd H4 l1 (.lst xs)) dx (.own x)) x = none := by rw [upd_ne (fun z => hne z.symm)]; exact hx0
      have s8 : Same (upd H4 l1 (.lst xs)) (upd (upd (upd H4 l1 (.lst xs)) dx (.own x)) x (.ins (He.ga K "Lot") dx [])) := (Same.new hdx).trans (Same.new hxn)
      refine ⟨x, l1, dx, xs, bs, rfl, upd_same, s8 _ _ upd_same, hx.mono (s7.trans s8), hlen, fun c hc => ?_, nd, fun H5 bs' b5 pm HL => ?_⟩
      · have := hin c hc
        exact ⟨by omega, by omega, by omega, by omega⟩
      have s9 : Same H4 H5 := s7.trans (Same.made hx0 hdx b5)
      have in4 : ∀ c ∈ bs, In4 c := hin
      have bne : bs ≠ [] := fun z => by rw [z] at hlen; exact absurd hlen.1 (by decide)
      have p5 := p4.same s9
      have hb5 := s9 _ _ hb
      have hx5 := hx.mono s9
      refine ⟨rfl, p, rfl, p5, fun m H6 m6 mM b6 p6 => ⟨p, rfl, p6, fun n H7 n6 nM b7 p7 => ?_⟩⟩
      have HL7 := (HL.pool p5 b6).pool p6 b7
      have hx7 := (hx5.pool p5 b6).pool p6 b7
      have hb7 := b7 _ _ (b6 _ _ hb5 nbp) nbp
      refine ⟨b, xs, bs, m, rfl, hb7, hx7, in4, hlen.2, m6, fun H8 t8 => ⟨1, _, ⟨rfl, rfl⟩, ?_⟩⟩
      have p8 := p7.same t8
      have hle : heightF bs m ≤ 12 := heightT_le in4 m _
      have bd : ∃ E : Int, E = (if ((heightF bs m : Nat) : Int) > 1 then ((heightF bs m : Nat) : Int) else 1) ∧ 1 ≤ E ∧ E ≤ 12 := ⟨_, rfl, by split <;> omega, by split <;> omega⟩
      obtain ⟨E1, hE1, E1a, E1b⟩ := bd
      rw [← hE1]
      refine ⟨p, 1000000, rfl, p8, by decide, fun d H9 d0 d1 b9 p9 => ⟨d, rfl, .inl (by omega), .inl (by omega), ?_⟩⟩
      have ev : 7 ≤ E1 * (7 + d * 100000000000000000000000) ∧ E1 * (7 + d * 100000000000000000000000) + 1 ≤ M31 := by
        have h1 : 1 * (7 + d * 100000000000000000000000) ≤ E1 * (7 + d * 100000000000000000000000) := Int.mul_le_mul_of_nonneg_right E1a (by omega)
        have h2 : E1 * (7 + d * 100000000000000000000000) ≤ 12 * (7 + d * 100000000000000000000000) := Int.mul_le_mul_of_nonneg_right E1b (by omega)
        show _ ∧ _ ≤ (10000000000000000000000000000000 : Int)
        omega
      generalize E1 * (7 + d * 100000000000000000000000) = ee at *
      have HL9 := (HL7.mono t8).pool p8 b9
      have hx9 := (hx7.mono t8).pool p8 b9
      have hb9 := b9 _ _ (t8 _ _ hb7) nbp
      intro lp hlp
      have t10 := Same.new (o := .lst [V.int n, V.int ee, V.int (ee + 1), V.int (ee - 1), V.int n]) hlp
      refine ⟨⟨_, SqL.of upd_same⟩, loopL ([n, ee, ee + 1, ee - 1, n].map V.int) (fun _ => I21 (upd H9 lp (.lst [V.int n, V.int ee, V.int (ee + 1), V.int (ee - 1), V.int n])) _ _ _ _ _ _ _ _ _) ⟨none, none, rfl, Same.refl _⟩ (fun i σ' H' _ ⟨_, _, _, s⟩ => SqL.of (s _ _ upd_same)) ?_ ?_⟩
      · rintro i y σ' HA hi ⟨v9, v10, rfl, sA⟩
        obtain ⟨o, ho, rfl⟩ := map_at hi
        have bo : 6 ≤ o ∧ o ≤ M31 := by
          have := List.mem_of_getElem? ho
          have e : o = n ∨ o = ee ∨ o = ee + 1 ∨ o = ee - 1 := by
            simp at this
            omega
          rcases e with e | e | e | e <;> rw [e] <;> constructor <;> omega
        walk_at "rd"
        refine ⟨x, b, xs, bs, bs', m, o, _, rfl, HL9.mono (t10.trans sA), pm, (t10.trans sA) _ _ hb9, hx9.mono (t10.trans sA), in4, ⟨m6, mM⟩, bo, height_ok in4 bne m6 (by omega), fun HB sB => ?_⟩
        walk_at "rd"
        exact ⟨_, _, rfl, sA.trans sB⟩
      · rintro σ' HA ⟨v9, v10, rfl, sA⟩
        walk_at "rd"
        intro lq hlq
        have t11 := Same.new (o := .lst [V.int n, V.int 10000000000000000000000000000000]) hlq
        have tA := t10.trans (sA.trans t11)
        refine ⟨⟨_, SqL.of upd_same⟩, loopL ([n, 10000000000000000000000000000000].map V.int) (fun _ => I21 (upd HA lq (.lst [V.int n, V.int 10000000000000000000000000000000])) _ _ _ _ _ _ _ _ _) ⟨v9, v10, rfl, Same.refl _⟩ (fun i σ' H' _ ⟨_, _, _, s⟩ => SqL.of (s _ _ upd_same)) ?_ ?_⟩
        · rintro i y σ' HB hi ⟨v9, v10, rfl, sB⟩
          obtain ⟨o, ho, rfl⟩ := map_at hi
          have bo : 6 ≤ o ∧ o ≤ M31 := by
            have := List.mem_of_getElem? ho
            have e : o = n ∨ o = 10000000000000000000000000000000 := by simpa using this
            rcases e with e | e
            · rw [e]
              exact ⟨n6, nM⟩
            · rw [e]
              exact ⟨by decide, by decide⟩
          walk_at "rd"
          refine ⟨b, xs, bs, o, rfl, (tA.trans sB) _ _ hb9, hx9.mono (tA.trans sB), in4, hlen.2, bo.1, fun HC sC => ?_⟩
          have tC := (tA.trans sB).trans sC
          refine ⟨x, b, xs, bs, bs', o, m, _, rfl, HL9.mono tC, pm, tC _ _ hb9, hx9.mono tC, in4, bo, ⟨m6, mM⟩, height_ok in4 bne bo.1 (by omega), fun HD sD => ?_⟩
          walk_at "rd"
          exact ⟨_, _, rfl, sB.trans (sC.trans sD)⟩
        · rintro σ' HB ⟨v9, v10, rfl, sB⟩
          walk_at "rd"
          have tB := tA.trans sB
          have pB := p9.same tB
          refine ⟨p, 3, rfl, pB, by decide, fun q1 HC q10 q11 bC pC => ⟨q1, rfl, p, 3, rfl, pC, by decide, fun q2 HD q20 q21 bD pD => ⟨q2, rfl, ?_⟩⟩⟩
          refine ⟨p, 2 + q1, 2 + q2, rfl, pD, ⟨by omega, by omega⟩, ⟨by omega, by omega⟩, fun HE bE pE => ?_⟩
          walk_at "rd"
          exact ⟨p, x, bs', m, n, rfl, pE, (((HL9.mono tB).pool pB bC).pool pC bD).pool pD bE, ⟨m6, mM⟩, ⟨n6, nM⟩, fun H' => k H'⟩
end FW
set_option Elab.async false
set_option linter.all false
set_option maxRecDepth 100000
set_option maxHeartbeats 4000000
namespace FW
open PySem PySem.Spec PyProof.Rows L2 PySem.FwE
def CXe (P : Program) : CXT := fun outer H s E u s' => ∃ w : World, L2.CX P w outer H s E u s'
theorem FnOk_cx {P : Program} {w : World} {K : PySem.W.Frag} {mg : Str → Option Value} {base : Heap} {k : Nat} {f : Addr} {fd : FuncData} {ps : List Str} {sp : Sp} (F : FnOk P w K mg base (L2.CX P w) k f fd ps sp) : FnOk P w K mg base (CXe P) k f fd ps sp :=
  ⟨F.len, fun A outer s H args us vs Q E hr he hb hv hs => codeAny_mono (F.run A outer s H args us vs Q E hr he hb hv hs) fun r s' q => by
    cases r with
    | error e => exact ⟨w, q⟩
    | ok fl => cases fl <;> exact q⟩
theorem law_facts {w : World} {K : PySem.W.Frag} {h : Heap} {mg : Str → Option Value} {f : Addr} (X : K.In h) (G : h.Ns mainGlobals mg) (hfa : mg ("law" : Str) = some (.ref f)) (c : Says fa fn fe ex K) :
    ∃ fd : FuncData, (∀ (s : Shared) (v : Value), BindsTo s fd ⟨[v], []⟩ [("script", v)]) ∧ ∀ base : Heap, K.In base → base.Ns mainGlobals mg → FnOk PP w K mg base (CXe PP) 9 f fd ["script"] (spLaw K) := by
  have T := tx_of X G c
  obtain ⟨fd, F⟩ := T.d_law
  have e := hfa.symm.trans T.m_law
  cases e
  have b := FunD.bindsA (ps := ["script"]) F fun _ _ _ _ _ _ us hl => match us, hl with | [_], _ => rfl
  exact ⟨fd, fun s v => b s [v] rfl, fun base _ _ => FnOk_cx (fn_law (w := w) (base := base) T F)⟩
end FW
open PySem PySem.W PySem.Calls PyProof.Rows
theorem PySem.Challenge.cw_floorwords_k39_great_rule_holds : PySem.Challenge.rw_floorwords_k39_great_rule.Holds := by
  w_on; o_law
  refine HandSHeadRun.head_any (r := OpenLaw.row PySem.Challenge.rw_floorwords_k39_great_rule) (q := view (OpenLaw.row PySem.Challenge.rw_floorwords_k39_great_rule).prog [71]) (H := FW.hk) (ob := FW.ob) (M := 15000) (loose := FW.names) (d := HandSHeadRun.topDef (OpenLaw.row PySem.Challenge.rw_floorwords_k39_great_rule).prog 71) (kwd := []) FW.ob_eq
    (by kernel_rfl) (fun s => by kernel_rfl) FW.run (by kernel_rfl) (by kernel_rfl) (by kernel_rfl) (by rfl) (by first | assumption | decide +kernel) (by decide +kernel) ⟨rfl, rfl, rfl, rfl, rfl, by decide +kernel⟩ ?hw ?hc
  case hw => w_witness2
  case hc =>
    refine L2.walk_ofE (l := PySem.Challenge.rw_floorwords_k39_great_rule) (n := 63) (k := 9) (x := "script") (CX := FW.CXe FW.PP) rfl (by decide) (by kernel_rfl) ⟨rfl, by decide, by decide⟩ ?F (fun _ _ _ _ z => ?E)
    case E =>
      obtain ⟨w, _, _, _, _, _, _, _, _, _, _, _, _, z⟩ := z
      exact z
    case F =>
      intro w mg fa h Y G hmg0
      obtain ⟨K, KX, c⟩ := Y
      have hmg : mg ("law" : PySem.Str) = some (.ref fa) := by
        have e : (HandSHeadRun.topDef (OpenLaw.row PySem.Challenge.rw_floorwords_k39_great_rule).prog 71).name = ("law" : PySem.Str) := by kernel_rfl
        rw [← e]
        exact hmg0
      obtain ⟨fd, hb, hF⟩ := FW.law_facts (w := w) KX G hmg c
      exact ⟨K, fd, FW.spLaw K, KX, hb, fun H a ns hl _ hS => ⟨a, ns, rfl, hS, hl, fun _ => rfl⟩, hF⟩
