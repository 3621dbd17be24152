import PyProof.Rows.All
import Wide.All
import OpenK.AllK
import Wide.FinOn
import PyProof.EqAt
import PyProof.EqKinds
import PyProof.TupleCall
import KE.KExcSuper
import HandS.ForExc
import HandS.ForMost
import HandS.ExcSuper
import HandS.HeadWalk
import HandS.ExcIs
import HandS.ExcField
import HandS.ExcValue
import HandS.IsInst
import KE.KExcIs
import HandS.Lambda
import HandS.Defaults
import HandS.Head2
import HandS.Head3
import HandS.HeadHook4
import HandS.Wide
import HandS.ClsMeth
import HandS.HeadNt
import HandS.MakeKw
import HandS.OwnEq
import HandS.Iter
import KE.KCallOwn
import KE.KOwnIter
import KE.KOpsOwn
import KE.KDictIter
import HandS.Text
import HandS.Rev
import HandS.Style
import PyProof.EnumMake
import PyProof.Draws
import PyProof.SliceStr2
import PyProof.Rows.StrRev
import HandS.SortKw
import HandS.RaiseMore
import HandS.Replace
import OpenK.KWalk
import PyProof.InstEq
import HandS.SlotsOwn
import PySem.Challenge.RW_sevenball_k06_texts_of_words
set_option Elab.async false
set_option linter.all false
set_option maxRecDepth 100000
set_option autoImplicit false
section
set_option maxHeartbeats 1000000
/-! Own exceptions over ValueError whose init says super().init(text) and then stores fields. -/
namespace SBX
open PySem PySem.W PySem.Calls PyProof.Rows PySem.HandSPX
open L2 (defBody defArgs defScope)

def asgF (f : Str) (z : Pos × Pos × Pos × Pos) : Stmt := .Assign [.Attribute (.Name "self" z.1) f z.2.1] (.Name f z.2.2.1) z.2.2.2
def supS (msg : Str) (kk : Nat) (p0 p1 p2 p3 p4 p5 : Pos) : Stmt := .Expr (.Call (.Attribute (.Call (.Name "super" p0) [] [] p1) "__init__" p2) [.Constant (.str msg) kk p3] [] p4) p5

/-- the text of an init: the fields fs are stored in order -/
structure Shape (st : Stmt) (fs : List Str) : Prop where
  body : ∃ msg kk p0 p1 p2 p3 p4 p5 qs, fs.length = qs.length ∧ (p2.endLine == p4.line) = true ∧ defBody st = supS msg kk p0 p1 p2 p3 p4 p5 :: List.zipWith asgF fs qs
  head : ∃ ar, ((defArgs st).posonlyargs ++ (defArgs st).args).head? = some ar ∧ ar.arg = "self"
  self_ : (defScope st).names.lookup ("self" : Str) = some .local
  flds : ∀ f ∈ fs, (defScope st).names.lookup f = some .local ∧ f ≠ "self" ∧ (f == ("__debug__" : Str)) = false
  sup : (defScope st).names.lookup ("super" : Str) = some .globalImplicit
  cl : (defScope st).names.lookup ("__class__" : Str) = some .free
  nocell : ∀ x ∈ (defScope st).names, x.2 ≠ .cell
  kind : (defScope st).kind = .function
  co : (defScope st).isCoroutine = false
  gen : (defScope st).isGenerator = false

/-- what the written part says of the class at C and of its init at fI -/
structure SupTxt (prog : Program) (K : Frag) (C fI : Addr) (st : Stmt) (fs : List Str) : Prop where
  shape : Shape st fs
  ntop : (prog.main.scope.names.lookup ("super" : Str)).isSome = false
  cls : ∃ nm q N bs bm sn sub ab col dd k0 k1 k2 k3 k5, K.lookup C = some (excClassObj nm q C N bs bm true sn sub ab col dd k0 k1 k2 k3 k5 "ValueError.__new__") ∧ refsVE bm = true
  sa : findIn K (.ref C) "__setattr__" = some (some (.builtin "object.__setattr__"))
  noN : ∀ f ∈ fs, findIn K (.ref C) f = some none
  iC : findIn K (.ref C) "__init__" = some (some (.ref fI))
  sI : ks_superIn K C C "__init__" = some (some (.builtin "ValueError.__init__"))
  tC : typeIn K (.ref fI) = some (.type "function")
  kC : keepIn K (.ref C) = true
  exC : subIn K (.ref C) (.type "BaseException") = some true
  veC : subIn K (.ref C) (.type "ValueError") = some true
  mC : mroIn K C (.ref C) = some true
  tyC : typeIn K (.ref C) = some (.type "type")
  no3 : nsIn K cStatics "thirdparty.any" = some none
  fn : ∃ (oc cl ccl : Value) (od cld cdd : Option Addr) (pm doc ct kV : Value) (an : Option Addr) (osl csl ccs : Array (Option Value)) (cda cc : Addr) (vs : Array Value) (tf : Tok) (qual : Str),
    K.lookup fI = some ⟨oc, od, .func (ksFn "__init__" qual (defArgs st) (defBody st) (defScope st) .none kV doc pm an (.ref cda) ct cc), osl⟩ ∧
    codeIn K (.ref cda) qual = true ∧ K.lookup cda = some ⟨ccl, cdd, .fields vs, ccs⟩ ∧ vs[2]? = some (.str prog.main.file tf) ∧ K.lookup cc = some ⟨cl, cld, .cell (some (.ref C)), csl⟩

section
variable {prog : Program} {w : World} {A : Around} {E : Value → Shared → Prop} {R : Result → Shared → Prop} {s : Shared} {K : Frag} {mg mb : Str → Option Value} {C fI : Addr} {st : Stmt} {fs : List Str}
/-- the call of the method-wrapper: the args are laid anew -/
theorem call_mw {u e t0 : Addr} {rest : List Value} {Q : Value → Shared → Prop} {nm q : Str} {C N : Addr} {bs bm : List Value} {hdct : Bool} {sn : List Str} {sub : List Value} {ab : Bool} {col : Option Bool} {dd : Option Addr} {k0 k1 k2 k3 k5 : Option Value}
    (hC : s.heap.get? C = some (excClassObj nm q C N bs bm hdct sn sub ab col dd k0 k1 k2 k3 k5 "ValueError.__new__")) (he : s.heap.get? e = some (excO C t0)) (hu : s.heap.get? u = some (kxs_mw "ValueError.__init__" e)) (hrest : rest.length ≤ sizeLine)
    (hq : ∀ h' t1, (∀ b o, b ≠ e → s.heap.get? b = some o → h'.get? b = some o) → h'.get? e = some (excO C t1) → Q .none { s with heap := h' }) :
    wpAny (model prog w) A (call (.ref u) rest) Q E s := by
  obtain ⟨h, g, d, t, os⟩ := s
  refine wpAny_call (codeAny_of_tree ?_)
  show wpAny _ A.in1 (callAny (.ref u) ⟨rest, []⟩) _ _ _
  simp only [callAny]
  refine wpAny_bind (wpAny_load hu ?_)
  simp only [kxs_mw, show (Value.type "method-wrapper" == Value.type "method" || Value.type "method-wrapper" == Value.type "builtin_function_or_method" || Value.type "method-wrapper" == Value.type "method-wrapper") = true by decide, if_true]
  refine KFB.if_so (by decide) ?_
  refine wpAny_bind (check_bound_init F.excBase_ValueError.toExcCallFacts hC he rfl ?_)
  refine wpAny_bind (wpAny_pure (wpAny_pure ?_))
  refine ⟨plainId_quiet F.excBase_ValueError.init.plain _, codeAny_builtin F.excBase_ValueError.initEntry ?_⟩
  rw [Around.under_plainId F.excBase_ValueError.init.plain _]
  wp_walk
  refine hq _ h.objs.size (fun b o hb ho => ?_) ?_
  · rw [Heap.get?_update_other _ _ (Ne.symm hb)]
    exact Heap.get?_push_of_some _ ho
  · rw [Heap.get?_update_self _ (Heap.get?_push_of_some _ he) rfl]
    rfl

abbrev frE (st : Stmt) (qual : Str) (L fI cda cc : Addr) : Env := ksEnv qual (defScope st) L fI (.ref cda) cc
theorem sup_eval {o : Expr} {name : Str} {apos pos : Pos} {a : Expr} {env : Env} (hl : (apos.endLine == pos.line) = true) (hf : methodCallForm ([a].length + ([] : List Keyword).length) (backTo pos (starEach [a] env)) (backToKw pos (keywordEach [] env)) = true) :
    eval (.Call (.Attribute o name apos) [a] [] pos) env = (do
      let ov ← attributeBase o name env (eval o env)
      standAt apos.atName
      let (f, first) ← holding [ov] (getMethod ov name (L2.plainOf o env))
      callWith pos f first (backTo pos (starEach [a] env)) []) := by
  rw [arm_eval_Call]
  refine congrArg _ (funext fun ov => ?_)
  refine congrArg _ (funext fun _ => ?_)
  exact L2.mcall_line hf hl
/-- super().init(text) in the init: x the exception -/
theorem sup_stmt (T : SupTxt prog K C fI st fs) {x t0 L cda cc : Addr} {qual msg : Str} {kk : Nat} {p0 p1 p2 p3 p4 p5 : Pos} {m : Str → Option Value} {body : List Stmt} {Q : Flow → Shared → Prop}
    {oc cl ccl : Value} {od cld cdd : Option Addr} {pm doc ct kV : Value} {an : Option Addr} {osl csl ccs : Array (Option Value)} {vs : Array Value} {tf : Tok}
    (hl : (p2.endLine == p4.line) = true) (lf : K.lookup fI = some ⟨oc, od, .func (ksFn "__init__" qual (defArgs st) (defBody st) (defScope st) .none kV doc pm an (.ref cda) ct cc), osl⟩)
    (lc : K.lookup cda = some ⟨ccl, cdd, .fields vs, ccs⟩) (hvs : vs[2]? = some (.str prog.main.file tf)) (lcell : K.lookup cc = some ⟨cl, cld, .cell (some (.ref C)), csl⟩)
    (X : K.In s.heap) (G : s.heap.Ns mainGlobals mg) (hmg : mg "super" = none) (Bt : s.heap.Ns builtinsNs mb) (hmb : mb "super" = some (.type "super"))
    (hns : s.heap.Ns L m) (hself : m "self" = some (.ref x)) (hx : s.heap.get? x = some (excO C t0))
    (hq : ∀ h' tk t1, (∀ b o, b ≠ x → s.heap.get? b = some o → h'.get? b = some o) → h'.get? x = some (excO C t1) → Q .next { s with heap := h', toks := tk }) :
    _root_.PySem.wpAt (model prog w) A (.func body (frE st qual L fI cda cc)) (exec (supS msg kk p0 p1 p2 p3 p4 p5) (frE st qual L fI cda cc)) Q E s := by
  obtain ⟨nm, q, N, bs, bm, sn, sub, ab, col, dd, k0, k1, k2, k3, k5, hC, hbm⟩ := T.cls
  obtain ⟨ar, har, hname⟩ := T.shape.head
  have hcl : clsIn K C = some { name := nm, bases := bs, mro := .ref C :: bm, ns := N, qualname := q, hasDict := true, slotNames := sn, subclasses := sub, abstract := ab, collection := col, hasDel := false } := by unfold clsIn; rw [hC] <;> rfl
  have I : InstAt s.heap x (excO C t0) C none := ⟨hx, rfl, rfl, trivial⟩
  have hoC := X _ _ hC
  refine ks_wpAt_Expr_any (ks_wpAt_MethodCall ?_ (sup_eval hl rfl)) (by simp [interactive, T.shape.kind]) rfl
  refine ks_wpAt_super_base (env := frE st qual L fI cda cc) T.shape.sup T.shape.cl (by decide) rfl (X _ _ lf) rfl har rfl (X _ _ lc) rfl hvs (beq_self_eq_true _) T.ntop ?_
  refine ks_loadName_global T.shape.kind T.shape.sup (loadGlobal_builtin (env := frE st qual L fI cda cc) G hmg Bt hmb ⟨rfl, ?_⟩)
  refine wpAny_loadName_free T.shape.kind T.shape.cl rfl ⟨_, X _ _ lcell, rfl⟩ ?_
  rw [hname]
  refine wpAny_loadName_local T.shape.kind T.shape.self_ hns hself ?_
  obtain ⟨h, g, d, t, os⟩ := s
  refine ks_wpAny_isType_cls hoC rfl ⟨rfl, ?_⟩
  refine ks_wpAny_call_super hoC rfl hx rfl (fun c e => by cases e) (looks_mroIn X T.mC) (fun h1 e1 k1 => ?_)
  have X1 : K.In h1 := X.keeps k1
  have hI0 : Looks (model prog w) h (isInstance (.ref x) (.type "ValueError")) true := I.type.andThen (looks_subIn X T.veC)
  have hI := hI0.keeps k1
  have hsI := T.sI
  unfold ks_superIn at hsI
  rw [hcl] at hsI
  refine kxs_getMethod kxs_ValueError e1 (looks_opaque X1 T.no3) (l₀ := .ref C :: bm) ?_ rfl X1 hsI hI (ks_ne X I hcl) (by decide) ?_
  · exact fun A Q E s k q => wpAny_bind ((looks_clsIn X1 hcl) A _ E s k (wpAny_pure q))
  have hu : (h1.push (kxs_mw "ValueError.__init__" x)).get? h1.objs.size = some (kxs_mw "ValueError.__init__" x) := Heap.get?_push_at rfl rfl
  have k2 : ∀ b o, h.get? b = some o → (h1.push (kxs_mw "ValueError.__init__" x)).get? b = some o := fun b o e => Heap.get?_push_of_some _ (k1 b o e)
  refine kxs_callWith (i := "ValueError.__init__") (x := x) (u := h1.objs.size) rfl ?_
  refine evalArgs_plain ?_
  show wpAny _ _ (spliced ((false, eval (.Constant (.str msg) kk p3) (frE st qual L fI cda cc)) :: backTo p4 (starEach [] (frE st qual L fI cda cc)))) _ _ _
  refine Calls.spliced_cons (Calls.Constant_str ?_)
  refine Calls.spliced_nil ⟨hu, ?_⟩
  refine call_mw (k2 _ _ hoC) (k2 _ _ hx) hu (by rw [sizeLine_eq]; exact (by decide : 1 ≤ 16777216)) fun h' t1 k3 e3 => ?_
  exact hq h' _ t1 (fun b o hb e => k3 b o hb (k2 b o e)) e3

abbrev excD (C t dx : Addr) : Obj := { cls := .ref C, dict := some dx, data := .fields #[.ref t, .none, .none, .none, .bool false, .none] }
/-- self.f = f where the exception has no dict yet -/
theorem asg_first (T : SupTxt prog K C fI st fs) {f : Str} (hf : f ∈ fs) {z : Pos × Pos × Pos × Pos} {x t0 L cda cc : Addr} {qual : Str} {m : Str → Option Value} {v : Value} {Q : Flow → Shared → Prop}
    (X : K.In s.heap) (hns : s.heap.Ns L m) (hself : m "self" = some (.ref x)) (hv : m f = some v) (hx : s.heap.get? x = some (excO C t0))
    (hq : ∀ h' tk dx, (∀ b o, b ≠ x → s.heap.get? b = some o → h'.get? b = some o) → s.heap.objs.size ≤ dx → dx ≠ x → h'.get? x = some (excD C t0 dx) →
      h'.Ns1 dx (fun y => if y = f then some v else none) → Q .next { s with heap := h', toks := tk }) :
    wpAny (model prog w) A (exec (asgF f z) (frE st qual L fI cda cc)) Q E s := by
  obtain ⟨nm, q, N, bs, bm, sn, sub, ab, col, dd, k0, k1, k2, k3, k5, hC, hbm⟩ := T.cls
  have hcl : clsIn K C = some { name := nm, bases := bs, mro := .ref C :: bm, ns := N, qualname := q, hasDict := true, slotNames := sn, subclasses := sub, abstract := ab, collection := col, hasDel := false } := by unfold clsIn; rw [hC] <;> rfl
  obtain ⟨f1, f2, f3⟩ := T.shape.flds f hf
  refine plainObj_wpAny_Assign_Attribute ?_ rfl
  refine wpAny_Name (wpAny_loadName_local T.shape.kind f1 hns hv ?_) f3
  refine wpAny_Name (wpAny_loadName_local T.shape.kind T.shape.self_ hns hself ?_) (by decide)
  refine set_plain X (ox := excO C t0) (od := none) ⟨hx, rfl, rfl, trivial⟩ T.sa ?_
  refine exc_osa X hx hcl (show refsVE (.ref C :: bm) = true from hbm) rfl (T.noN f hf) (fun h₃ tk₃ dx k₃ dn dne hx₃ hn₃ => ?_)
  exact hq h₃ tk₃ dx k₃ dn dne hx₃ hn₃
/-- the walk to the own dict of an exception over ValueError that has one -/
theorem osa_old {R : Result → Shared → Prop} {name : Str} {tk : Tok} {v : Value} {x C dx : Addr} {fv : Array Value} {cd : ClassData} {m0 : Str → Option Value} {nl : List Str}
    (X : K.In s.heap) (hx : s.heap.get? x = some { cls := .ref C, dict := some dx, data := .fields fv }) (hns : s.heap.Ns1 dx m0) (hw : Within m0 nl) (hz : nl.length ≤ 1000) (hcd : clsIn K C = some cd) (hm : refsVE cd.mro = true) (hh : cd.hasDict = true)
    (ha : findIn K (.ref C) name = some none)
    (hq : ∀ h' tk', (∀ b o, b ≠ dx → s.heap.get? b = some o → h'.get? b = some o) → h'.Ns1 dx (fun y => if y = name then some v else m0 y) → R (.ok (.ret .none)) { s with heap := h', toks := tk' }) :
    codeAny (model prog w) A (.call (.builtin "object.__setattr__") ⟨[.ref x, .str name tk, v], []⟩) R s := by
  obtain ⟨hp, g, d, t, os⟩ := s
  obtain ⟨oD, esD, epD, hoD, hdD, _⟩ := hns.count hw
  have I : InstAt hp x { cls := .ref C, dict := some dx, data := .fields fv } C (some oD) := ⟨hx, rfl, rfl, hoD⟩
  have SF := F.store_object
  have ne := refsVE_ne hm
  have hob : cd.mro.contains (.type "object") = true := (refsVE_contains "object" _ hm).trans (by decide +kernel)
  have sub : Looks (model prog w) hp (isInstance (.ref x) (.type "object")) true := I.type.andThen (looks_mroIn X (by unfold mroIn; rw [hcd, Option.bind_some, if_neg (by rw [ne]; decide), hob]))
  refine codeAny_call_builtin SF.slot.plain SF.entry (@check_slot (model prog w) _ _ ⟨hp, g, d, t, os⟩ "object.__setattr__" "object" "__setattr__" (.ref x) [.str name tk, v] [] _ SF.kind SF.split sub (SF.args (.ref x) (.str name tk) v) ?_)
  have hmr : Looks (model prog w) hp (mroOf (.ref C)) cd.mro := (looks_clsIn X hcd).andThen .now
  have L3 : Looks (model prog w) hp (Builtin.ObjectAttr.storeTaker? none) none := .now
  have hcls : Looks (model prog w) hp (classData C) cd := looks_clsIn X hcd
  rw [osa_eq, refuse_eq]
  refine wpAny_bind (wpAny_bind (I.type.at (wpAny_bind (hmr.at ?_))))
  rw [refsVE_pass _ _ hm]
  refine wpAny_pure (wpAny_bind (I.type.at (wpAny_bind ((looks_findIn X ha).at (wpAny_bind (L3.at ?_))))))
  show wpAny _ _ (Builtin.ObjectAttr.storeInOwnDict (.ref x) (.ref C) (.str name tk) name v false) _ _ _
  obtain ⟨nm, bs, mro, ns, qn, hd, sn, sb, ab, col, del⟩ := cd
  dsimp only at hh
  subst hh
  unfold Builtin.ObjectAttr.storeInOwnDict Builtin.ObjectAttr.ownDictForStores
  repeat (first | with_reducible refine ESX.store_in_old hns hw hz ?_ | with_reducible refine wpAny_loadPart_at hx ?_ | with_reducible refine hcls.at ?_ | wp_step)
  intro h' tk' hn' hs
  exact hq h' tk' (fun b o hb ho => (hs.2 b hb).trans ho) hn'
/-- self.f = f where it has a dict -/
theorem asg_next (T : SupTxt prog K C fI st fs) {f : Str} (hf : f ∈ fs) {z : Pos × Pos × Pos × Pos} {x t0 L cda cc dx : Addr} {qual : Str} {m m0 : Str → Option Value} {nl : List Str} {v : Value} {Q : Flow → Shared → Prop}
    (X : K.In s.heap) (hns : s.heap.Ns L m) (hself : m "self" = some (.ref x)) (hv : m f = some v) (hx : s.heap.get? x = some (excD C t0 dx)) (hd : s.heap.Ns1 dx m0) (hw : Within m0 nl) (hz : nl.length ≤ 1000)
    (hq : ∀ h' tk, (∀ b o, b ≠ dx → s.heap.get? b = some o → h'.get? b = some o) → h'.Ns1 dx (fun y => if y = f then some v else m0 y) → Q .next { s with heap := h', toks := tk }) :
    wpAny (model prog w) A (exec (asgF f z) (frE st qual L fI cda cc)) Q E s := by
  obtain ⟨nm, q, N, bs, bm, sn, sub, ab, col, dd, k0, k1, k2, k3, k5, hC, hbm⟩ := T.cls
  have hcl : clsIn K C = some { name := nm, bases := bs, mro := .ref C :: bm, ns := N, qualname := q, hasDict := true, slotNames := sn, subclasses := sub, abstract := ab, collection := col, hasDel := false } := by unfold clsIn; rw [hC] <;> rfl
  obtain ⟨f1, f2, f3⟩ := T.shape.flds f hf
  obtain ⟨oD, esD, epD, hoD, hdD, _⟩ := hd.count hw
  refine plainObj_wpAny_Assign_Attribute ?_ rfl
  refine wpAny_Name (wpAny_loadName_local T.shape.kind f1 hns hv ?_) f3
  refine wpAny_Name (wpAny_loadName_local T.shape.kind T.shape.self_ hns hself ?_) (by decide)
  refine set_plain X (ox := excD C t0 dx) (od := some oD) ⟨hx, rfl, rfl, hoD⟩ T.sa ?_
  refine osa_old X hx hd hw hz hcl (show refsVE (.ref C :: bm) = true from hbm) rfl (T.noN f hf) (fun h₃ tk₃ k₃ hn₃ => ?_)
  exact hq h₃ tk₃ k₃ hn₃

theorem lk_self {α : Type} {a : Str} {v : α} {l : List (Str × α)} : ((a, v) :: l).lookup a = some v := by simp [List.lookup]
theorem lk_ne {α : Type} {a b : Str} {v : α} {l : List (Str × α)} (h : b ≠ a) : ((a, v) :: l).lookup b = l.lookup b := by
  have q : (b == a) = false := by simpa using h
  simp [List.lookup, q]
theorem lk_nil {α : Type} {b : Str} : ([] : List (Str × α)).lookup b = none := rfl
/-- what an init leaves of a fresh exception at x: fs its fields' names and values, in the order of the stores -/
structure InitEnd (h h' : Heap) (x C : Addr) (d : Option Addr) (zs : List (Str × Value)) : Prop where
  keep : ∀ b o, b ≠ x → h.get? b = some o → h'.get? b = some o
  obj : ∃ t1, h'.get? x = some { cls := .ref C, dict := d, data := .fields #[.ref t1, .none, .none, .none, .bool false, .none] }
  dct : match d with
    | none => zs = []
    | some dx => h.objs.size ≤ dx ∧ dx ≠ x ∧ ∃ m, h'.Ns1 dx m ∧ ∀ y, m y = zs.lookup y
theorem InitEnd.after {h h1 h' : Heap} {x C : Addr} {d : Option Addr} {zs : List (Str × Value)} (i : InitEnd h1 h' x C d zs) (k : ∀ b o, b ≠ x → h.get? b = some o → h1.get? b = some o) (sz : h.objs.size ≤ h1.objs.size) : InitEnd h h' x C d zs := by
  refine ⟨fun b o hb e => i.keep b o hb (k b o hb e), i.obj, ?_⟩
  have q := i.dct
  cases d with
  | none => exact q
  | some dx =>
    obtain ⟨a, b, c⟩ := q
    exact ⟨Nat.le_trans sz a, b, c⟩
/-- the stores of the fields -/
def TailOk (prog : Program) (w : World) (K : Frag) (C fI : Addr) (st : Stmt) (fs : List Str) (us : List Value) (qs : List (Pos × Pos × Pos × Pos)) : Prop :=
  ∀ (A : Around) (E : Value → Shared → Prop) (s : Shared) (m : Str → Option Value) (L cda cc x t1 : Addr) (qual : Str) (Q : Flow → Shared → Prop), K.In s.heap → s.heap.Ns L m → m "self" = some (.ref x) → (∀ p ∈ fs.zip us, m p.1 = some p.2) → s.heap.get? x = some (excO C t1) → L ≠ x → K.lookup x = none →
    (∀ h' tk d, InitEnd s.heap h' x C d (fs.zip us) → Q .next { s with heap := h', toks := tk }) → wpAny (model prog w) A (execs (List.zipWith asgF fs qs) (frE st qual L fI cda cc)) Q E s
theorem tail0 : TailOk prog w K C fI st [] [] [] := fun A E s m L cda cc x t1 qual Q X n hs hm hx hL hnx hq => wpAny_execs_nil (hq s.heap s.toks none ⟨fun _ _ _ e => e, ⟨t1, hx⟩, rfl⟩)
theorem map1 {f : Str} {v : Value} (y : Str) : (if y = f then some v else none) = List.lookup y [(f, v)] := by
  by_cases e : y = f
  · rw [if_pos e, e]; exact lk_self.symm
  · rw [if_neg e, lk_ne e]; rfl
theorem tail1 {f : Str} {v : Value} {z : Pos × Pos × Pos × Pos} (T : SupTxt prog K C fI st [f]) : TailOk prog w K C fI st [f] [v] [z] := fun A E s m L cda cc x t1 qual Q X n hs hm hx hL hnx hq => by
  refine wpAny_execs_cons (asg_first T (f := f) List.mem_cons_self X n hs (hm (f, v) List.mem_cons_self) hx fun h3 tk3 dx k3 dn dne hx3 hn3 => ?_)
  exact wpAny_execs_nil (hq h3 tk3 (some dx) ⟨k3, ⟨t1, hx3⟩, dn, dne, _, hn3, map1⟩)
theorem tail2 {f g : Str} {v u : Value} {z z' : Pos × Pos × Pos × Pos} (T : SupTxt prog K C fI st [f, g]) (hfg : f ≠ g) : TailOk prog w K C fI st [f, g] [v, u] [z, z'] := fun A E s m L cda cc x t1 qual Q X n hs hm hx hL hnx hq => by
  refine wpAny_execs_cons (asg_first T (f := f) List.mem_cons_self X n hs (hm (f, v) List.mem_cons_self) hx fun h3 tk3 dx k3 dn dne hx3 hn3 => ?_)
  have X3 : K.In h3 := fun b o e => k3 b o (fun y => by rw [y, hnx] at e; cases e) (X b o e)
  have n3 : h3.Ns L m := by
    obtain ⟨o, es, ep, ho, r⟩ := n
    exact ⟨o, es, ep, k3 _ _ hL ho, r⟩
  refine wpAny_execs_cons (asg_next T (f := g) (List.mem_cons_of_mem _ List.mem_cons_self) (nl := [f]) (s := { s with heap := h3, toks := tk3 }) X3 n3 hs (hm (g, u) (List.mem_cons_of_mem _ List.mem_cons_self)) hx3 hn3 (fun y hy => ?_) (by show 1 ≤ 1000; decide) fun h4 tk4 k4 hn4 => ?_)
  · by_cases e : y = f
    · rw [e]; exact List.mem_cons_self
    · rw [if_neg e] at hy
      exact absurd rfl hy
  refine wpAny_execs_nil (hq h4 tk4 (some dx) ⟨fun b o hb e => ?_, ⟨t1, k4 _ _ (Ne.symm dne) hx3⟩, dn, dne, _, hn4, fun y => ?_⟩)
  · exact k4 b o (fun y => by rw [y] at e; exact absurd (Heap.lt_size e) (Nat.not_lt.mpr dn)) (k3 b o hb e)
  · show (if y = g then some u else if y = f then some v else none) = List.lookup y [(f, v), (g, u)]
    by_cases e : y = g
    · rw [if_pos e, e, lk_ne (Ne.symm hfg)]; exact lk_self.symm
    · by_cases e2 : y = f
      · rw [if_neg e, if_pos e2, e2]; exact lk_self.symm
      · rw [if_neg e, if_neg e2, lk_ne e2, lk_ne e]; rfl
end
section
variable {prog : Program} {w : World} {A : Around} {R : Result → Shared → Prop} {s : Shared} {K : Frag} {mg mb : Str → Option Value} {C fI : Addr} {st : Stmt} {fs : List Str}
/-- the init runs -/
theorem sup_init (T : SupTxt prog K C fI st fs) {x t0 : Addr} {us : List Value} {args : Args} (htail : ∀ qs, fs.length = qs.length → TailOk prog w K C fI st fs us qs)
    (hm0 : ((("self" : Str), Value.ref x) :: fs.zip us).reverse.lookup ("self" : Str) = some (.ref x)) (hm : ∀ p ∈ fs.zip us, ((("self" : Str), Value.ref x) :: fs.zip us).reverse.lookup p.1 = some p.2)
    (X : K.In s.heap) (hlim : s.heap.NoLimit) (G : s.heap.Ns mainGlobals mg) (hmg : mg "super" = none) (Bt : s.heap.Ns builtinsNs mb) (hmb : mb "super" = some (.type "super"))
    (hx : s.heap.get? x = some (excO C t0)) (hnx : K.lookup x = none) (hroom : A.depth < recursionLimit)
    (hbind : ∀ fd : FuncData, (∃ qual pm doc ct kV an cdv cc, fd = ksFn "__init__" qual (defArgs st) (defBody st) (defScope st) .none kV doc pm an cdv ct cc) → BindsTo s fd args ((("self" : Str), .ref x) :: fs.zip us))
    (hq : ∀ h' tk d, InitEnd s.heap h' x C d (fs.zip us) → R (.ok (.ret .none)) { s with heap := h', toks := tk }) :
    codeAny (model prog w) A (.call (.ref fI) args) R s := by
  obtain ⟨oc, cl, ccl, od, cld, cdd, pm, doc, ct, kV, an, osl, csl, ccs, cda, cc, vs, tf, qual, lf, hcd, lc, hvs, lcell⟩ := T.fn
  obtain ⟨msg, kk, p0, p1, p2, p3, p4, p5, qs, hlen, hline, hbody⟩ := T.shape.body
  refine ks_codeAny_call_defAt (fd := ksFn "__init__" qual (defArgs st) (defBody st) (defScope st) .none kV doc pm an (.ref cda) ct cc) (body := defBody st) (binds := (("self" : Str), .ref x) :: fs.zip us) hroom (X _ _ lf) rfl hlim (codeRec_of X hcd) rfl (hbind _ ⟨_, _, _, _, _, _, _, _, rfl⟩) T.shape.nocell (fun y hy => ?_) (fun h₁ hns hk => ?_) T.shape.co T.shape.gen T.shape.kind
  · rcases List.mem_cons.mp hy with rfl | hy
    · exact T.shape.self_
    · exact (T.shape.flds _ (List.of_mem_zip hy).1).1
  rw [hbody]
  have X1 : K.In h₁ := X.keeps hk
  have hx1 := hk _ _ hx
  have Lx : s.heap.objs.size ≠ x := Nat.ne_of_gt (Heap.lt_size hx)
  refine ks_wpAt_execs_cons (sup_stmt T hline lf lc hvs lcell (s := { s with heap := h₁, toks := s.toks + _ }) X1 (G.keeps hk) hmg (Bt.keeps hk) hmb hns (x := x) hm0 hx1 fun h2' tk2 t1 k2 e2 => ?_)
  have X2 : K.In h2' := fun b o e => k2 b o (fun z => by rw [z, hnx] at e; cases e) (X1 b o e)
  have n2 : h2'.Ns s.heap.objs.size (fun y => ((("self" : Str), Value.ref x) :: fs.zip us).reverse.lookup y) := by
    obtain ⟨o, es, ep, ho, r⟩ := hns
    exact ⟨o, es, ep, k2 _ _ Lx ho, r⟩
  have kk2 : ∀ b o, b ≠ x → s.heap.get? b = some o → h2'.get? b = some o := fun b o hb e => k2 b o hb (hk b o e)
  have sz : s.heap.objs.size ≤ h2'.objs.size := by
    obtain ⟨o, es, ep, ho, _⟩ := n2
    exact Nat.le_of_lt (Heap.lt_size (show h2'.get? s.heap.objs.size = some o from ho))
  exact wpAt_of_wpAny (htail qs hlen _ _ { s with heap := h2', toks := tk2 } _ _ cda cc x t1 qual _ X2 n2 hm0 hm e2 Lx hnx fun h' tk d i => hq h' tk d (i.after kk2 sz))
/-- a made exception -/
structure Made (h h' : Heap) (e C : Addr) (d : Option Addr) (zs : List (Str × Value)) : Prop where
  keep : ∀ b o, h.get? b = some o → h'.get? b = some o
  new : h.objs.size ≤ e
  obj : ∃ t1, h'.get? e = some { cls := .ref C, dict := d, data := .fields #[.ref t1, .none, .none, .none, .bool false, .none] }
  dct : match d with
    | none => zs = []
    | some dx => h.objs.size ≤ dx ∧ dx ≠ e ∧ ∃ m, h'.Ns1 dx m ∧ ∀ y, m y = zs.lookup y
/-- C(us) -/
theorem sup_made (T : SupTxt prog K C fI st fs) {us : List Value} (hus : us.length ≤ sizeLine) (htail : ∀ qs, fs.length = qs.length → TailOk prog w K C fI st fs us qs)
    (hm0 : ∀ x : Addr, ((("self" : Str), Value.ref x) :: fs.zip us).reverse.lookup ("self" : Str) = some (.ref x)) (hm : ∀ x : Addr, ∀ p ∈ fs.zip us, ((("self" : Str), Value.ref x) :: fs.zip us).reverse.lookup p.1 = some p.2)
    (hbind : ∀ (x : Addr) (s : Shared) (fd : FuncData), (∃ qual pm doc ct kV an cdv cc, fd = ksFn "__init__" qual (defArgs st) (defBody st) (defScope st) .none kV doc pm an cdv ct cc) → BindsTo s fd ⟨.ref x :: us, []⟩ ((("self" : Str), .ref x) :: fs.zip us))
    (X : K.In s.heap) (hlim : s.heap.NoLimit) (G : s.heap.Ns mainGlobals mg) (hmg : mg "super" = none) (Bt : s.heap.Ns builtinsNs mb) (hmb : mb "super" = some (.type "super")) (hroom : A.depth + 1 < recursionLimit)
    (hq : ∀ h' tk e d, Made s.heap h' e C d (fs.zip us) → R (.ok (.ret (.ref e))) { s with heap := h', toks := tk }) :
    codeAny (model prog w) A (.call (.ref C) ⟨us, []⟩) R s := by
  obtain ⟨nm, q, N, bs, bm, sn, sub, ab, col, dd, k0, k1, k2, k3, k5, hC, hbm⟩ := T.cls
  obtain ⟨hp, g, dr, tk, os⟩ := s
  have k : ∀ b o, hp.get? b = some o → ((hp.push (kdv_tup us)).push (excO C hp.objs.size)).get? b = some o := fun b o e => Heap.get?_push_of_some _ (Heap.get?_push_of_some _ e)
  have hget : ((hp.push (kdv_tup us)).push (excO C hp.objs.size)).get? (hp.objs.size + 1) = some (excO C hp.objs.size) := by heap_get
  have hnx : K.lookup (hp.objs.size + 1) = none := by
    cases e : K.lookup (hp.objs.size + 1) with
    | none => rfl
    | some o =>
      have z : hp.get? (hp.objs.size + 1) = some o := X _ _ e
      exact absurd (Nat.lt_of_succ_lt (Heap.lt_size z)) (Nat.lt_irrefl _)
  refine call_own F.excBase_ValueError (fun X => refsVE_contains X bm hbm) (X _ _ hC) (looks_findIn X T.iC) (fun self => bind_fn X self T.tC) hus ?_
  refine sup_init (s := ⟨(hp.push (kdv_tup us)).push (excO C hp.objs.size), g, dr, tk, os⟩) T htail (hm0 _) (hm _) (X.keeps k) (hlim.keeps k) (G.keeps k) hmg (Bt.keeps k) hmb hget hnx ?_ (hbind _ _) fun h' tk' d i => ?_
  · show A.depth + 1 < recursionLimit
    exact hroom
  · have old : ∀ b o, hp.get? b = some o → h'.get? b = some o := fun b o e => i.keep b o (Nat.ne_of_lt (Nat.lt_succ_of_lt (Heap.lt_size e))) (k b o e)
    refine ⟨rfl, hq h' tk' (hp.objs.size + 1) d ⟨old, Nat.le_succ _, i.obj, ?_⟩⟩
    have q := i.dct
    cases d with
    | none => exact q
    | some dx =>
      obtain ⟨a, b, c⟩ := q
      refine ⟨?_, b, c⟩
      have z : hp.objs.size + 1 + 1 ≤ dx := by
        first
          | (simpa only [Heap.size_push] using a)
          | exact a
          | (have q := a; rw [Heap.size_push, Heap.size_push] at q; exact q)
      exact Nat.le_trans (Nat.le_trans (Nat.le_succ _) (Nat.le_succ _)) z
end
end SBX

end
section
set_option maxHeartbeats 1000000
/-! The same over the layer: raise C(..), C(..) as a value; what a held exception says. -/
namespace L2
open PySem PySem.Spec PyProof.Rows SBX

/-- all that the making of the exception class at C asks -/
structure SupOk (prog : Program) (w : World) (K : PySem.W.Frag) (C fI : Addr) (st : Stmt) (fs : List Str) : Prop where
  T : SupTxt prog K C fI st fs
  tail : ∀ us qs, us.length = fs.length → fs.length = qs.length → TailOk prog w K C fI st fs us qs
  m0 : ∀ us, us.length = fs.length → ∀ x : Addr, ((("self" : Str), Value.ref x) :: fs.zip us).reverse.lookup ("self" : Str) = some (.ref x)
  m1 : ∀ us, us.length = fs.length → ∀ x : Addr, ∀ p ∈ fs.zip us, ((("self" : Str), Value.ref x) :: fs.zip us).reverse.lookup p.1 = some p.2
  bind : ∀ us, us.length = fs.length → ∀ (x : Addr) (s : Shared) (fd : FuncData), (∃ qual pm doc ct kV an cdv cc, fd = PySem.W.ksFn "__init__" qual (defArgs st) (defBody st) (defScope st) .none kV doc pm an cdv ct cc) → BindsTo s fd ⟨.ref x :: us, []⟩ ((("self" : Str), .ref x) :: fs.zip us)
  few : fs.length ≤ 2

/-- an exception object at a: its class, its own dict -/
def XcO (cls : Value) (d : Option Addr) (a : Addr) : HO := .ext fun h => ∃ (oe : Obj) (vs : Array Value), h.get? a = some oe ∧ Zc cls d oe ∧ oe.data = .fields vs
theorem xcO_ok {P : Program} {w : World} {H : Hp} {h : Heap} {a : Addr} {cls : Value} {d : Option Addr} {oe : Obj} {vs : Array Value} (e : h.get? a = some oe) (z : Zc cls d oe) (hd : oe.data = .fields vs) : ObjOk P w H h a (XcO cls d a) :=
  ⟨⟨oe, vs, e, z, hd⟩, ⟨oe, e⟩, fun _ _ ⟨o, v, q, r⟩ k => ⟨o, v, k o q, r⟩⟩

theorem relO_zip : ∀ {fs : List Str} {vs : List V} {us : List Value}, vs.length = fs.length → Vals vs us → ∀ f, RelO (List.lookup f (fs.zip vs)) (List.lookup f (fs.zip us))
  | [], [], [], _, _, f => trivial
  | g :: fs, v :: vs, u :: us, h, .cons r rs, f => by
    by_cases e : f = g
    · rw [e]
      show RelO (List.lookup g ((g, v) :: fs.zip vs)) (List.lookup g ((g, u) :: fs.zip us))
      rw [lk_self, lk_self]
      exact r
    · show RelO (List.lookup f ((g, v) :: fs.zip vs)) (List.lookup f ((g, u) :: fs.zip us))
      rw [lk_ne e, lk_ne e]
      exact relO_zip (by simpa using h) rs f
section
variable {X : Cx} {x : Str} {C fI : Addr} {st : Stmt} {fs : List Str}
/-- raise C(e, ..): what it makes -/
def tMkSup (C : Addr) (fs : List Str) (ta : TA) : St → Hp → XK → Prop := fun σ H Q => ta σ H fun vs H1 => vs.length = fs.length ∧ ∀ d, H1 d = none → Q (.ref C) (some d) (upd H1 d (.xd (fs.zip vs)))
theorem boot_super : bootBuiltins "super" = some (.type "super") := by decide +kernel
/-- the class called, from a body -/
theorem run_sup {pins : List (Addr × Obj)} {σ : St} {H : Hp} {s : Shared} {us : List Value} {R : Result → Shared → Prop} {k : Nat} (S : SupOk X.prog X.w X.K C fI st fs) (hs : X.mg "super" = none) (hr : Room (k + 1) X.A) (I : Inv X pins σ H s) (hl : us.length = fs.length)
    (hq : ∀ h' tk e d, Made s.heap h' e C d (fs.zip us) → R (.ok (.ret (.ref e))) { s with heap := h', toks := tk }) : codeAny (model X.prog X.w) X.A (.call (.ref C) ⟨us, []⟩) R s := by
  obtain ⟨mb, hb, hbb⟩ := I.mod.blt
  refine sup_made (mg := X.mg) (mb := mb) S.T ?_ (fun qs h => S.tail us qs hl h) (S.m0 us hl) (S.m1 us hl) (S.bind us hl) I.kIn I.nolimit (I.mod.glob.keeps I.bk) hs (hb.keeps I.bk) ((hbb _ (by decide +kernel)).trans boot_super) (by have := hr.dp; omega) hq
  rw [hl, sizeLine_eq]
  exact Nat.le_trans S.few (by decide)
theorem pmk_sup {e : Expr} {es : List Expr} {ta : TA} {p pos : Pos} {k : Nat} (S : SupOk X.prog X.w X.K C fI st fs) (gC : X.mg x = some (.ref C)) (hs : X.mg "super" = none) (hr : Room (k + 1) X.A) (hne : fs ≠ []) (ha : PA X (e :: es) ta) (hg : Gl X x := by rfl)
    (he : starEach (e :: es) X.env = (false, eval e X.env) :: starEach es X.env := by rfl) (hpl : (backTo pos (starEach es X.env)).any (·.1) = false := by rfl) (hdb : (x == ("__debug__" : Str)) = false := by decide) :
    PMk X (.Call (.Name x p) (e :: es) [] pos) (tMkSup C fs ta) := by
  intro pins s σ H Q I h
  refine wpAny_Call_Name_kw (ld_glob I hg gC ?_ hdb)
  refine PySem.W.callWith_K (h₀ := X.base) I.ok.mod.kin S.T.kC (thn (ha.run pos pins s σ H _ I h) fun us s1 hh => ?_) he hpl
  obtain ⟨vs, H1, I1, r1, hl, q1⟩ := hh
  refine ⟨I1.kIn, ?_⟩
  show wpAny _ _ (call (.ref C) us) _ _ _
  have hlu : us.length = fs.length := r1.length.symm.trans hl
  refine wpAny_call (run_sup S hs hr I1 hlu fun h' tk' e d M => ?_)
  obtain ⟨hp, g, dr, tk, os⟩ := s1
  show MkP X pins σ Q (.ref e) ⟨h', g, dr, tk', os⟩
  obtain ⟨t1, hoe⟩ := M.obj
  obtain ⟨G', g1, g2⟩ := restrict h' fun b => decide (b ≠ e)
  have gk : ∀ b, b ≠ e → G'.get? b = h'.get? b := fun b hb => g1 b (decide_eq_true hb)
  have ge : G'.get? e = none := g2 e (by simp)
  have old : ∀ b o, hp.get? b = some o → G'.get? b = some o := fun b o q => (gk b (Nat.ne_of_lt (Nat.lt_of_lt_of_le (Heap.lt_size q) M.new))).trans (M.keep b o q)
  have md := M.dct
  cases d with
  | none =>
    have z : fs.zip us = [] := md
    cases fs with
    | nil => exact absurd rfl hne
    | cons f fr =>
      cases us with
      | nil => simp at hlu
      | cons u ur => cases z
  | some d =>
    obtain ⟨dn, dne, m, hns, hm⟩ := md
    have ob : ObjOk X.prog X.w (upd H1 d (.xd (fs.zip vs))) G' d (.xd (fs.zip vs)) :=
      ⟨m, hns.at (fun o q => (gk d dne).trans q), fun f => by rw [hm f]; exact relO_zip hl r1 f⟩
    have J : Inv X pins σ (upd H1 d (.xd (fs.zip vs))) ⟨G', g, dr, tk', os⟩ := I1.laid (t' := tk') old dn ob
    refine ⟨e, _, _, ⟨G', g, dr, tk', os⟩, _, .ref C, some d, rfl, J, fun b o q => ?_, ge, hoe, ⟨rfl, rfl⟩, rfl, rfl, ?_, rfl, I1.bare, raises_own S.T.exC S.T.tyC, q1 d (I1.hok.fresh dn)⟩
    · by_cases hb : b = e
      · have q' : G'.get? b = some o := q
        rw [hb, ge] at q'; cases q'
      · exact (gk b hb).symm.trans q
    · rw [upd_ne (Ne.symm dne)]
      exact I1.hok.fresh M.new
/-- C(e, ..) as a value -/
def tSupV (C : Addr) (fs : List Str) (ta : TA) : TE := fun σ H Q => ta σ H fun vs H1 => vs.length = fs.length ∧ ∀ a d, H1 a = none → H1 d = none → a ≠ d → Q (.ref a) (upd (upd H1 d (.xd (fs.zip vs))) a (XcO (.ref C) (some d) a))
theorem pe_sup {e : Expr} {es : List Expr} {ta : TA} {p pos : Pos} {k : Nat} (S : SupOk X.prog X.w X.K C fI st fs) (gC : X.mg x = some (.ref C)) (hs : X.mg "super" = none) (hr : Room (k + 1) X.A) (hne : fs ≠ []) (ha : PA X (e :: es) ta) (hg : Gl X x := by rfl)
    (he : starEach (e :: es) X.env = (false, eval e X.env) :: starEach es X.env := by rfl) (hpl : (backTo pos (starEach es X.env)).any (·.1) = false := by rfl) (hdb : (x == ("__debug__" : Str)) = false := by decide) :
    PE X (.Call (.Name x p) (e :: es) [] pos) (tSupV C fs ta) := by
  refine ⟨fun pins s σ H Q I h => ?_⟩
  refine wpAny_Call_Name_kw (ld_glob I hg gC ?_ hdb)
  refine PySem.W.callWith_K (h₀ := X.base) I.ok.mod.kin S.T.kC (thn (ha.run pos pins s σ H _ I h) fun us s1 hh => ?_) he hpl
  obtain ⟨vs, H1, I1, r1, hl, q1⟩ := hh
  refine ⟨I1.kIn, ?_⟩
  show wpAny _ _ (call (.ref C) us) _ _ _
  have hlu : us.length = fs.length := r1.length.symm.trans hl
  refine wpAny_call (run_sup S hs hr I1 hlu fun h' tk' e d M => ?_)
  obtain ⟨hp, g, dr, tk, os⟩ := s1
  obtain ⟨t1, hoe⟩ := M.obj
  have md := M.dct
  cases d with
  | none =>
    have z : fs.zip us = [] := md
    cases fs with
    | nil => exact absurd rfl hne
    | cons f fr =>
      cases us with
      | nil => simp at hlu
      | cons u ur => cases z
  | some d =>
    obtain ⟨dn, dne, m, hns, hm⟩ := md
    obtain ⟨G', g1, g2⟩ := restrict h' fun b => decide (b ≠ e)
    have gk : ∀ b, b ≠ e → G'.get? b = h'.get? b := fun b hb => g1 b (decide_eq_true hb)
    have ge : G'.get? e = none := g2 e (by simp)
    have old : ∀ b o, hp.get? b = some o → G'.get? b = some o := fun b o q => (gk b (Nat.ne_of_lt (Nat.lt_of_lt_of_le (Heap.lt_size q) M.new))).trans (M.keep b o q)
    have ob : ObjOk X.prog X.w (upd H1 d (.xd (fs.zip vs))) G' d (.xd (fs.zip vs)) :=
      ⟨m, hns.at (fun o q => (gk d dne).trans q), fun f => by rw [hm f]; exact relO_zip hl r1 f⟩
    have J : Inv X pins σ (upd H1 d (.xd (fs.zip vs))) ⟨G', g, dr, tk', os⟩ := I1.laid (t' := tk') old dn ob
    have nd : H1 d = none := I1.hok.fresh dn
    have ne : H1 e = none := I1.hok.fresh M.new
    have ne' : upd H1 d (.xd (fs.zip vs)) e = none := by rw [upd_ne (Ne.symm dne)]; exact ne
    have J2 : Inv X pins σ (upd (upd H1 d (.xd (fs.zip vs))) e (XcO (.ref C) (some d) e)) ⟨h', g, dr, tk', os⟩ := J.laidN (t' := tk') (h' := h') (fun b o q => by
      by_cases hb : b = e
      · have q' : G'.get? b = some o := q
        rw [hb, ge] at q'; cases q'
      · exact (gk b hb).symm.trans q) ge ne' (xcO_ok hoe ⟨rfl, rfl⟩ rfl)
    exact ⟨.ref e, _, J2, rfl, q1 e d ne nd (Ne.symm dne)⟩
end
end L2

namespace L2
open PySem PySem.Spec PyProof.Rows SBX
/-! ### what a held exception says -/
/-- a value's type: wider still, exceptions too -/
inductive TyZ (K : PySem.W.Frag) (H : Hp) : V → Value → Prop where
  | base {x : V} {t : Value} (h : TyX K H x t) : TyZ K H x t
  | exc {a D : Addr} {d : Option Addr} (e : H a = some (XcO (.ref D) d a)) (hd : ∀ b, d = some b → ∃ fs, H b = some (.xd fs)) (c : ExcC K D) : TyZ K H (.ref a) (.ref D)
def rIsZ (K : PySem.W.Frag) : List V → Hp → VK → Prop := fun xs H Q => ∃ (x c : V) (t u : Value) (b : Bool), xs = [x, c] ∧ ClsV c u ∧ TyZ K H x t ∧ PySem.W.kitOne K t u = some b ∧ Q (.bl b) H
section
variable {X : Cx} {pins : List (Addr × Obj)} {σ : St} {H : Hp} {s : Shared}
theorem isCls_of {K : PySem.W.Frag} {D : Addr} (h : PySem.W.hasDictIn K D = true) : (PySem.W.clsIn K D).isSome = true := by
  unfold PySem.W.hasDictIn at h
  cases e : PySem.W.clsIn K D with
  | none => rw [e] at h; cases h
  | some c => rfl
theorem kit_ofZ {x : V} {u t : Value} (I : Inv X pins σ H s) (rx : RelV x u) (ty : TyZ X.K H x t) : ∃ P : Heap → Prop, PySem.W.KitX X.K u t P ∧ P s.heap ∧ u ≠ .builtin "__main__.__loader__#opaque" := by
  cases ty with
  | base b => exact kit_of I rx b
  | @exc a D d e hd C =>
    cases (show u = Value.ref a from rx)
    obtain ⟨⟨oe, vs, ho, hz, hdt⟩, _, _⟩ := I.hok a _ e
    cases d with
    | none =>
      have J : PySem.W.InstAt s.heap a oe D none := ⟨ho, hz.1, by unfold PySem.W.notCls; rw [hdt] <;> rfl, by rw [hz.2]; trivial⟩
      exact ⟨_, PySem.W.kitx_exc (isCls_of C.hd) C.hg C.hk C.hs C.ha C.hn C.ht C.hm, J, fun z => nomatch z⟩
    | some dd =>
      obtain ⟨fs, hx⟩ := hd dd rfl
      have hx2 : ObjOk X.prog X.w H s.heap dd (.xd fs) := I.hok dd _ hx
      obtain ⟨mA, hns, hr⟩ := hx2
      obtain ⟨od, hod, hl⟩ := lookIn_ns hns
      have J : PySem.W.InstAt s.heap a oe D (some od) := ⟨ho, hz.1, by unfold PySem.W.notCls; rw [hdt] <;> rfl, by rw [hz.2]; exact hod⟩
      exact ⟨_, PySem.W.kitx_exc (isCls_of C.hd) C.hg C.hk C.hs C.ha C.hn C.ht C.hm, J, fun z => nomatch z⟩
theorem call_isZ : CallR X (.builtin "isinstance") (rIsZ X.K) := by
  intro pins s σ H xs us Q I r h
  obtain ⟨x, c, t, u, b, rfl, k, ty, e, q⟩ := h
  obtain ⟨u1, u2, rfl, r1, r2⟩ := vals2 r
  have e2 := k.eq r2
  subst e2
  obtain ⟨P, Z, p, hx⟩ := kit_ofZ I r1 ty
  exact PySem.W.kia_one Z I.kIn p e hx fun tk => ⟨.bl b, H, I.tok tk, rfl, q⟩
/-- e.f, e a held exception of the class at C -/
def tXh (K : PySem.W.Frag) (f : Str) (te : TE) : TE := fun σ H Q => te σ H fun x H1 => ∃ (a C dd : Addr) (fs : List (Str × V)) (v : V), x = .ref a ∧ H1 a = some (XcO (.ref C) (some dd) a) ∧ XfC K C ∧ PySem.W.findIn K (.ref C) f = some none ∧ H1 dd = some (.xd fs) ∧ fs.lookup f = some v ∧ Q v H1
theorem pe_xh {e : Expr} {te : TE} {pos : Pos} {n : Str} (he : PE X e te) (hb : attributeBase e n X.env (eval e X.env) = eval e X.env := by rfl) : PE X (.Attribute e n pos) (tXh X.K n te) := by
  refine ⟨fun pins s σ H Q I h => ?_⟩
  refine attr_of hb (thn (he.run pins s σ H _ I h) fun u s1 hh => ?_)
  obtain ⟨x, H1, I1, rx, a, C, dd, fs, v, rfl, ha, T, hno, ea, l, q⟩ := hh
  obtain rfl : u = Value.ref a := rx
  obtain ⟨⟨oe, vs, ho, hz, hdt⟩, _, _⟩ := I1.hok a _ ha
  have hx : ObjOk X.prog X.w H1 s1.heap dd (.xd fs) := I1.hok dd _ ea
  obtain ⟨mA, hns, hr⟩ := hx
  obtain ⟨od, hod, hl⟩ := lookIn_ns hns
  obtain ⟨u, hu, ru⟩ := RelO.some_of (v := v) (o := mA n) (by rw [← l]; exact hr n)
  have J : PySem.W.InstAt s1.heap a oe C (some od) := ⟨ho, hz.1, by unfold PySem.W.notCls; rw [hdt] <;> rfl, by rw [hz.2]; exact hod⟩
  exact HandSPX.exc_get I1.kIn J T.ga T.gg T.exC (PySem.W.findObj_own T.hdC hno rfl (by rw [hl, hu])) (handed_of ru) ⟨v, H1, I1.tok _, ru, q⟩
end
end L2

end
section
set_option maxHeartbeats 1000000
/-! try: .. except X as n: what is caught is held on behind the suite. -/
namespace L2
open PySem PySem.Spec PyProof.Rows SBX
section
variable {X : Cx} {pins : List (Addr × Obj)} {σ : St} {H : Hp} {s : Shared}
/-- an object that was not there at the entry is tracked from now on -/
theorem Inv.track {a : Addr} {oe : Obj} {vs : Array Value} {cls : Value} {d : Option Addr} (I : Inv X pins σ H s) (e : s.heap.get? a = some oe) (hz : Zc cls d oe) (hd : oe.data = .fields vs) (na : H a = none) (n0 : X.s_0.heap.get? a = none) (nL : a ≠ X.env.locals) (np : ∀ p ∈ X.pn ++ pins, p.1 ≠ a) :
    Inv X pins σ (upd H a (XcO cls d a)) s := by
  have ne0 : ∀ b o, X.s_0.heap.get? b = some o → b ≠ a := fun b o q z => by rw [z, n0] at q; cases q
  have neS : ∀ b u, H b = some u → b ≠ a := fun b u q => ne_of_none q na
  refine ⟨I.ok, I.os, I.bare, ⟨I.base.keep, I.base.slot, fun b o q n hx => ?_, I.base.there, fun b xs q => ?_, fun b o u q => ?_, fun b ps q => ?_⟩, I.loc, I.cell, ?_, fun x c q => ?_, fun p hp => ?_, fun b u q => ?_, I.len⟩
  · rw [upd_ne (ne0 b o q)]; exact I.base.free b o q n hx
  · have z := I.base.tups b xs q
    rw [upd_ne (neS _ _ z)]; exact z
  · have z := I.base.frzs b o u q
    rw [upd_ne (neS _ _ z)]; exact z
  · obtain ⟨more, z⟩ := I.base.tbls b ps q
    exact ⟨more, by rw [upd_ne (neS _ _ z)]; exact z⟩
  · rw [upd_ne (Ne.symm nL)]; exact I.free
  · have nc : c ≠ a := fun z => by
      obtain ⟨v, o, ho, hdc⟩ := I.cell x c q
      rw [z, e] at ho
      cases ho
      rw [hd] at hdc
      cases hdc
    rw [upd_ne nc]; exact I.freeC x c q
  · obtain ⟨z1, z2, z3, z4, z5⟩ := I.pin p hp
    exact ⟨z1, by rw [upd_ne (np p hp)]; exact z2, z3, z4, z5⟩
  · by_cases hb : b = a
    · subst hb
      rw [upd_same] at q
      cases q
      exact xcO_ok e hz hd
    · rw [upd_ne hb] at q
      exact (I.hok b u q).stay (fun c v _ r => r) (fun c r => by rw [upd_ne (neS _ _ r)]; exact r) fun c xs r => by rw [upd_ne (neS _ _ r)]; exact r

theorem notHere {B h : Heap} {X : Cx} {a : Addr} {cls : Value} {d : Option Addr} (hs : X.stack = X.env :: X.outer) (fl : HandSPX.FlyingZ B (X.env :: X.outer) a (Zc cls d) h) : a ∉ frs X.stack := by
  rw [hs]
  intro hm
  obtain ⟨oe, vs, he, _, hd⟩ := fl.there
  obtain ⟨_, o', e', hnf⟩ := fl.2.2.1.mem hm
  rw [he] at e'
  cases e'
  exact hnf _ hd
/-- what the clause «except x as n: c = n» wishes of an exception of the body: slot i is n's, j is c's; the exception is held on -/
def wHold (K : PySem.W.Frag) (c : Value) (n i j : Nat) (Wout : WX) (D : Ends) : WX := fun cls d σ H =>
  ∃ b, PySem.W.exmOne K cls c = some b ∧ (b = true → σ.length = n → ∀ a, H a = none → D.nx (((σ.set i (some (.ref a))).set j (some (.ref a))).set i none) (upd H a (XcO cls d a))) ∧ (b = false → Wout cls d σ H)
theorem ps_hold {x n cn : Str} {c : Value} {i j : Nat} {body : List Stmt} {np pos pos' p1 p2 p3 : Pos} {tb : WX → TS} {Wout : WX} (hs : X.stack = X.env :: X.outer) (hf : X.env.frame = some X.env.locals) (hex : X.ex = []) (hN : X.N.Nodup) (hi : X.N[i]? = some n) (hln : X.env.kindOf n = some .local) (hj : X.N[j]? = some cn) (hlc : X.env.kindOf cn = some .local)
    (hdn : (n == ("__debug__" : Str)) = false) (hdc : (n == ("__classdict__" : Str)) = false) (hc : Names X x c) (tk : Takes X Wout) (hsw : swapsWith (.Name n p2) (some (.Name cn p1)) p3.line X.env = pure false)
    (hb : ∀ (W : WX) (pn : List (Addr × Obj)) (xe : Value → Shared → Prop), Takes (X.tr pn xe) W → PassesOwn (model X.prog X.w) X.A X.env xe → PSs (X.tr pn xe) body (tb W)) :
    PS X (.Try body [.ExceptHandler (some (.Name x np)) (some n) [.Assign [.Name cn p1] (.Name n p2) p3] pos'] [] [] pos) (fun D σ H => tb (wHold X.K c X.N.length i j Wout D) D σ H) := by
  refine ⟨fun pins s σ H D I h => ?_⟩
  have ok := I.ok
  have hfr : X.A.frames = some (X.env :: X.outer) := ok.frames.trans (congrArg some hs)
  refine wpAny_Try_except (wpAny_mono ((hb _ (X.pn ++ pins) _ (fun u s' xx => ?C) PassesOwn.looking).run [] s σ H D (I.toTry _) h) (fun f s1 hsp => ?N) (fun _ _ z => z))
  case N =>
    cases f with
    | next => obtain ⟨σ', H', J, q⟩ := hsp; exact wpAny_execs_nil ⟨σ', H', J.ofTry ok, q⟩
    | brk => obtain ⟨σ', H', J, q⟩ := hsp; exact ⟨σ', H', J.ofTry ok, q⟩
    | cont => obtain ⟨σ', H', J, q⟩ := hsp; exact ⟨σ', H', J.ofTry ok, q⟩
    | ret u => obtain ⟨v, σ', H', J, r, q⟩ := hsp; exact ⟨v, σ', H', J.ofTry ok, r, q⟩
  case C =>
    obtain ⟨a, B, sI, pins', σ', H', cls, d, rfl, J', nb, up, sky, na, os, ag, b, hb1, hyes, hno⟩ := xx
    have J : Inv X pins σ' H' sI := J'.ofTry ok
    have sky2 : Sky B (X.env :: X.outer) a (Zc cls d) X.env.locals s'.heap := hs ▸ sky
    show wpAny (model X.prog X.w) X.A (noteFrame (.ref a) X.env) _ _ _
    refine Sky.land Zc.steady hfr hf sky2 fun h3 fl3 up3 => ?_
    have J3 : Inv X pins σ' H' { s' with heap := h3 } := J.landed nb fl3.1 (up.trans up3) os ag
    obtain ⟨oe3, vs3, he3, hz3, hd3⟩ := fl3.there
    have nst := notHere hs fl3
    have nL : a ≠ X.env.locals := fun z => nst (by rw [hs]; exact List.mem_filterMap.mpr ⟨X.env, List.mem_cons_self, by rw [hf, z]⟩)
    have nF : a ∉ X.fs := fun hm => nst (by
      rw [hs]
      obtain ⟨e, he, q⟩ := List.mem_filterMap.mp hm
      exact List.mem_filterMap.mpr ⟨e, List.mem_cons_of_mem _ he, q⟩)
    have nI : sI.heap.get? a = none := by
      cases e : sI.heap.get? a with
      | none => rfl
      | some o =>
        have z := nb a o e nst
        rw [fl3.2.1] at z
        cases z
    have n0 : X.s_0.heap.get? a = none := by
      cases e : X.s_0.heap.get? a with
      | none => rfl
      | some o =>
        obtain ⟨o', z⟩ := J.base.there a o e (by rw [hex]; exact fun z => nomatch z)
        rw [nI] at z
        cases z
    have npin : ∀ p ∈ X.pn ++ pins, p.1 ≠ a := fun p hp z => by
      have y := (J.pin p hp).1
      rw [z, nI] at y
      cases y
    have S3 := J3.suite he3 hd3 na nL nF
    refine wpAny_handleBy_cons (codeAny_handlers_test ?_) (by intro q; cases q)
    have LT : PySem.W.Looks (model X.prog X.w) h3 (typeOf (.ref a)) cls := fun A Q E s k q => wpAny_typeOf_ref (k _ _ he3) (by rw [hz3.1]; exact q)
    have LM := PySem.W.exm_one (M := model X.prog X.w) J3.kIn LT hb1
    have test : ∀ {Q : Value → Shared → Prop} {E : Value → Shared → Prop}, Q c { s' with heap := h3 } → wpAny (model X.prog X.w) (X.A.mark (some (.ref a))) (eval (.Name x np) X.env) Q E { s' with heap := h3 } := fun {Q E} q => by
      obtain ⟨hg, hdbg, hm | ⟨hm, hv, hnn⟩⟩ := hc
      · exact ld_glob (X := X.suite a ((a, oe3) :: (X.pn ++ pins))) S3 hg hm q hdbg
      · exact ld_blt (X := X.suite a ((a, oe3) :: (X.pn ++ pins))) S3 hg hm hv q hnn hdbg
    refine test (LM.here ?_)
    cases b with
    | true =>
      refine codeAny_handlers_suite_as (HandSPX.lands_againZ fl3 fun h4 fl4 up4 => ?_)
      have J4 : Inv X pins σ' H' { s' with heap := h4 } := J.landed nb fl4.1 ((up.trans up3).trans up4) os ag
      obtain ⟨oe4, vs4, he4, hz4, hd4⟩ := fl4.there
      have S4 := J4.suite he4 hd4 na nL nF
      refine store_ok (X := X.suite a ((a, oe4) :: (X.pn ++ pins))) (v := .ref a) S4 hN hi (.inl hln) rfl (fun s5 S5 => ?_) (.inr hln)
      have li : i < σ'.length := by rw [J.len]; exact (List.getElem?_eq_some_iff.mp hi).1
      have pe : PE (X.suite a ((a, oe4) :: (X.pn ++ pins))) (.Name n p2) (tVar i) := pe_var (X := X.suite a ((a, oe4) :: (X.pn ++ pins))) hi (.inl hln) hdn hdc
      have st := pss_one (ps_set (X := X.suite a ((a, oe4) :: (X.pn ++ pins))) (pos := p3) (pos' := p1) hN hj (.inl hlc) pe hsw (.inr hlc))
      refine wpAny_mono (st.run [] s5 _ H' { nx := fun σ6 H6 => σ6 = (σ'.set i (some (.ref a))).set j (some (.ref a)) ∧ H6 = H', rt := fun _ _ => False } S5 ⟨.ref a, List.getElem?_set_self li, rfl, rfl⟩) (fun f s6 hsp => ?_) (fun _ _ z => False.elim z)
      cases f with
      | next =>
        obtain ⟨σ6, H6, S6, e6, e7⟩ := hsp
        subst e6 e7
        have pn := S6.pin (a, oe4) (List.mem_append_left _ List.mem_cons_self)
        have J6 := (S6.unsuite ok).track pn.1 hz4 hd4 na n0 nL npin
        exact gone_ok J6 hN hi hln fun s7 J7 => ⟨_, _, J7, hyes rfl J.len a na⟩
      | brk => obtain ⟨_, _, _, z⟩ := hsp; exact False.elim z
      | cont => obtain ⟨_, _, _, z⟩ := hsp; exact False.elim z
      | ret u => obtain ⟨_, _, _, _, _, z⟩ := hsp; exact False.elim z
    | false =>
      show wpAny _ X.A (handleBy (.ref a) X.env []) _ _ _
      refine wpAny_handleBy_nil ?_
      obtain ⟨k1, k2, k3, oe, vs, T, oT, ts', he, hz, hd, h1, hr⟩ := id fl3
      unfold PySem.passOn
      refine wpAny_bind (wpAny_field he hd h1 ?_)
      rw [if_neg (show ¬ ((Value.ref T == Value.none) = true) from by simp)]
      have fin : wpAny (model X.prog X.w) X.A (setFlight (.ref a) X.env.frame) (fun _ s4 => wpAny (model X.prog X.w) X.A (throw (.ref a) : Sem Flow) (SP X pins D) X.xe s4) X.xe { s' with heap := h3 } := by
        rw [hf]
        exact HandSPX.setFlight_upZ fl3 fun h4 hh4 up4 => wpAny_throw (tk _ _ ⟨a, B, sI, pins, σ', H', cls, d, rfl, J, nb, (up.trans up3).trans up4, .inr (.inr (by rw [hs]; exact hh4)), na, os, ag, hno rfl⟩)
      first
        | exact wpAny_bind (wpAny_pure (wpAny_bind fin))
        | exact wpAny_bind fin
end
end L2

namespace LamX
open PySem PySem.Spec PyProof.Rows L2 SBX
/-- heard: caught = None / try: a() / except x as e: caught = e / return caught -/
def THeard (K : PySem.W.Frag) (CS : Addr) : (XK → Hp → VK → Prop) → Hp → VK → Prop := fun tl H Q =>
  tl (fun cls d H' => PySem.W.exmOne K cls (.ref CS) = some true ∧ ∀ a, H' a = none → Q (.ref a) (upd H' a (XcO cls d a))) H (fun _ H' => ∃ v, (some (some V.non) : Option (Option V)) = some (some v) ∧ Q v H')
theorem heard_gives {X : Cx} {x q e : Str} {sg : Scope} {g CS : Addr} {cdg : Value} {j : Nat} {p1 p2 p3 p4 p5 p6 p7 p8 p9 p10 p11 p12 p13 p14 p15 : Pos} (hge : sg.names.lookup e = some .globalImplicit) (hme : X.mg e = some (.ref CS)) (hde : (e == ("__debug__" : Str)) = false)
    (h1 : sg.names.lookup ("ask" : Str) = some .local) (h2 : sg.names.lookup ("caught" : Str) = some .local) (h3 : sg.names.lookup ("error" : Str) = some .local) :
    GivesTo X ["ask", "caught", "error"] x sg g cdg
      [.Assign [.Name "caught" p1] (.Constant .none j p2) p3,
       .Try [.Expr (.Call (.Name "ask" p4) [] [] p5) p6] [.ExceptHandler (some (.Name e p7)) (some "error") [.Assign [.Name "caught" p8] (.Name "error" p9) p10] p11] [] [] p12,
       .Return (some (.Name "caught" p13)) p14] "ask" q (THeard X.K CS) := by
  intro f c' s H Q tl act hc h
  have nd : (["ask", "caught", "error"] : List Str).Nodup := by decide +kernel
  have hgl : Gl (cxOf C8.CX0 X.prog X.w X.K X.mg X.base ["ask", "caught", "error"] x sg g cdg X.A X.stack s H C8.E0).nox e := hge
  refine ⟨_, pss_cons (ps_set (X := (cxOf C8.CX0 X.prog X.w X.K X.mg X.base ["ask", "caught", "error"] x sg g cdg X.A X.stack s H C8.E0).nox) (i := 1) nd rfl (Or.inl h2) pe_non rfl (Or.inr h2))
    (pss_cons (ps_hold (X := (cxOf C8.CX0 X.prog X.w X.K X.mg X.base ["ask", "caught", "error"] x sg g cdg X.A X.stack s H C8.E0).nox) (c := .ref CS) (i := 2) (j := 1)
      (tb := fun W D σ H => ∃ Ech : XK, (∀ cls d σ' H', Ech cls d H' → W cls d σ' H') ∧ σ[0]? = some (some (.ref f)) ∧ H c' = some (CodeO c' q) ∧ tl Ech H (fun _ H1 => D.nx σ H1))
      rfl rfl rfl nd rfl h3 rfl h2 (by decide) (by decide) ⟨hgl, hde, .inl hme⟩ takes0 rfl (fun W pn xe tk _ => ?_))
    (pss_one (ps_ret (pe_var (i := 1) rfl (.inl h2))))), ?_⟩
  · refine ⟨fun pins s' σ H' D I h' => ?_⟩
    obtain ⟨Ech, hW, e1, e2, e3⟩ := h'
    have hp := act W pn xe Ech p4 p5 tk hW
    exact (pss_one (ps_expr (pos := p6) hp)).run pins s' σ H' D I ⟨e1, e2, e3⟩
  · refine ⟨fun cls d H' => PySem.W.exmOne X.K cls (.ref CS) = some true ∧ ∀ a, H' a = none → Q (.ref a) (upd H' a (XcO cls d a)), fun cls d σ' H' ⟨b1, b2⟩ => ⟨true, b1, fun _ hl a na => ?_, fun z => nomatch z⟩, rfl, hc, ?_⟩
    · have hl3 : σ'.length = 3 := hl
      match σ', hl3 with
      | [x0, x1, x2], _ => exact ⟨.ref a, rfl, b2 a na⟩
    · exact h
end LamX

end
section
set_option maxHeartbeats 1000000
/-! The facts of the top, read by one Hook. -/
namespace SB
open PySem PySem.Spec PyProof.Rows L2 SBX

theorem band {a b : Bool} (h : (a && b) = true) : a = true ∧ b = true := Bool.and_eq_true_iff.mp h
/-- a def of the text: where its object lies, what it is; clo: the names that it captures -/
structure DefG where
  ad : PySem.W.Frag → Addr
  name : Str
  qual : Str
  params : Arguments
  body : List Stmt
  scope : Scope
  dfl : List He.Dv := []
  clo : List Str := []
abbrev GW : Type := Option (Str × Str × Arguments × FuncBody × Scope × Addr × List Str × Addr)
def gW (K : PySem.W.Frag) (d : DefG) : GW := match K.lookup (d.ad K) with
  | some ⟨_, _, .func fd, _⟩ => some (fd.name, fd.qualname, fd.params, fd.body, fd.scope, fd.globals, fd.closure.map (·.1), fd.builtins)
  | _ => none
def DefG.val (d : DefG) : GW := some (d.name, d.qual, d.params, .stmts d.body, d.scope, mainGlobals, d.clo, builtinsNs)
def DefG.ok (K : PySem.W.Frag) (d : DefG) : Bool := PySem.W.keepIn K (.ref (d.ad K)) && (match K.lookup (d.ad K) with
  | some ⟨_, _, .func fd, _⟩ => PySem.W.codeIn K fd.code d.qual && He.dflB K fd.defaults (d.dfl.map (He.Dv.v K))
  | _ => false)
/-- what is known of a def -/
structure DefG.At (K : PySem.W.Frag) (d : DefG) : Prop where
  e : gW K d = d.val
  c : d.ok K = true
theorem DefG.At.look {K : PySem.W.Frag} {d : DefG} (a : d.At K) : ∃ (oc : Value) (od : Option Addr) (osl : Array (Option Value)) (fd : FuncData), K.lookup (d.ad K) = some ⟨oc, od, .func fd, osl⟩ ∧ PySem.W.keepIn K (.ref (d.ad K)) = true ∧ PySem.W.codeIn K fd.code d.qual = true ∧ He.dflB K fd.defaults (d.dfl.map (He.Dv.v K)) = true ∧
    fd.name = d.name ∧ fd.qualname = d.qual ∧ fd.params = d.params ∧ fd.body = .stmts d.body ∧ fd.scope = d.scope ∧ fd.globals = mainGlobals ∧ fd.closure.map (·.1) = d.clo ∧ fd.builtins = builtinsNs := by
  obtain ⟨kp, c2⟩ := band a.c
  have e := a.e
  unfold gW at e
  cases q : K.lookup (d.ad K) with
  | none => rw [q] at c2; cases c2
  | some o =>
    obtain ⟨oc, od, dt, osl⟩ := o
    rw [q] at c2 e
    cases dt with
    | func fd =>
      obtain ⟨k1, k2⟩ := band c2
      have e2 : (some (fd.name, fd.qualname, fd.params, fd.body, fd.scope, fd.globals, fd.closure.map (·.1), fd.builtins) : GW) = some (d.name, d.qual, d.params, .stmts d.body, d.scope, mainGlobals, d.clo, builtinsNs) := e
      simp only [Option.some.injEq, Prod.mk.injEq] at e2
      obtain ⟨h1, h2, h3, h4, h5, h6, h7, h8⟩ := e2
      exact ⟨oc, od, osl, fd, rfl, kp, k1, k2, h1, h2, h3, h4, h5, h6, h7, h8⟩
    | _ => cases c2
theorem DefG.At.funD {K : PySem.W.Frag} {d : DefG} (a : d.At K) (hc : d.clo = []) : ∃ fd, FunD K d.name d.qual d.params d.body d.scope (d.dfl.map (He.Dv.v K)) [] (d.ad K) fd := by
  obtain ⟨oc, od, osl, fd, lk, kp, hcd, hdf, h1, h2, h3, h4, h5, h6, h7, h8⟩ := a.look
  rw [hc] at h7
  obtain ⟨n1, n2, n3, n4, n5, n6, n7, n8, n9, n10, n11, n12, n13, n14, n15⟩ := fd
  have h9 : n7 = [] := List.map_eq_nil_iff.mp h7
  subst h1 h2 h3 h4 h5 h6 h8 h9
  exact ⟨_, ⟨oc, od, n8, n9, n10, n11, n12, n13, n14, osl, rfl, lk, hcd, He.dflB_ok hdf, .inl rfl⟩, kp⟩
theorem DefG.At.funC {K : PySem.W.Frag} {d : DefG} (a : d.At K) (hc : d.clo = [("__class__" : Str)]) (hd : d.dfl = []) : ∃ (oc : Value) (od : Option Addr) (osl : Array (Option Value)) (kV doc pm : Value) (an : Option Addr) (cdv ct : Value) (cc : Addr),
    K.lookup (d.ad K) = some ⟨oc, od, .func (PySem.W.ksFn d.name d.qual d.params d.body d.scope .none kV doc pm an cdv ct cc), osl⟩ ∧ PySem.W.codeIn K cdv d.qual = true := by
  obtain ⟨oc, od, osl, fd, lk, kp, hcd, hdf, h1, h2, h3, h4, h5, h6, h7, h8⟩ := a.look
  rw [hc] at h7
  rw [hd] at hdf
  obtain ⟨n1, n2, n3, n4, n5, n6, n7, n8, n9, n10, n11, n12, n13, n14, n15⟩ := fd
  match n7, h7 with
  | [(x, cc)], h7 =>
    have hx : x = ("__class__" : Str) := (List.cons.inj h7).1
    subst h1 h2 h3 h4 h5 h6 h8 hx
    have hn : n8 = .none := by
      cases n8 with
      | none => rfl
      | _ => cases hdf
    subst hn
    exact ⟨oc, od, osl, n9, n10, n11, n12, n13, n14, cc, lk, hcd⟩
/-! ### exceptions -/
def clsB (K : PySem.W.Frag) (C : Addr) : Bool := match K.lookup C with
  | some ⟨.type t, _, .cls cd, sl⟩ => (match cd.mro, sl.toList with
    | .ref C' :: bm, [_, _, _, _, some (.builtin n), _] => decide (t = "type") && (C' == C && (n == "ValueError.__new__" && (!cd.hasDel && (cd.hasDict && HandSPX.refsVE bm))))
    | _, _ => false)
  | _ => false
theorem clsB_ok {K : PySem.W.Frag} {C : Addr} (h : clsB K C = true) : ∃ nm q N bs bm sn sub ab col dd k0 k1 k2 k3 k5, K.lookup C = some (excClassObj nm q C N bs bm true sn sub ab col dd k0 k1 k2 k3 k5 "ValueError.__new__") ∧ HandSPX.refsVE bm = true := by
  unfold clsB at h
  split at h
  · rename_i t dd cd sl ho
    split at h
    · rename_i C' bm k0 k1 k2 k3 n k5 hm hs
      obtain ⟨h1, h⟩ := band h
      obtain ⟨h2, h⟩ := band h
      obtain ⟨h3, h⟩ := band h
      obtain ⟨h4, h⟩ := band h
      obtain ⟨h5, h6⟩ := band h
      have e1 := of_decide_eq_true h1
      have e2 := beq_iff_eq.mp h2
      have e3 := beq_iff_eq.mp h3
      obtain ⟨nm, bs, mro, ns, qn, hd, sn, sub, ab, col, del⟩ := cd
      dsimp only at hm h4 h5
      have e4 : del = false := by simpa using h4
      subst e1 e2 e3 e4 hm h5
      have hsl : sl = #[k0, k1, k2, k3, some (.builtin "ValueError.__new__"), k5] := by
        obtain ⟨l⟩ := sl
        simp only at hs
        rw [hs]
      subst hsl
      exact ⟨nm, qn, ns, bs, bm, sn, sub, ab, col, dd, k0, k1, k2, k3, k5, ho, h6⟩
    · cases h
  · cases h
def eqO (a b : Option (Option Value)) : Bool := decide (a = b)
def eqB (a b : Option Bool) : Bool := decide (a = b)
/-- the cells and the code of an init -/
def cellB (file : Str) (K : PySem.W.Frag) (C fI : Addr) : Bool := match K.lookup fI with
  | some ⟨_, _, .func fd, _⟩ => (match fd.code, fd.closure with
    | .ref cda, [(_, cc)] => (match K.lookup cda, K.lookup cc with
      | some ⟨_, _, .fields vs, _⟩, some ⟨_, _, .cell (some (.ref C')), _⟩ => decide (C' = C) && (match (vs[2]? : Option Value) with
        | some (.str f _) => decide (f = file)
        | _ => false)
      | _, _ => false)
    | _, _ => false)
  | _ => false
theorem cellB_ok {file : Str} {K : PySem.W.Frag} {C fI : Addr} (h : cellB file K C fI = true) {oc : Value} {od : Option Addr} {osl : Array (Option Value)} {name qual : Str} {params : Arguments} {body : List Stmt} {scope : Scope} {dV kV doc pm : Value} {an : Option Addr} {cdv ct : Value} {cc : Addr}
    (lk : K.lookup fI = some ⟨oc, od, .func (PySem.W.ksFn name qual params body scope dV kV doc pm an cdv ct cc), osl⟩) :
    ∃ (cda : Addr) (ccl cl : Value) (cdd cld : Option Addr) (ccs csl : Array (Option Value)) (vs : Array Value) (tf : Tok), cdv = .ref cda ∧ K.lookup cda = some ⟨ccl, cdd, .fields vs, ccs⟩ ∧ vs[2]? = some (.str file tf) ∧ K.lookup cc = some ⟨cl, cld, .cell (some (.ref C)), csl⟩ := by
  unfold cellB at h
  rw [lk] at h
  cases cdv with
  | ref cda =>
    have h' : (match K.lookup cda, K.lookup cc with
      | some ⟨_, _, .fields vs, _⟩, some ⟨_, _, .cell (some (.ref C')), _⟩ => decide (C' = C) && (match (vs[2]? : Option Value) with
        | some (.str f _) => decide (f = file)
        | _ => false)
      | _, _ => false) = true := h
    split at h'
    · rename_i o1 d1 vs s1 o2 d2 C' s2 e1 e2
      obtain ⟨h1, h2⟩ := band h'
      have eC := of_decide_eq_true h1
      split at h2
      · rename_i f tf hv
        have ef := of_decide_eq_true h2
        subst eC ef
        exact ⟨cda, o1, o2, d1, d2, s1, s2, vs, tf, rfl, e1, hv, e2⟩
      · cases h2
    · cases h'
  | _ => cases h
/-- all but the text of an exception class and its init -/
def supB (file : Str) (K : PySem.W.Frag) (C fI : Addr) (fs : List Str) : Bool :=
  clsB K C && (cellB file K C fI && (eqO (PySem.W.findIn K (.ref C) "__setattr__") (some (some (.builtin "object.__setattr__"))) && (fs.all (fun f => eqO (PySem.W.findIn K (.ref C) f) (some none)) &&
  (eqO (PySem.W.findIn K (.ref C) "__init__") (some (some (.ref fI))) && (eqO (PySem.W.ks_superIn K C C "__init__") (some (some (.builtin "ValueError.__init__"))) && (decide (PySem.W.typeIn K (.ref fI) = some (.type "function")) &&
  (PySem.W.keepIn K (.ref C) && (eqB (PySem.W.subIn K (.ref C) (.type "BaseException")) (some true) && (eqB (PySem.W.subIn K (.ref C) (.type "ValueError")) (some true) && (eqB (PySem.W.mroIn K C (.ref C)) (some true) &&
  (decide (PySem.W.typeIn K (.ref C) = some (.type "type")) && eqO (PySem.W.nsIn K cStatics "thirdparty.any") (some none))))))))))))
theorem supB_ok {prog : Program} {K : PySem.W.Frag} {C : Addr} {st : Stmt} {fs : List Str} {d : DefG} (h : supB prog.main.file K C (d.ad K) fs = true) (a : d.At K) (hn : d.name = "__init__") (hp : d.params = defArgs st) (hb : d.body = defBody st) (hs : d.scope = defScope st)
    (hc : d.clo = [("__class__" : Str)]) (hd : d.dfl = []) (sh : Shape st fs) (nt : (prog.main.scope.names.lookup ("super" : Str)).isSome = false) : SupTxt prog K C (d.ad K) st fs := by
  obtain ⟨h1, h⟩ := band h
  obtain ⟨h2, h⟩ := band h
  obtain ⟨h3, h⟩ := band h
  obtain ⟨h4, h⟩ := band h
  obtain ⟨h5, h⟩ := band h
  obtain ⟨h6, h⟩ := band h
  obtain ⟨h7, h⟩ := band h
  obtain ⟨h8, h⟩ := band h
  obtain ⟨h9, h⟩ := band h
  obtain ⟨h10, h⟩ := band h
  obtain ⟨h11, h⟩ := band h
  obtain ⟨h12, h13⟩ := band h
  obtain ⟨oc, od, osl, kV, doc, pm, an, cdv, ct, cc, lk, hcd⟩ := a.funC hc hd
  rw [hn, hp, hb, hs] at lk
  obtain ⟨cda, ccl, cl, cdd, cld, ccs, csl, vs, tf, rfl, l1, l2, l3⟩ := cellB_ok h2 lk
  exact ⟨sh, nt, clsB_ok h1, of_decide_eq_true h3, fun f hf => of_decide_eq_true (List.all_eq_true.mp h4 f hf), of_decide_eq_true h5, of_decide_eq_true h6, of_decide_eq_true h7, h8, of_decide_eq_true h9, of_decide_eq_true h10, of_decide_eq_true h11, of_decide_eq_true h12, of_decide_eq_true h13,
    ⟨oc, cl, ccl, od, cld, cdd, pm, doc, ct, kV, an, osl, csl, ccs, cda, cc, vs, tf, d.qual, lk, hcd, l1, l2, l3⟩⟩

/-! ### the Hook -/
abbrev AlS : Type := Bool × (List GW × List (Option (List (Option (Str × Int)))))
def asS (g : Addr → Option Obj) (n : Nat) : List Addr := He.asD g n ++ [cStatics]
def obsK (fa : List He.Fa) (dg : List DefG) (ts : List He.Tab) (tf : List He.Defn) (ex : PySem.W.Frag → Bool) (g : Addr → Option Obj) (K : PySem.W.Frag) : AlS :=
  ((fa.all fun f => f.ok K) && ((dg.all fun d => d.ok K) && (ex K && He.tabsB g tf K)), dg.map (gW K), ts.map fun t => He.dicW K (t.1 K))
def obsS (n : Nat) (fa : List He.Fa) (dg : List DefG) (ts : List He.Tab) (tf : List He.Defn) (ex : PySem.W.Frag → Bool) (g : Addr → Option Obj) : AlS := obsK fa dg ts tf ex g (He.frT g (asS g n))
def valS (dg : List DefG) (ts : List He.Tab) (w : World) : AlS := (true, dg.map DefG.val, ts.map fun t => some (He.keysIn w.params t.2))
structure SaysS (fa : List He.Fa) (dg : List DefG) (ts : List He.Tab) (tf : List He.Defn) (ex : PySem.W.Frag → Bool) (w : World) (h : Heap) (K : PySem.W.Frag) : Prop where
  fa : ∀ f ∈ fa, f.ok K = true
  dg : ∀ d ∈ dg, d.At K
  ex : ex K = true
  ts : ∀ t ∈ ts, ∃ es n, KDict K w (t.1 K) es n
  hd : ∀ p ∈ tf, PySem.W.codeHdIn K (He.cT K p).1 (He.cT K p).2 = true
  out : ∀ p ∈ tf, K.lookup (He.cT K p).2 = none
  empty : ∀ p ∈ tf, h.get? (He.cT K p).2 = some { cls := .none, data := .fields #[] }
theorem saysS_of {n : Nat} {fa : List He.Fa} {dg : List DefG} {ts : List He.Tab} {tf : List He.Defn} {ex : PySem.W.Frag → Bool} {w : World} {h : Heap} (e : obsS n fa dg ts tf ex h.get? = valS dg ts w) : SaysS fa dg ts tf ex w h (He.frT h.get? (asS h.get? n)) := by
  have e1 : ((fa.all fun f => f.ok (He.frT h.get? (asS h.get? n))) && ((dg.all fun d => d.ok (He.frT h.get? (asS h.get? n))) && (ex (He.frT h.get? (asS h.get? n)) && He.tabsB h.get? tf (He.frT h.get? (asS h.get? n))))) = true := congrArg (fun z : AlS => z.1) e
  have e2 : dg.map (gW (He.frT h.get? (asS h.get? n))) = dg.map DefG.val := congrArg (fun z : AlS => z.2.1) e
  have e3 : (ts.map fun t => He.dicW (He.frT h.get? (asS h.get? n)) (t.1 (He.frT h.get? (asS h.get? n)))) = ts.map fun t => some (He.keysIn w.params t.2) := congrArg (fun z : AlS => z.2.2) e
  obtain ⟨c1, c⟩ := band e1
  obtain ⟨c2, c⟩ := band c
  obtain ⟨c3, c4⟩ := band c
  have key : ∀ p ∈ tf, PySem.W.codeHdIn (He.frT h.get? (asS h.get? n)) (He.cT (He.frT h.get? (asS h.get? n)) p).1 (He.cT (He.frT h.get? (asS h.get? n)) p).2 = true ∧ ∃ o, h.get? (He.cT (He.frT h.get? (asS h.get? n)) p).2 = some o ∧ He.emptyTab o = true := fun p hp => by
    obtain ⟨h3, h4⟩ := band (List.all_eq_true.mp c4 p hp)
    refine ⟨h3, ?_⟩
    cases q : h.get? (He.cT (He.frT h.get? (asS h.get? n)) p).2 with
    | none => rw [q] at h4; cases h4
    | some o => rw [q] at h4; exact ⟨o, rfl, h4⟩
  refine ⟨fun f hf => List.all_eq_true.mp c1 f hf, fun d hd => ⟨List.map_inj_left.mp e2 d hd, List.all_eq_true.mp c2 d hd⟩, c3, fun t ht => He.dicW_ok (List.map_inj_left.mp e3 t ht), fun p hp => (key p hp).1, fun p hp => ?_, fun p hp => ?_⟩
  · obtain ⟨_, o, q, z⟩ := key p hp
    exact He.frT_none q z
  · obtain ⟨_, o, q, z⟩ := key p hp
    rw [q, He.emptyTab_eq z]
def hookS (n : Nat) (fa : List He.Fa) (dg : List DefG) (ts : List He.Tab) (tf : List He.Defn) (ex : PySem.W.Frag → Bool) : PySem.W.Hook where
  α := AlS
  obs := fun s => obsS n fa dg ts tf ex s.heap.get?
  val := fun w => valS dg ts w
  says := fun w h => ∃ K : PySem.W.Frag, K.In h ∧ SaysS fa dg ts tf ex w h K
  of := fun _ _ e => ⟨_, He.frT_in, saysS_of e⟩
  keeps := fun _ _ _ ⟨K, hK, c⟩ k => ⟨K, PySem.W.Frag.In.keeps hK k, ⟨c.fa, c.dg, c.ex, c.ts, c.hd, c.out, fun p hp => k _ _ (c.empty p hp)⟩⟩
theorem obsS_eq {n : Nat} {fa : List He.Fa} {dg : List DefG} {ts : List He.Tab} {tf : List He.Defn} {ex : PySem.W.Frag → Bool} {g : Addr → Option Obj} {s : Shared} (h : ∀ a, g a = s.heap.get? a) : obsS n fa dg ts tf ex g = (hookS n fa dg ts tf ex).obs s := by
  have e : g = s.heap.get? := funext h
  rw [e] <;> rfl
end SB

end
section
set_option maxHeartbeats 1000000
/-! Calls of the text's defs by their promises. -/
namespace SB
open PySem PySem.Spec PyProof.Rows L2 SBX

/-- the global def x keeps the promise sp -/
structure CallOk (P : Program) (w : World) (K : PySem.W.Frag) (mg : Str → Option Value) (base : Heap) (k : Nat) (x : Str) (ps : List Str) (sp : Sp) : Prop where
  ex : ∃ (f : Addr) (fd : FuncData), FnOk P w K mg base (L2.CX P w) k f fd ps sp ∧ mg x = some (.ref f) ∧ PySem.W.keepIn K (.ref f) = true ∧ Binds K fd ps []
section
variable {P : Program} {w : World} {K : PySem.W.Frag} {mg : Str → Option Value} {base : Heap}
theorem callOk {x qual : Str} {params : Arguments} {body : List Stmt} {scope : Scope} {f : Addr} {N ps : List Str} {k : Nat} {sp : Sp} (g : mg x = some (.ref f)) (F : ∃ fd, FunD K x qual params body scope [] [] f fd) (S : FnScope N ps scope)
    (hb : ∀ (kV doc pm : Value) (an : Option Addr) (cdv ct : Value) (us : List Value), us.length = ps.length → bindArgs (PySem.W.fnOf x qual params body scope .none kV doc pm an cdv ct) ⟨us, []⟩ = pure (ps.zip us))
    (len : ∀ vs H Q E, sp vs H Q E → vs.length = ps.length)
    (hbody : ∀ (cdv : Value) (A : Around) (outer : List Env) (s : Shared) (H : Hp) (vs : List V) (Q : VK) (E : XK), Room k (A.deeper (envOfC qual scope s.heap.objs.size f cdv)) → sp vs H Q E →
      ∃ t, PSs (cxOf (L2.CX P w) P w K mg base N qual scope f cdv A outer s H E) body t ∧ t { nx := fun _ H' => Q .non H', rt := Q } (start N vs) H) : CallOk P w K mg base (k + 1) x ps sp := by
  obtain ⟨fd, F⟩ := F
  exact ⟨f, fd, F.ok S len hbody, g, F.kp, F.bindsN hb⟩
theorem CallOk.mono {j k : Nat} {x : Str} {ps : List Str} {sp : Sp} (c : CallOk P w K mg base j x ps sp) (h : j ≤ k) : CallOk P w K mg base k x ps sp := by
  obtain ⟨f, fd, F, g, kp, b⟩ := c.ex
  exact ⟨f, fd, F.mono h, g, kp, b⟩
theorem CallOk.imp {k : Nat} {x : Str} {ps : List Str} {sp sp' : Sp} (c : CallOk P w K mg base k x ps sp) (h : ∀ vs H Q E, sp' vs H Q E → sp vs H Q E) : CallOk P w K mg base k x ps sp' := by
  obtain ⟨f, fd, F, g, kp, b⟩ := c.ex
  exact ⟨f, fd, F.imp h, g, kp, b⟩
/-- what a callee lets out this def lets out -/
theorem passE {N : List Str} {qual : Str} {scope : Scope} {f : Addr} {cdv : Value} {A : Around} {outer : List Env} {s : Shared} {H : Hp} {E : XK} : Passes (L2.CX P w) (cxOf (L2.CX P w) P w K mg base N qual scope f cdv A outer s H E) E :=
  passes_call (takes_of rfl rfl rfl rfl) (fun _ _ _ _ h => h)
end
section
variable {X : Cx} {k : Nat} {x : Str} {ps : List Str} {sp : Sp} {E : XK} {p pos : Pos} {e : Expr} {es : List Expr} {t : TA}
theorem pe_callD (C : CallOk X.prog X.w X.K X.mg X.base k x ps sp) (hr : Room k X.A) (hx : Passes (L2.CX X.prog X.w) X E) (ha : PA X (e :: es) t) (hg : Gl X x := by rfl)
    (hdb : (x == ("__debug__" : Str)) = false := by decide) (he : starEach (e :: es) X.env = (false, eval e X.env) :: starEach es X.env := by rfl) (hpl : (backTo pos (starEach es X.env)).any (·.1) = false := by rfl) :
    PE X (.Call (.Name x p) (e :: es) [] pos) (tCall sp [] E t) := by
  obtain ⟨f, fd, F, g, kp, b⟩ := C.ex
  exact pe_call F hr hg g kp b .nil hx ha hdb he hpl
theorem pe_callD0 (C : CallOk X.prog X.w X.K X.mg X.base k x ps sp) (hr : Room k X.A) (hx : Passes (L2.CX X.prog X.w) X E) (hg : Gl X x := by rfl)
    (hdb : (x == ("__debug__" : Str)) = false := by decide) : PE X (.Call (.Name x p) [] [] pos) (tCall sp [] E tNil) := by
  obtain ⟨f, fd, F, g, kp, b⟩ := C.ex
  exact pe_call0 F hr hg g kp b .nil hx hdb
end
end SB

end
section
set_option maxHeartbeats 1000000
/-! Facts of classes and exceptions, from checks. -/
namespace SB
open PySem PySem.Spec PyProof.Rows L2 SBX

def scB (sc : Scope) (fs : List Str) : Bool :=
  decide (sc.names.lookup ("self" : Str) = some .local) && (fs.all (fun f => decide (sc.names.lookup f = some .local) && (!(decide (f = "self")) && !(f == ("__debug__" : Str)))) && (decide (sc.names.lookup ("super" : Str) = some .globalImplicit) &&
  (decide (sc.names.lookup ("__class__" : Str) = some .free) && (sc.names.all (fun x => !(decide (x.2 = .cell))) && (decide (sc.kind = .function) && (!sc.isCoroutine && !sc.isGenerator))))))
theorem shape_of {st : Stmt} {fs : List Str} {msg : Str} {kk : Nat} {p0 p1 p2 p3 p4 p5 : Pos} {qs : List (Pos × Pos × Pos × Pos)} (hl : fs.length = qs.length) (hb : defBody st = supS msg kk p0 p1 p2 p3 p4 p5 :: List.zipWith asgF fs qs) (hp : (p2.endLine == p4.line) = true)
    (hh : ∃ ar, ((defArgs st).posonlyargs ++ (defArgs st).args).head? = some ar ∧ ar.arg = "self") (hs : scB (defScope st) fs = true) : Shape st fs := by
  obtain ⟨h1, h⟩ := band hs
  obtain ⟨h2, h⟩ := band h
  obtain ⟨h3, h⟩ := band h
  obtain ⟨h4, h⟩ := band h
  obtain ⟨h5, h⟩ := band h
  obtain ⟨h6, h⟩ := band h
  obtain ⟨h7, h8⟩ := band h
  refine ⟨⟨msg, kk, p0, p1, p2, p3, p4, p5, qs, hl, hp, hb⟩, hh, of_decide_eq_true h1, fun f hf => ?_, of_decide_eq_true h3, of_decide_eq_true h4, fun x hx => ?_, of_decide_eq_true h6, by simpa using h7, by simpa using h8⟩
  · obtain ⟨k1, k⟩ := band (List.all_eq_true.mp h2 f hf)
    obtain ⟨k2, k3⟩ := band k
    exact ⟨of_decide_eq_true k1, by simpa using k2, by simpa using k3⟩
  · simpa using List.all_eq_true.mp h5 x hx
theorem shape1 {st : Stmt} {f : Str} {msg : Str} {kk : Nat} {p0 p1 p2 p3 p4 p5 a b c d : Pos} (hb : defBody st = [supS msg kk p0 p1 p2 p3 p4 p5, asgF f (a, b, c, d)]) (hp : (p2.endLine == p4.line) = true)
    (hh : ∃ ar, ((defArgs st).posonlyargs ++ (defArgs st).args).head? = some ar ∧ ar.arg = "self") (hs : scB (defScope st) [f] = true) : Shape st [f] := shape_of (qs := [(a, b, c, d)]) rfl hb hp hh hs
theorem shape2 {st : Stmt} {f g : Str} {msg : Str} {kk : Nat} {p0 p1 p2 p3 p4 p5 a b c d a' b' c' d' : Pos} (hb : defBody st = [supS msg kk p0 p1 p2 p3 p4 p5, asgF f (a, b, c, d), asgF g (a', b', c', d')]) (hp : (p2.endLine == p4.line) = true)
    (hh : ∃ ar, ((defArgs st).posonlyargs ++ (defArgs st).args).head? = some ar ∧ ar.arg = "self") (hs : scB (defScope st) [f, g] = true) : Shape st [f, g] := shape_of (qs := [(a, b, c, d), (a', b', c', d')]) rfl hb hp hh hs

section
variable {prog : Program} {w : World} {K : PySem.W.Frag} {C fI : Addr} {st : Stmt}
theorem supOk1 {f : Str} (T : SupTxt prog K C fI st [f]) (hf : f ≠ "self")
    (hb : ∀ (qual : Str) (pm doc ct kV : Value) (an : Option Addr) (cdv : Value) (cc : Addr) (x : Addr) (u : Value), bindArgs (PySem.W.ksFn "__init__" qual (defArgs st) (defBody st) (defScope st) .none kV doc pm an cdv ct cc) ⟨[.ref x, u], []⟩ = pure [(("self" : Str), .ref x), (f, u)]) :
    SupOk prog w K C fI st [f] where
  T := T
  tail := fun us qs h1 h2 => match us, qs, h1, h2 with
    | [u], [q], _, _ => tail1 T
  m0 := fun us h1 x => match us, h1 with
    | [u], _ => by
      show ([(f, u), (("self" : Str), Value.ref x)] : List (Str × Value)).lookup ("self" : Str) = _
      rw [lk_ne hf.symm, lk_self]
  m1 := fun us h1 x p hp => match us, h1 with
    | [u], _ => by
      have e : p = (f, u) := by simpa using hp
      rw [e]
      show ([(f, u), (("self" : Str), Value.ref x)] : List (Str × Value)).lookup f = _
      rw [lk_self]
  bind := fun us h1 x s fd hfd => match us, h1 with
    | [u], _ => by
      obtain ⟨qual, pm, doc, ct, kV, an, cdv, cc, rfl⟩ := hfd
      exact .of_eq (hb _ _ _ _ _ _ _ _ _ _)
  few := by show 1 ≤ 2; decide
theorem supOk2 {f g : Str} (T : SupTxt prog K C fI st [f, g]) (hf : f ≠ "self") (hg : g ≠ "self") (hfg : f ≠ g)
    (hb : ∀ (qual : Str) (pm doc ct kV : Value) (an : Option Addr) (cdv : Value) (cc : Addr) (x : Addr) (u v : Value), bindArgs (PySem.W.ksFn "__init__" qual (defArgs st) (defBody st) (defScope st) .none kV doc pm an cdv ct cc) ⟨[.ref x, u, v], []⟩ = pure [(("self" : Str), .ref x), (f, u), (g, v)]) :
    SupOk prog w K C fI st [f, g] where
  T := T
  tail := fun us qs h1 h2 => match us, qs, h1, h2 with
    | [u, v], [q, q'], _, _ => tail2 T hfg
  m0 := fun us h1 x => match us, h1 with
    | [u, v], _ => by
      show ([(g, v), (f, u), (("self" : Str), Value.ref x)] : List (Str × Value)).lookup ("self" : Str) = _
      rw [lk_ne hg.symm, lk_ne hf.symm, lk_self]
  m1 := fun us h1 x p hp => match us, h1 with
    | [u, v], _ => by
      have e : p = (f, u) ∨ p = (g, v) := by simpa using hp
      show ([(g, v), (f, u), (("self" : Str), Value.ref x)] : List (Str × Value)).lookup p.1 = _
      rcases e with rfl | rfl
      · rw [lk_ne hfg, lk_self]
      · rw [lk_self]
  bind := fun us h1 x s fd hfd => match us, h1 with
    | [u, v], _ => by
      obtain ⟨qual, pm, doc, ct, kV, an, cdv, cc, rfl⟩ := hfd
      exact .of_eq (hb _ _ _ _ _ _ _ _ _ _ _)
  few := by show 2 ≤ 2; decide
end

def excCB (K : PySem.W.Frag) (D : Addr) : Bool :=
  eqO (PySem.W.findIn K (.ref D) "__getattribute__") (some (some (.builtin "BaseException.__getattribute__"))) && (eqO (PySem.W.findIn K (.ref D) "__getattr__") (some none) && (eqB (PySem.W.subIn K (.ref D) (.type "BaseException")) (some true) && (PySem.W.hasDictIn K D &&
  (eqO (PySem.W.findIn K (.ref D) "__class__") (some (some (.builtin "object.__class__"))) && (eqO (PySem.W.specialIn K (.builtin "object.__class__") "__get__") (some (some (.builtin "getset_descriptor.__get__"))) && (eqB (PySem.W.takesIn K (.builtin "object.__class__")) (some true) &&
  eqB (PySem.W.mroIn K D (.type "object")) (some true)))))))
theorem excCB_ok {K : PySem.W.Frag} {D : Addr} (h : excCB K D = true) : ExcC K D := by
  obtain ⟨h1, h⟩ := band h
  obtain ⟨h2, h⟩ := band h
  obtain ⟨h3, h⟩ := band h
  obtain ⟨h4, h⟩ := band h
  obtain ⟨h5, h⟩ := band h
  obtain ⟨h6, h⟩ := band h
  obtain ⟨h7, h8⟩ := band h
  exact ⟨of_decide_eq_true h1, of_decide_eq_true h2, of_decide_eq_true h3, h4, of_decide_eq_true h5, of_decide_eq_true h6, of_decide_eq_true h7, of_decide_eq_true h8⟩
/-- what isinstance asks of a plain own class -/
structure TyC (K : PySem.W.Frag) (C : Addr) : Prop where
  ha : PySem.W.findIn K (.ref C) "__class__" = some (some (.builtin "object.__class__"))
  hn : PySem.W.specialIn K (.builtin "object.__class__") "__get__" = some (some (.builtin "getset_descriptor.__get__"))
  ht : PySem.W.takesIn K (.builtin "object.__class__") = some true
  hm : PySem.W.mroIn K C (.type "object") = some true
def tyB (K : PySem.W.Frag) (C : Addr) : Bool := eqO (PySem.W.findIn K (.ref C) "__class__") (some (some (.builtin "object.__class__"))) && (eqO (PySem.W.specialIn K (.builtin "object.__class__") "__get__") (some (some (.builtin "getset_descriptor.__get__"))) &&
  (eqB (PySem.W.takesIn K (.builtin "object.__class__")) (some true) && eqB (PySem.W.mroIn K C (.type "object")) (some true)))
theorem tyB_ok {K : PySem.W.Frag} {C : Addr} (h : tyB K C = true) : TyC K C := by
  obtain ⟨h1, h⟩ := band h
  obtain ⟨h2, h⟩ := band h
  obtain ⟨h3, h4⟩ := band h
  exact ⟨of_decide_eq_true h1, of_decide_eq_true h2, of_decide_eq_true h3, of_decide_eq_true h4⟩
theorem TyC.ins {K : PySem.W.Frag} {H : Hp} {C a dx : Addr} {fs : List (Str × V)} (t : TyC K C) (c : Cls K C) (e : H a = some (.ins C dx fs)) : TyZ K H (.ref a) (.ref C) := .base (.base (.ins e c t.ha t.hn t.ht t.hm))

/-- a static method's def -/
def sAd (K : PySem.W.Frag) (C : Addr) (m : Str) : Addr := He5.wf K C "staticmethod" m
def statB (K : PySem.W.Frag) (C : Addr) (m : Str) : Bool := He5.wrapB K C "staticmethod" "staticmethod.__get__" m && (PySem.W.readsIn K C (.type "type") && eqO (PySem.W.specialIn K (.ref C) "__getattribute__") (some (some (.builtin "type.__getattribute__"))))
/-- C.m is a static method, its def at g -/
structure SMet (K : PySem.W.Frag) (C : Addr) (m : Str) (g : Addr) : Prop where
  rd : PySem.W.readsIn K C (.type "type") = true
  ga : PySem.W.specialIn K (.ref C) "__getattribute__" = some (some (.builtin "type.__getattribute__"))
  ex : ∃ p, PySem.W.findCls K (.ref C) (.type "type") m = some (.get (.builtin "staticmethod.__get__") (.ref p) .none (.ref C)) ∧ ∃ rest, PySem.W.recIn K p "staticmethod" = some (.ref g :: rest)
theorem statB_ok {K : PySem.W.Frag} {C : Addr} {m : Str} (h : statB K C m = true) : SMet K C m (sAd K C m) := by
  obtain ⟨h1, h⟩ := band h
  obtain ⟨h2, h3⟩ := band h
  exact ⟨h2, of_decide_eq_true h3, ⟨_, He5.wrapB_ok h1⟩⟩
end SB
namespace L2
open PySem PySem.Spec PyProof.Rows SBX SB
section
variable {X : Cx} {pins : List (Addr × Obj)} {σ : St} {H : Hp} {s : Shared} {C g : Addr} {m : Str} {A : Around} {E : Value → Shared → Prop}
theorem getsm_ok {b : Bool} {Q : Value → Shared → Prop} (I : Inv X pins σ H s) (k : SMet X.K C m g) (h : ∀ s', Inv X pins σ H s' → Q (.ref g) s') : wpAny (model X.prog X.w) A (getAttr (.ref C) m b) Q E s := by
  obtain ⟨p, hf, rest, hp⟩ := k.ex
  refine PySem.W.cls_bind I.kIn k.rd hf ?_
  exact wpAny_call (PySem.W.sm_get (s := { s with toks := s.toks + 1 }) I.kIn hp (PySem.W.handed_on rfl (h _ (I.tok _))))
theorem getmethsm_ok {pl : Sem Bool} {Q : Value × List Value → Shared → Prop} (I : Inv X pins σ H s) (k : SMet X.K C m g) (h : ∀ s', Inv X pins σ H s' → Q (.ref g, []) s') : wpAny (model X.prog X.w) A (getMethod (.ref C) m pl) Q E s :=
  PySem.W.method_cls I.kIn k.ga (getsm_ok I k h)
end
/-- e.m(..), e the class at C, m a static method -/
def tSMeth (C : Addr) (sp : Sp) (E : XK) (ta : TE) (t : TA) : TE := fun σ H Q => ta σ H fun x H1 => x = .ref C ∧ t σ H1 fun vs H2 => sp vs H2 Q E
/-- .. by keywords alone -/
def tSMethK (C : Addr) (m : Nat) (sp : Sp) (E : XK) (ta : TE) (tk : TA) : TE := fun σ H Q => ta σ H fun x H1 => x = .ref C ∧ tk σ H1 fun zs H2 => zs.length = m ∧ sp zs H2 Q E
section
variable {X : Cx} {CX : CXT} {k : Nat} {C g : Addr} {fd : FuncData} {ps ks : List Str} {sp : Sp} {E : XK} {o e : Expr} {es : List Expr} {kws : List Keyword} {m : Str} {pos apos : Pos} {ta : TE} {t tk : TA} {pl : Sem Bool}
theorem pe_smeth (he : PE X o ta) (c : SMet X.K C m g) (F : FnOk X.prog X.w X.K X.mg X.base CX k g fd ps sp) (hk : PySem.W.keepIn X.K (.ref g) = true) (hb : Binds X.K fd ps []) (hr : Room k X.A) (hx : Passes CX X E) (ha : PA X (e :: es) t)
    (hst : starEach (e :: es) X.env = (false, eval e X.env) :: starEach es X.env := by rfl) (hpl : (backTo pos (starEach es X.env)).any (·.1) = false := by rfl)
    (ht : eval (.Call (.Attribute o m apos) (e :: es) [] pos) X.env = (do
      let ov ← eval o X.env
      standAt apos.atName
      let (f, first) ← holding [ov] (getMethod ov m pl)
      callWith pos f first (backTo pos (starEach (e :: es) X.env)) (backToKw pos (keywordEach [] X.env))) := by rfl) :
    PE X (.Call (.Attribute o m apos) (e :: es) [] pos) (tSMeth C sp E ta t) := by
  refine ⟨fun pins s σ H Q I h => ?_⟩
  refine PySem.W.methodCall_KW (pl := pl) (thn (he.run pins s σ H _ I h) fun u s1 ⟨x, H1, I1, rx, ex, q⟩ => ?_) ht
  subst ex
  obtain rfl : u = Value.ref C := rx
  refine getmethsm_ok I1 c fun s2 I2 => ?_
  refine PySem.W.callWith_K (h₀ := X.base) I.ok.mod.kin hk (thn (ha.run pos pins s2 σ H1 _ I2 q) fun us s3 ⟨vs, H2, I3, r, q2⟩ => ⟨I3.kIn, ?_⟩) hst hpl
  have z := run_fn (ds := []) (dvs := []) F hr hb .nil hx I3 r (by rw [List.append_nil]; exact q2)
  exact z
/-- how keywords alone bind -/
structure KOnly (fd : FuncData) (ps ks : List Str) : Prop where
  to : ∀ (s : Shared) (ws : List Value), ws.length = ks.length → BindsTo s fd ⟨[], ks.zip ws⟩ (ps.zip ws)
theorem pe_smethK (he : PE X o ta) (c : SMet X.K C m g) (F : FnOk X.prog X.w X.K X.mg X.base CX k g fd ps sp) (hk : PySem.W.keepIn X.K (.ref g) = true) (hb : KOnly fd ps ks) (hr : Room k X.A) (hx : Passes CX X E) (hkw : PK X kws tk)
    (hall : (backToKw pos (keywordEach kws X.env)).all (·.1.isSome) = true := by rfl) (hks : (backToKw pos (keywordEach kws X.env)).filterMap (·.1) = ks := by rfl)
    (hpl : ((backTo pos (starEach [] X.env)).any (·.1) || (backToKw pos (keywordEach kws X.env)).any (·.1.isNone)) = false := by rfl)
    (ht : eval (.Call (.Attribute o m apos) [] kws pos) X.env = (do
      let ov ← eval o X.env
      standAt apos.atName
      let (f, first) ← holding [ov] (getMethod ov m pl)
      callWith pos f first (backTo pos (starEach [] X.env)) (backToKw pos (keywordEach kws X.env))) := by rfl) :
    PE X (.Call (.Attribute o m apos) [] kws pos) (tSMethK C ks.length sp E ta tk) := by
  refine ⟨fun pins s σ H Q I h => ?_⟩
  refine PySem.W.methodCall_KW (pl := pl) (thn (he.run pins s σ H _ I h) fun u s1 ⟨x, H1, I1, rx, ex, q⟩ => ?_) ht
  subst ex
  obtain rfl : u = Value.ref C := rx
  refine getmethsm_ok I1 c fun s2 I2 => ?_
  refine PySem.W.callWith_KW0 (h₀ := X.base) I.ok.mod.kin hk hall ?_ hpl
  refine thn (hkw.run pos pins s2 σ H1 _ I2 q) fun ws s3 ⟨zs, H2, I3, rz, l2, q2⟩ => ⟨I3.kIn, ?_⟩
  rw [hks]
  have hl : ws.length = ks.length := rz.length.symm.trans l2
  refine wpAny_call (codeAny_mono (F.run X.A X.stack s3 H2 ⟨[], ks.zip ws⟩ ws zs Q E hr I3.env0 (hb.to s3 ws hl) rz q2) fun r s' hq => ?_)
  cases r with
  | error e => exact hx pins σ H2 s3 e s' I3 hq
  | ok fl =>
    cases fl with
    | ret u => exact I3.after hq
    | next => exact False.elim hq
    | brk => exact False.elim hq
    | cont => exact False.elim hq
/-- C(k = v, ..): keywords alone -/
theorem pe_makeK {x : Str} {p : Pos} {fI : Addr} {gf : List Value → List Value → List Value} {gV : List V → List V → List V} (M : Mk X.K C fI) (F : FnOk X.prog X.w X.K X.mg X.base CX k fI fd ps sp) (hr : Room (k + 1) X.A) (hm : X.mg x = some (.ref C)) (hb : KBn X.K fd ps 1 ks gf gV) (hx : Passes CX X E) (hkw : PK X kws tk) (hg : Gl X x := by rfl)
    (hall : (backToKw pos (keywordEach kws X.env)).all (·.1.isSome) = true := by rfl) (hks : (backToKw pos (keywordEach kws X.env)).filterMap (·.1) = ks := by rfl)
    (hdb : (x == ("__debug__" : Str)) = false := by decide) (hpl : ((backTo pos (starEach [] X.env)).any (·.1) || (backToKw pos (keywordEach kws X.env)).any (·.1.isNone)) = false := by rfl) :
    PE X (.Call (.Name x p) [] kws pos) (tMakeN C 0 ks.length sp gV E tNil tk) := by
  refine ⟨fun pins s σ H Q I h => ?_⟩
  refine wpAny_Call_Name_kw (ld_glob I hg hm ?_ hdb)
  refine PySem.W.callWith_KW0 (h₀ := X.base) I.ok.mod.kin M.kp hall ?_ hpl
  have h' : tk σ H fun zs H2 => ([] : List V).length = 0 ∧ zs.length = ks.length ∧ ∀ x dx, H2 x = none → H2 dx = none → dx ≠ x → sp (gV [.ref x] zs) (upd (upd H2 dx (.own x)) x (.ins C dx [])) (fun v H3 => v = .non ∧ Q (.ref x) H3) E := h
  refine thn (hkw.run pos pins s σ H _ I h') fun ws s2 ⟨zs, H2, I2, rz, l1, l2, q2⟩ => ⟨I2.kIn, ?_⟩
  rw [hks]
  exact run_makeN M F hr hb hx I2 .nil rz l1 l2 q2
end
end L2

end
section
set_option maxHeartbeats 1000000
/-! An own object walked, measured, told. -/
namespace SB
open PySem PySem.Spec PyProof.Rows L2 SBX

/-- the text of an iter that hands on the iter of a field -/
def itS (F : Str) (p0 p1 p2 p3 p4 : Pos) : Stmt := .Return (some (.Call (.Name "iter" p0) [.Attribute (.Name "self" p1) F p2] [] p3)) p4
def strTy (x : Str) : String := if x.cps.all (· < 128) then "str_ascii_iterator" else "str_iterator"
theorem strTy_or (x : Str) : strTy x = "str_ascii_iterator" ∨ strTy x = "str_iterator" := by
  unfold strTy
  split
  · exact .inl rfl
  · exact .inr rfl
/-- the raw promise of such a method -/
def ItRaw (P : Program) (w : World) (K : PySem.W.Frag) (mg : Str → Option Value) (base : Heap) (k : Nat) (C f : Addr) (F : Str) : Prop :=
  ∀ (A : Around) (outer : List Env) (s : Shared) (H : Hp) (a dx : Addr) (fs : List (Str × V)) (x : Str), Room k A → Env0 P w K mg base A outer s H → H a = some (.ins C dx fs) → fs.lookup F = some (.str x) →
    codeAny (model P w) A (.call (.ref f) ⟨[.ref a], []⟩) (fun r s' => match r with
      | .ok (.ret u) => ∃ it t, u = .ref it ∧ s.heap.objs.size ≤ it ∧ s'.heap.IsStrIter it (strTy x) x t 0 ∧ s'.os = s.os ∧ AllBare s'.gens ∧ Un (frs outer) [] H H s.heap s'.heap ∧ HOk P w H s'.heap
      | .ok _ => False
      | .error e => L2.CX P w outer H s (fun _ _ _ => False) e s') s
theorem noCX {P : Program} {w : World} {outer : List Env} {H : Hp} {s s' : Shared} {u : Value} (c : L2.CX P w outer H s (fun _ _ _ => False) u s') : False := by
  obtain ⟨a, B, H', cls, d, e, fl, hok, ub, na, os, ag, hE⟩ := c
  exact hE
theorem call_iterStr {prog : Program} {w : World} {A : Around} {E : Value → Shared → Prop} {s : Shared} {x : Str} {t : Tok} {Q : Value → Shared → Prop}
    (hQ : ∀ o, Obj.cls o = .type (strTy x) → o.data = .fields #[.str x t, .int 0 0] → (∀ h : Heap, (h.push o).get? h.objs.size = some o) → Q (.ref s.heap.objs.size) { s with heap := s.heap.push o }) : wpAny (model prog w) A (call (.builtin "iter") [.str x t]) Q E s := by
  refine Calls.call_function_entry (by decide +kernel) (by decide +kernel) PySem.W.kdk_entry_iter (PySem.W.kdk_args_iter _) ?_
  unfold Builtin.«iter»
  refine wpAny_bind (m := someArgs "iter" 1 2 _) (wpAny_of_eq (a := [Value.str x t]) (by first | rfl | kernel_rfl!) ?_)
  show wpAny _ _ (pyIter (.str x t) >>= _) _ _ _
  cases ha : x.cps.all (· < 128)
  · refine wpAny_bind (wpAny_pyIter_wide ha ?_)
    exact wpAny_pure ⟨_, rfl, hQ { cls := .type "str_iterator", data := .fields #[.str x t, .int 0 0] } (by unfold strTy; rw [ha]; rfl) rfl fun h => Heap.get?_push_size h rfl⟩
  · refine wpAny_bind (wpAny_pyIter_ascii ha ?_)
    exact wpAny_pure ⟨_, rfl, hQ { cls := .type "str_ascii_iterator", data := .fields #[.str x t, .int 0 0] } (by unfold strTy; rw [ha]; rfl) rfl fun h => Heap.get?_push_size h rfl⟩
section
variable {P : Program} {w : World} {K : PySem.W.Frag} {mg : Str → Option Value} {base : Heap}
theorem itRaw_of {k : Nat} {C f : Addr} {F name qual : Str} {params : Arguments} {body : List Stmt} {scope : Scope} {N : List Str} {p0 p1 p2 p3 p4 : Pos} (Fn : ∃ fd, FunD K name qual params body scope [] [] f fd) (S : FnScope ("self" :: N) ["self"] scope)
    (hb : ∀ (kV doc pm : Value) (an : Option Addr) (cdv ct : Value) (us : List Value), us.length = 1 → bindArgs (PySem.W.fnOf name qual params body scope .none kV doc pm an cdv ct) ⟨us, []⟩ = pure ([("self" : Str)].zip us))
    (hbd : body = [itS F p0 p1 p2 p3 p4]) (cl : Cls K C) (nf : NoAttr K C F) (hi : mg "iter" = none) (gi : scope.names.lookup ("iter" : Str) = some .globalImplicit) (gs : scope.names.lookup ("self" : Str) = some .local) : ItRaw P w K mg base (k + 1) C f F := by
  obtain ⟨fd, Fn⟩ := Fn
  obtain ⟨oc, od, dV, kV, doc, pm, an, cdv, ct, osl, rfl, lk, hcd, hD, _⟩ := Fn.ex
  have hdv : dV = .none := by
    rcases hD with ⟨_, e⟩ | ⟨e, _⟩
    · exact e
    · exact absurd rfl e
  subst hdv
  subst hbd
  intro A outer s H a dx fs x hr e0 ha hf
  have KX : K.In s.heap := e0.mod.kin.keeps fun b o e => (e0.bs b o e).1
  have lim : s.heap.NoLimit := e0.mod.nolimit.keeps fun b o e => (e0.bs b o e).1
  have hkind : ∀ y ∈ [("self" : Str)].zip [Value.ref a], scope.names.lookup y.1 = some .local ∨ (scope.names.lookup y.1 = some .cell ∧ ((cellsFrom (s.heap.objs.size + 1) scope.names []).lookup y.1).isSome = true) := fun ⟨n, v⟩ hy => by
    rcases S.par n (List.of_mem_zip hy).1 with q | q
    · exact .inl q
    · exact .inr ⟨q, PySem.W.cellsFrom_some _ _ _ (.inl q)⟩
  refine codeAny_call_function hr.depth (KX _ _ lk) rfl S.co S.gen rfl (PySem.W.codeRec_of KX hcd) (BindsTo.of_eq (hb kV doc pm an cdv ct [.ref a] rfl) _ _ _ _ ?_)
  refine wpAny_newFunctionEnv_cells S.kind hkind fun env he s1 y => ?_
  subst he
  refine ⟨lim.keeps y.toInCall.keep, codeAny_func ?_⟩
  have I : Inv (cxOf (L2.CX P w) P w K mg base ("self" :: N) qual scope f cdv A outer s H (fun _ _ _ => False)) [] (start ("self" :: N) [.ref a]) H s1 := inv_start S hr.hd e0 rfl (.cons rfl .nil) y
  have hsz : s.heap.objs.size ≤ s1.heap.objs.size := by
    have q := I.sz
    exact q
  refine wpAny_execs_cons (wpAny_Return_some ?_)
  refine wpAny_Call_Name_kw (ld_blt (X := cxOf (L2.CX P w) P w K mg base ("self" :: N) qual scope f cdv A outer s H (fun _ _ _ => False)) I gi hi (by decide +kernel : bootBuiltins "iter" = some (.builtin "iter")) ?_)
  refine PyProof.Rows.callWith_builtin1 ?_
  have hslf : PE (cxOf (L2.CX P w) P w K mg base ("self" :: N) qual scope f cdv A outer s H (fun _ _ _ => False)) (.Name "self" p1) (tVar 0) := pe_var rfl (.inl gs)
  refine wpAny_mono ((pa_cons (pe_fld (pos := p2) (f := F) hslf rfl) pa_nil).run p3 [] s1 _ H (fun vs H1 => vs = [.str x] ∧ H1 = H) I ⟨V.ref a, rfl, a, C, dx, fs, .str x, rfl, ha, cl, nf, hf, rfl, rfl⟩) (fun us s2 hh => ?_) fun e s' he => he
  obtain ⟨vs, H1, I2, r, rfl, rfl⟩ := hh
  obtain ⟨u, rfl, ru⟩ := r.one
  obtain ⟨t, rfl⟩ := ru
  have hsz2 : s.heap.objs.size ≤ s2.heap.objs.size := I2.sz
  refine call_iterStr fun o hc hd hp => ?_
  have J := I2.kept (t' := s2.toks) (h' := s2.heap.push o) fun b ob e => Heap.get?_push_of_some _ e
  exact ⟨s2.heap.objs.size, t, rfl, hsz2, ⟨o, hp _, hc, hd⟩, J.os, J.bare, J.base, J.hok⟩
end
end SB
namespace L2
open PySem PySem.Spec PyProof.Rows SB
section
variable {X : Cx} {pins : List (Addr × Obj)} {σ : St} {H : Hp} {s : Shared} {C f : Addr} {k : Nat}
/-- for c in o, o an own object that hands on the iter of its text F -/
def iOwnStr (C : Addr) (F : Str) (te : TE) : TI := fun σ H R => te σ H fun v H1 => ∃ a dx fs x, v = .ref a ∧ H1 a = some (.ins C dx fs) ∧ fs.lookup F = some (.str x) ∧ R (Its x) H1
theorem pi_ownStr {tg e : Expr} {te : TE} {F : Str} (I0 : ItRaw X.prog X.w X.K X.mg X.base k C f F) (hr : Room k X.A) (hm : Meth X.K C "__iter__" f) (he : PE X e te) : PI X tg e (iOwnStr C F te) := by
  refine ⟨fun pins s σ H R I h => ?_⟩
  refine thn (he.run pins s σ H _ I h) fun v s1 ⟨y, H1, I1, r1, a, dx, fs, x, ey, ha, hf, q⟩ => ?_
  subst ey
  obtain rfl : v = Value.ref a := r1
  obtain ⟨mA, J, _⟩ := ins_get I1.hok ha
  obtain ⟨od, J, _⟩ := J.look
  obtain ⟨m0, hF⟩ := I1.fr
  refine PySem.W.owit_iter hF I1.ok.mod.kin J hm.at_ hm.fn ?_
  refine wpAny_call (codeAny_mono (I0 X.A X.stack s1 H1 a dx fs x hr I1.env0 ha hf) fun r s' hq => ?_)
  cases r with
  | error e => exact absurd hq (fun z => noCX z)
  | ok fl =>
    cases fl with
    | next => exact False.elim hq
    | brk => exact False.elim hq
    | cont => exact False.elim hq
    | ret u =>
      obtain ⟨it, t, rfl, hsz, st, os, ag, un, hok⟩ := hq
      have fp := I1.fpOk hsz (I1.hok.fresh hsz)
      obtain ⟨hh, g, d, tt, os'⟩ := s'
      obtain rfl : os' = s1.os := os
      have I2 : Inv X pins σ H1 ⟨hh, g, d, tt, s1.os⟩ := I1.call (h' := hh) (g' := g) (d' := d) (t' := tt) (ch := []) un hok ag (fun b z => absurd z (by simp))
      unfold PySem.W.OwitIt
      obtain ⟨oi, hoi, hci, hdi⟩ := id st
      have fin : PIE X pins σ tg R (.ref it) ⟨hh, g, d, tt, s1.os⟩ := ⟨it, [it], _, Its x, H1, rfl, I2, turn_str it x t (strTy x) (strTy_or x), st, fun b hb => by
        have e : b = it := by simpa using hb
        subst e
        exact fp, q⟩
      rcases strTy_or x with e | e
      · rw [e] at hci
        exact wpAny_specialOf (T := "str_ascii_iterator") ⟨oi, hoi, hci⟩ PySem.F.slot_str_ascii_iterator_next.lookup fin
      · rw [e] at hci
        exact wpAny_specialOf (T := "str_iterator") ⟨oi, hoi, hci⟩ PySem.F.slot_str_iterator_next.lookup fin

/-! ### special methods by their promises -/
theorem run_at {CX : CXT} {A1 : Around} {g : Addr} {fd : FuncData} {ps : List Str} {sp : Sp} {E : XK} {Q : VK} {us : List Value} {vs : List V} (sb : Sub X k A1) (F : FnOk X.prog X.w X.K X.mg X.base CX k g fd ps sp) (hb : Binds X.K fd ps []) (hx : Passes CX X E) (I : Inv X pins σ H s)
    (r : Vals vs us) (h : sp vs H Q E) : wpAny (model X.prog X.w) A1 (call (.ref g) us) (EP X pins σ Q) X.xe s := by
  have e0 : Env0 X.prog X.w X.K X.mg X.base A1 X.stack s H := by
    have e := I.env0
    exact ⟨by rw [sb.fr]; exact e.frames, e.mod, e.bs, e.bsz, e.funs, e.frf, e.hok, e.bare⟩
  have hl : us.length = ps.length := by rw [← r.length]; exact F.len _ _ _ _ h
  refine wpAny_call (codeAny_mono (F.run A1 X.stack s H ⟨us, []⟩ us vs Q E sb.room e0 (by
    have := hb s us I.kIn (by simpa using hl)
    simpa using this) r h) fun r s' hq => ?_)
  cases r with
  | error e => exact hx pins σ H s e s' I hq
  | ok fl =>
    cases fl with
    | ret u => exact I.after hq
    | next => exact False.elim hq
    | brk => exact False.elim hq
    | cont => exact False.elim hq
/-- an own class's special method m at f keeps the promise sp -/
structure Special (P : Program) (w : World) (K : PySem.W.Frag) (mg : Str → Option Value) (base : Heap) (k : Nat) (C : Addr) (m : Str) (ps : List Str) (sp : Sp) : Prop where
  ex : ∃ (f : Addr) (fd : FuncData), Meth K C m f ∧ FnOk P w K mg base (L2.CX P w) k f fd ps sp ∧ Binds K fd ps []
/-- len(o) -/
def rLenO (C : Addr) (sp : Sp) (E : XK) : List V → Hp → VK → Prop := fun xs H Q => ∃ a dx fs, xs = [.ref a] ∧ H a = some (.ins C dx fs) ∧ sp [.ref a] H (fun v H' => ∃ n : Int, v = .int n ∧ 0 ≤ n ∧ n < 2 ^ 63 ∧ Q (.int n) H') E
theorem call_lenO {ps : List Str} {sp : Sp} {E : XK} (S : Special X.prog X.w X.K X.mg X.base k C "__len__" ps sp) (hr : Room (k + 1) X.A) (hx : Passes (L2.CX X.prog X.w) X E) : CallR X (.builtin "len") (rLenO C sp E) := by
  intro pins s σ H xs us Q I rv h
  obtain ⟨a, dx, fs, rfl, ha, hq⟩ := h
  obtain ⟨u, rfl, ru⟩ := rv.one
  cases ru
  obtain ⟨f, fd, hm, F, hb⟩ := S.ex
  obtain ⟨mA, J, _⟩ := ins_get I.hok ha
  obtain ⟨od, J, _⟩ := J.look
  obtain ⟨m0, hF⟩ := I.fr
  have sb : Sub X k X.A.in1 := Sub.in1 (⟨hr, rfl⟩ : Sub X (k + 1) X.A)
  refine PySem.W.len_K hF I.ok.mod.kin J hm.at_ hm.fn (thn (run_at sb F hb hx I (vs := [.ref a]) (.cons rfl .nil) hq) fun u s' hh => ?_)
  obtain ⟨v, H', I', rv, n, rfl, h0, h1, q⟩ := hh
  obtain ⟨t, rfl⟩ := rv
  exact ⟨⟨h0, h1⟩, .int n, H', I'.tok _, ⟨_, rfl⟩, q⟩
/-- str(o) -/
def rStrO (C : Addr) (sp : Sp) (E : XK) : List V → Hp → VK → Prop := fun xs H Q => ∃ a dx fs, xs = [.ref a] ∧ H a = some (.ins C dx fs) ∧ sp [.ref a] H (fun v H' => ∃ x : Str, v = .str x ∧ Q (.str x) H') E
theorem call_strO {ps : List Str} {sp : Sp} {E : XK} (S : Special X.prog X.w X.K X.mg X.base k C "__str__" ps sp) (hr : Room (k + 2) X.A) (hx : Passes (L2.CX X.prog X.w) X E) : CallR X (.type "str") (rStrO C sp E) := by
  intro pins s σ H xs us Q I rv h
  obtain ⟨a, dx, fs, rfl, ha, hq⟩ := h
  obtain ⟨u, rfl, ru⟩ := rv.one
  cases ru
  obtain ⟨f, fd, hm, F, hb⟩ := S.ex
  obtain ⟨mA, J, _⟩ := ins_get I.hok ha
  obtain ⟨od, J, _⟩ := J.look
  have sb : Sub X k X.A.in1.in1 := Sub.in1 (Sub.in1 (⟨hr, rfl⟩ : Sub X (k + 2) X.A))
  have hu : X.A.in1.in1.units < PySem.cLine := sb.room.units0
  refine PySem.W.kso_call hu I.kIn J hm.at_ hm.fn (thn (run_at sb F hb hx I (vs := [.ref a]) (.cons rfl .nil) hq) fun u s' hh => ?_)
  obtain ⟨v, H', I', rv, y, rfl, q⟩ := hh
  obtain ⟨t, rfl⟩ := rv
  exact ⟨.str y, H', I', ⟨_, rfl⟩, q⟩
end
end L2

end
section
set_option maxHeartbeats 1000000
/-! More of texts: enumerate(text), text * n, text[::-1], swapcase, is not False. -/
namespace L2
open PySem PySem.Spec PyProof.Rows SB
/-- enumerate(text): each sign in a new pair with its place -/
def Itn (x : Str) : It :=
  ⟨fun i _ => i < x.cps.size, fun i H v H' => ∃ T c, v = .ref T ∧ H T = none ∧ H' = upd H T (.tup [.int (i : Nat), .str ⟨#[c]⟩]) ∧ x.cps[i]? = some c, fun i _ => x.cps.size ≤ i⟩
theorem enumTy (x : Str) : strIterType x = "str_ascii_iterator" ∨ strIterType x = "str_iterator" := by
  unfold strIterType
  split
  · exact .inl rfl
  · exact .inr rfl
theorem draws_str {prog : Program} {w : World} {A : Around} (hh : A.handled = none) (it : Addr) (x : Str) (t : Tok) :
    Draws prog w A it [it] x.cps.size (fun i v => ∃ c u, x.cps[i]? = some c ∧ v = .str ⟨#[c]⟩ u) (fun i h => h.IsStrIter it (strIterType x) x t i) := by
  rcases enumTy x with e | e
  · rw [e]; exact Draws.strAscii hh it x t
  · rw [e]; exact Draws.strWide hh it x t
theorem turn_enumS {P : Program} {w : World} {K : PySem.W.Frag} {elts : List Expr} {kk : Nat} {tpos : Pos} (x : Str) (t : Tok) (e it : Addr) :
    Turn P w K (.Tuple elts kk tpos) (Itn x) [e, it] e (fun i h => (∃ old, IsEnum h e it ((i : Nat) : Int) old) ∧ h.IsStrIter it (strIterType x) x t i ∧ e ≠ it) where
  mem := by simp
  obj := fun i h st b hb => by
    obtain ⟨⟨old, he⟩, ⟨o, ho, hc, hd⟩, _⟩ := st
    have e' : b = e ∨ b = it := by simpa using hb
    rcases e' with z | z
    · rw [z]; exact ⟨_, he, fun v q => nomatch q⟩
    · rw [z]; exact ⟨o, ho, fun v q => by rw [hd] at q; cases q⟩
  keep := fun i h h' st k => let ⟨⟨old, he⟩, ⟨o, ho, r⟩, hne⟩ := st; ⟨⟨old, k e (by simp) _ he⟩, ⟨o, k it (by simp) o ho, r⟩, hne⟩
  item := by
    intro X hP hw hK hc i pins s σ H E I hf st hg
    subst hP hw hK
    obtain ⟨⟨old, he⟩, hit, hne⟩ := st
    have hel : e < s.heap.objs.size := Heap.lt_size he
    have hil : it < s.heap.objs.size := by obtain ⟨_, q, _⟩ := hit; exact Heap.lt_size q
    have D : Draws X.prog X.w X.A.in1 it [it] x.cps.size (fun i v => ∃ c u, x.cps[i]? = some c ∧ v = .str ⟨#[c]⟩ u) (fun i h => h.IsStrIter it (strIterType x) x t i) := draws_str (A := X.A.in1) (show X.A.in1.handled = none from I.ok.hd hc) it x t
    refine wpAny_pyNext_enum_itemD D he hit hg hne (by simpa using hne) fun y h' tk hy ho hit' hT hsz hk => ?_
    obtain ⟨c, u, hcx, rfl⟩ := hy
    refine ⟨_, rfl, wpAny_letOwnedTupleGo_enum (s := { s with heap := h', toks := tk + 1 }) ho fun h'' he' sb => ?_⟩
    have hT2 : h''.get? s.heap.objs.size = some { cls := .type "tuple", data := .seq #[.int i tk, .str ⟨#[c]⟩ u] } := (sb.2 _ (Nat.ne_of_gt hel)).trans hT
    have new : ObjOk X.prog X.w (upd H s.heap.objs.size (.tup [.int (i : Nat), .str ⟨#[c]⟩])) h'' s.heap.objs.size (.tup [.int (i : Nat), .str ⟨#[c]⟩]) :=
      ⟨by show 2 ≤ sizeLine; decide, [.int i tk, .str ⟨#[c]⟩ u], .cons ⟨_, rfl⟩ (.cons ⟨_, rfl⟩ .nil), ⟨_, hT2, rfl, _, rfl⟩⟩
    have I1 : Inv X pins σ (upd H s.heap.objs.size (.tup [.int (i : Nat), .str ⟨#[c]⟩])) { s with heap := h'', toks := tk + 1 } :=
      I.turnedNew (ch := [e, it]) (fun b ob hb q => (sb.2 b (fun z => hb (by simp [z]))).trans (hk b ob (fun z => hb (by simp [z])) (fun z => hb (by simp [z])) q)) hf (Nat.le_refl _) new
    have hit'' : h''.IsStrIter it (strIterType x) x t (i + 1) := by
      obtain ⟨o, ho', r⟩ := hit'
      exact ⟨o, (sb.2 it (Ne.symm hne)).trans ho', r⟩
    refine ⟨.ref s.heap.objs.size, _, I1, rfl, ⟨_, c, rfl, I.hok.fresh (Nat.le_refl _), rfl, hcx⟩, ⟨⟨.str ⟨#[c]⟩ u, ?_⟩, hit'', hne⟩, fun b hb => ?_⟩
    · have e1 : ((i + 1 : Nat) : Int) = (i : Int) + 1 := by omega
      rw [e1]; exact he'
    · have hb' : b < s.heap.objs.size := by
        have e' : b = e ∨ b = it := by simpa using hb
        rcases e' with z | z
        · rw [z]; exact hel
        · rw [z]; exact hil
      rw [upd_ne (Nat.ne_of_lt hb')]
      exact (hf b hb).1
  done := by
    intro X hP hw hK hc i pins s σ H E I hf st hg
    subst hP hw hK
    obtain ⟨⟨old, he⟩, hit, hne⟩ := st
    obtain ⟨f0, f1, f2, f3, f4, f5⟩ := hf it (by simp)
    have hge : x.cps.size ≤ i := hg
    by_cases hi : i = x.cps.size
    · subst hi
      have D : Draws X.prog X.w X.A.in1 it [it] x.cps.size (fun i v => ∃ c u, x.cps[i]? = some c ∧ v = .str ⟨#[c]⟩ u) (fun i h => h.IsStrIter it (strIterType x) x t i) := draws_str (A := X.A.in1) (show X.A.in1.handled = none from I.ok.hd hc) it x t
      exact wpAny_pyNext_enum_endD D he hit fun h' eb => ⟨rfl, I.turned (t' := s.toks) (fun b o hb q => eb b o hb q) f0 f1 f3 f4 f5⟩
    · have D0 : Draws X.prog X.w X.A.in1 it [it] i (fun _ _ => False) (fun j h => j = i ∧ h.IsStrIter it (strIterType x) x t i) := {
        live := fun _ _ st => let ⟨_, o, ho, _⟩ := st; ⟨o, ho⟩
        frame := fun _ _ _ st hk => let ⟨e, o, ho, r⟩ := st; ⟨e, o, hk it (by simp) o ho, r⟩
        item := fun j s Q E hj st hQ => absurd st.1 (Nat.ne_of_lt hj)
        done := fun s Q E st hE => by
          obtain ⟨_, st⟩ := st
          rcases enumTy x with e | e
          · rw [e] at st
            exact wpAny_nextOf_ascii_end (I.ok.hd hc) st (by simp; omega) hE
          · rw [e] at st
            exact wpAny_nextOf_wide_end (I.ok.hd hc) st (by simp; omega) hE }
      exact wpAny_pyNext_enum_endD D0 he ⟨rfl, hit⟩ fun h' eb => ⟨rfl, I.turned (t' := s.toks) (fun b o hb q => eb b o hb q) f0 f1 f3 f4 f5⟩
  self := fun A i s Q E st h => let ⟨⟨_, he⟩, _⟩ := st; wpAny_pyIter_enum he h
def iEnumS (ta : TA) : TI := fun σ H R => ta σ H fun vs H1 => ∃ x, vs = [.str x] ∧ R (Itn x) H1
theorem pi_enumS {X : Cx} {e : Expr} {ta : TA} {p pos tpos : Pos} {elts : List Expr} {kk : Nat} (hm : X.mg "enumerate" = none) (ha : PA X [e] ta) (hg : Gl X "enumerate" := by rfl) (hs : starEach [e] X.env = [(false, eval e X.env)] := by rfl) :
    PI X (.Tuple elts kk tpos) (.Call (.Name "enumerate" p) [e] [] pos) (iEnumS ta) := by
  refine ⟨fun pins s σ H R I h => ?_⟩
  refine Call_ (ld_blt I hg hm boot_enumerate (PyProof.Rows.callWith_type1 (thn (ha.run pos pins s σ H _ I h) fun us s1 ⟨vs, H1, I1, r1, q1⟩ => ?_) hs rfl))
  obtain ⟨x, ex, q⟩ := q1
  subst ex
  obtain ⟨u, rfl, t, rfl⟩ := vals1 r1
  refine call_enumerate_str fun h' he hit hsz hk => wpAny_pyIter_enum he ?_
  have I2 : Inv X pins σ H1 { s1 with heap := h' } := I1.kept (t' := s1.toks) hk
  refine ⟨s1.heap.objs.size + 1, [s1.heap.objs.size + 1, s1.heap.objs.size], _, _, H1, rfl, I2, turn_enumS x t (s1.heap.objs.size + 1) s1.heap.objs.size, ⟨⟨.none, he⟩, hit, Nat.succ_ne_self _⟩, fun b hb => ?_, q⟩
  have e' : b = s1.heap.objs.size + 1 ∨ b = s1.heap.objs.size := by simpa using hb
  have hle : s1.heap.objs.size ≤ b := by
    rcases e' with z | z
    · rw [z]; exact Nat.le_add_right _ _
    · rw [z]; exact Nat.le_refl _
  exact I1.fpOk hle (I1.hok.fresh hle)

/-! ### text * n -/
abbrev tx (l : List Nat) : Str := ⟨l.toArray⟩
abbrev T (l : List Nat) : V := .str (tx l)
/-- n rows behind one another -/
def rep : Nat → List Nat → List Nat
  | 0, _ => []
  | n + 1, l => rep n l ++ l
theorem foldl_txt (l : List Nat) : ∀ (n : Nat) (acc : Array Nat), ((List.replicate n l.toArray).foldl (· ++ ·) acc).toList = acc.toList ++ rep n l := by
  intro n
  induction n with
  | zero => intro acc; simp [rep]
  | succ n ih =>
    intro acc
    rw [List.replicate_succ, List.foldl_cons, ih]
    have e : ∀ n, l ++ rep n l = rep n l ++ l := by
      intro n
      induction n with
      | zero => simp [rep]
      | succ n ih => show l ++ (rep n l ++ l) = (rep n l ++ l) ++ l; rw [← List.append_assoc, ih]
    simp [rep, List.append_assoc, ← e]
theorem rep_length (l : List Nat) : ∀ n, (rep n l).length = n * l.length
  | 0 => by simp [rep]
  | n + 1 => by simp [rep, rep_length l n, Nat.add_mul]
theorem op_mulText {X : Cx} : OpR X (binaryOp .Mult) (fun x y H Q => ∃ (l : List Nat) (n : Nat), x = T l ∧ y = .int (n : Int) ∧ 2 ≤ n ∧ l ≠ [] ∧ n ≤ 1000000 ∧ l.length ≤ 16 ∧ Q (T (rep n l)) H) := by
  intro pins s σ H x y v u Q I rx ry h
  obtain ⟨l, n, rfl, rfl, h2, hne, hn, hl, q⟩ := h
  obtain ⟨t, rfl⟩ := rx
  obtain ⟨t', rfl⟩ := ry
  have hlen : (tx l).length = l.length := by simp [Str.length]
  have hpos : 0 < l.length := List.length_pos_iff.mpr hne
  have hz : l.length * n ≤ 16777216 := Nat.le_trans (Nat.mul_le_mul hl hn) (by decide)
  refine P.mul_str ?_ (fun _ _ => ?_) (fun _ _ => ?_) ?_
  · have a : ¬ ((n : Int) < -(2 ^ 63)) := by omega
    have b : ¬ ((n : Int) ≥ 2 ^ 63) := by omega
    rw [decide_eq_false a, decide_eq_false b]; rfl
  · rw [hlen]
    have : (1000000 : Int) ≤ (2 ^ 63 - 1) / (n : Int) := by
      rw [Int.le_ediv_iff_mul_le (by omega)]
      omega
    omega
  · rw [hlen]
    exact short24 (by simpa using hz)
  · have a : ¬ (n : Int) < 1 := by omega
    have b : ((n : Int) == 1 || (tx l).length == 0) = false := by
      rw [hlen]
      have z1 : ((n : Int) == 1) = false := by simp; omega
      have z2 : (l.length == 0) = false := by simp [hne]
      rw [z1, z2]; rfl
    rw [if_neg a, b]
    have hv : (⟨(List.replicate (n : Int).toNat (tx l).cps).foldl (· ++ ·) #[]⟩ : Str) = tx (rep n l) := by
      have e := foldl_txt l n #[]
      simp only [Int.toNat_natCast]
      generalize ((List.replicate n (tx l).cps).foldl (· ++ ·) #[]) = z at e ⊢
      have e2 : z.toList = rep n l := by rw [e]; rfl
      rw [← e2]
    simp only [Bool.false_eq_true, if_false]
    rw [hv]
    refine ⟨?_, ⟨T (rep n l), H, I.tok _, ⟨_, rfl⟩, q⟩⟩
    show (tx (rep n l)).length ≤ sizeLine
    have : (tx (rep n l)).length = n * l.length := by rw [← rep_length]; simp [Str.length]
    rw [this, Nat.mul_comm, sizeLine_eq]
    exact hz
/-! ### text[::-1] -/
def tRevS (te : TE) : TE := fun σ H Q => te σ H fun x H1 => ∃ l, x = T l ∧ l.length ≤ 1000000 ∧ Q (T l.reverse) H1
theorem sliceRev (l : List Nat) (t u : Tok) {Q : Value → Shared → Prop} {s : Shared} (hl : l.length ≤ 1000000) (h : ∀ t' k, Q (.str (tx l.reverse) t') { s with toks := k }) : (sliceMade (tx l) t none none (some (-1, u))).post Q s := by
  unfold sliceMade
  have e0 : (((some ((-1 : Int), u)).map (·.1)).getD 1 == 1) = false := rfl
  rw [e0]
  simp only [Bool.false_and, Bool.false_eq_true, if_false]
  have e1 := step_rev_list (tx l) u
  have e2 : (Txt.sliceBy (tx l) none none (-1, u)).cps.toList = ((slicePicked (tx l) none none (some (-1, u))).filterMap ((tx l).cps[·]?)) := by
    unfold Txt.sliceBy
    rw [e0]
    simp only [Bool.false_and, Bool.false_eq_true, if_false]
  have e3 : ((slicePicked (tx l) none none (some (-1, u))).filterMap ((tx l).cps[·]?)) = l.reverse := by
    rw [← e2, e1]
    have hlen : (tx l).length = l.length := by simp [Str.length]
    rw [hlen]
    refine List.ext_getElem (by simp) fun i h1 h2 => ?_
    have hi : i < l.length := by simpa using h1
    rw [List.getElem_map, List.getElem_range, List.getElem_reverse]
    show l.toArray.getD (l.length - 1 - i) 0 = _
    simp only [Array.getD, List.size_toArray]
    rw [dif_pos (by omega)]
    simp
  rw [e3]
  refine ⟨?_, h _ _⟩
  show l.reverse.toArray.size ≤ sizeLine
  rw [List.size_toArray, List.length_reverse, sizeLine_eq]
  omega
theorem pe_revS {X : Cx} {e : Expr} {te : TE} {k : Nat} {p1 p2 p3 pos : Pos} (he : PE X e te) : PE X (.Subscript e (.Slice none none (some (.UnaryOp .USub (.Constant (.int 1) k p1) p2)) p3) pos) (tRevS te) := by
  refine ⟨fun pins s σ H Q I h => ?_⟩
  refine Subscript_ (thn (he.run pins s σ H _ I h) fun v s1 ⟨x, H1, I1, r1, q1⟩ => ?_)
  obtain ⟨l, ex, hl, q⟩ := q1
  subst ex
  obtain ⟨t, rfl⟩ := r1
  have hst : PO X (some (.UnaryOp .USub (.Constant (.int 1) k p1) p2)) (tPart (tUn (rU fun i => .int (-i)) (tC (.int 1)))) := po_some (pe_un un_neg pe_int)
  refine wpAny_Slice (thn (po_none.run pins s1 σ H1 (fun o H2 => o = none ∧ H2 = H1) I1 ⟨rfl, rfl⟩) fun vl s2 ⟨l2, H2, I2, pl, el, e2⟩ => ?_)
  subst el e2
  refine thn (po_none.run pins s2 σ H2 (fun o H3 => o = none ∧ H3 = H2) I2 ⟨rfl, rfl⟩) fun vu s3 ⟨u, H3, I3, pu, eu, e3⟩ => ?_
  subst eu e3
  refine thn (hst.run pins s3 σ H3 (fun o H4 => o = some (-1) ∧ H4 = H3) I3 ⟨1, rfl, -1, rfl, rfl, rfl⟩) fun vs s4 ⟨o, H4, I4, ps, eo, e4⟩ => ?_
  subst eo e4
  have I5 : Inv X pins σ H4 { s4 with heap := s4.heap.push { cls := .type "slice", data := .fields #[vl, vu, vs] } } := I4.kept (t' := s4.toks) fun b ob q => Heap.get?_push_of_some _ q
  obtain ⟨l0, rfl, hl0⟩ := IsPart.raw pl
  obtain ⟨u0, rfl, hu0⟩ := IsPart.raw pu
  obtain ⟨s0, rfl, hs0⟩ := IsPart.raw ps
  have a1 : l0 = none := by cases l0 with | none => rfl | some z => cases hl0
  have a2 : u0 = none := by cases u0 with | none => rfl | some z => cases hu0
  subst a1 a2
  obtain ⟨tz, rfl⟩ : ∃ tz, s0 = some ((-1 : Int), tz) := by
    cases s0 with
    | none => cases hs0
    | some z =>
      obtain ⟨z1, z2⟩ := z
      have : z1 = -1 := by simpa using hs0.symm.symm
      subst this
      exact ⟨z2, rfl⟩
  refine tail_any (T := "str") (typeIs_str _ _ _) PySem.F.slot_str_getitem.lookup ?_ (by with_unfolding_all rfl)
  refine wpAny_getItem_str_slice (l := none) (u := none) (st := some (-1, tz)) ⟨_, Heap.get?_push_size _ rfl, rfl, rfl⟩ (by rfl) (sliceRev l t tz hl fun t' k => ⟨T l.reverse, H4, I5.tok _, ⟨_, rfl⟩, q⟩)
/-! ### swapcase, is not False -/
section
variable {X : Cx}
theorem mt_swap : MtR X "str.swapcase" (fun x xs H Q => ∃ a, x = .str a ∧ xs = [] ∧ a.length ≤ 5592405 ∧ Q (.str (Txt.swapcase a)) H) :=
  mt0 (C := fun a => a.length ≤ 5592405) (g := fun a => .str (Txt.swapcase a)) fun a _ s _ hc h =>
    PySem.SC.swapcase (PyProof.Rows.short24 (by have h1 : a.length ≤ 5592405 := hc; have := PyProof.Rows.len_swapcase a; omega)) (h _ (s.toks + 1) ⟨_, rfl⟩)
theorem op_notFalse : OpR X (compareOp .IsNot) (fun x y H Q => ∃ i b, x = .int i ∧ y = .bl b ∧ Q (.bl true) H) := by
  intro pins s σ H x y v u Q I rx ry h
  obtain ⟨i, b, rfl, rfl, q⟩ := h
  obtain ⟨t, rfl⟩ := rx
  cases (show u = Value.bool b from ry)
  exact wpAny_isNot_other (by rfl) (fun z => nomatch z) ⟨.bl true, H, I, rfl, q⟩
/-- a module's constant -/
theorem pe_gs {x v : Str} {pos : Pos} (hm : ∃ t, X.mg x = some (.str v t)) (hg : Gl X x := by rfl) (hd : (x == ("__debug__" : Str)) = false := by decide) : PE X (.Name x pos) (tC (.str v)) := by
  obtain ⟨t, e⟩ := hm
  exact pe_glob hg e ⟨t, rfl⟩ hd
theorem pe_gi {x : Str} {v : Int} {pos : Pos} (hm : ∃ t, X.mg x = some (.int v t)) (hg : Gl X x := by rfl) (hd : (x == ("__debug__" : Str)) = false := by decide) : PE X (.Name x pos) (tC (.int v)) := by
  obtain ⟨t, e⟩ := hm
  exact pe_glob hg e ⟨t, rfl⟩ hd
end
end L2

end
section
set_option maxHeartbeats 1000000
/-! Rules whose readings name the heaps behind them. -/
namespace L2
open PySem PySem.Spec PyProof.Rows SB
/-- a new object at a -/
structure Nw (H : Hp) (a : Addr) (o : HO) (H' : Hp) : Prop where
  free : H a = none
  at_ : H' a = some o
  oth : ∀ b, b ≠ a → H' b = H b
theorem Nw.same {H H' : Hp} {a : Addr} {o : HO} (n : Nw H a o H') : Same H H' := fun b u e => by rw [n.oth b (ne_of_none e n.free)]; exact e
theorem Nw.of {H : Hp} {a : Addr} {o : HO} (h : H a = none) : Nw H a o (upd H a o) := ⟨h, upd_same, fun b hb => upd_ne hb⟩
/-- the object at a is written -/
structure Wr (H : Hp) (a : Addr) (o : HO) (H' : Hp) : Prop where
  at_ : H' a = some o
  oth : ∀ b, b ≠ a → H' b = H b
theorem Wr.of {H : Hp} {a : Addr} {o : HO} : Wr H a o (upd H a o) := ⟨upd_same, fun b hb => upd_ne hb⟩
theorem Wr.same {F H H' : Hp} {a : Addr} {o : HO} (w : Wr H a o H') (s : Same F H) (off : F a = none) : Same F H' := fun b u e => by
  rw [w.oth b (fun z => by rw [z, off] at e; cases e)]
  exact s b u e
section
variable {X : Cx} {es : List Expr} {t : TA} {pos : Pos}
def tTupV (t : TA) : TE := fun σ H Q => t σ H fun xs H1 => xs.length ≤ sizeLine ∧ ∀ p H', Nw H1 p (.tup xs) H' → Q (.ref p) H'
def tLstV (t : TA) : TE := fun σ H Q => t σ H fun xs H1 => xs.length ≤ sizeLine ∧ ∀ p H', Nw H1 p (.lst xs) H' → Q (.ref p) H'
theorem pe_tupV {x1} (h : PA X es t) : PE X (.Tuple es x1 pos) (tTupV t) := by
  refine ⟨fun pins s σ H Q I hq => ?_⟩
  refine wpAny_Tuple_spliced (thn (h.run pos pins s σ H _ I hq) fun us s1 hh => ?_)
  obtain ⟨xs, H1, I1, r, z, q⟩ := hh
  refine ⟨by rw [← r.length]; exact z, ?_⟩
  have hf : H1 s1.heap.objs.size = none := I1.hok.fresh (Nat.le_refl _)
  have new : ObjOk X.prog X.w (upd H1 s1.heap.objs.size (.tup xs)) (s1.heap.push { cls := .type "tuple", data := .seq us.toArray }) s1.heap.objs.size (.tup xs) := ⟨z, us, r, ⟨_, Heap.get?_push_size _ rfl, rfl, _, rfl⟩⟩
  exact ⟨.ref s1.heap.objs.size, _, I1.laid (t' := s1.toks) (fun b u e => Heap.get?_push_of_some _ e) (Nat.le_refl _) new, rfl, q _ _ (.of hf)⟩
theorem pe_lstV (h : PA X es t) : PE X (.List es pos) (tLstV t) := by
  refine ⟨fun pins s σ H Q I hq => ?_⟩
  refine wpAny_List_spliced (thn (h.run pos pins s σ H _ I hq) fun us s1 hh => ?_)
  obtain ⟨xs, H1, I1, r, z, q⟩ := hh
  refine ⟨by rw [← r.length]; exact z, ?_⟩
  have hf : H1 s1.heap.objs.size = none := I1.hok.fresh (Nat.le_refl _)
  have new : ObjOk X.prog X.w (upd H1 s1.heap.objs.size (.lst xs)) (s1.heap.push { cls := .type "list", data := .seq us.toArray }) s1.heap.objs.size (.lst xs) := ⟨z, us, 0, r, Heap.get?_push_size _ rfl⟩
  exact ⟨.ref s1.heap.objs.size, _, I1.laid (t' := s1.toks) (fun b u e => Heap.get?_push_of_some _ e) (Nat.le_refl _) new, rfl, q _ _ (.of hf)⟩
/-- xs[k] = v -/
def rSetV : TSet := fun o i v H Q => ∃ p xs k j ys, o = .ref p ∧ i = .int k ∧ H p = some (.lst xs) ∧ ixN xs.length k = some j ∧ xs.set j v = ys ∧ ∀ H', Wr H p (.lst ys) H' → Q H'
theorem set_listV : PSet X rSetV := by
  intro pins s σ H o i v ov iv u Q I ro ri rv h
  obtain ⟨p, xs, k, j, ys, e1, e2, hp, hj, e3, q⟩ := h
  subst e3
  exact set_list pins s σ H o i v ov iv u Q I ro ri rv ⟨p, xs, k, j, e1, e2, hp, hj, q _ .of⟩
def rAppendV : V → List V → Hp → VK → Prop := fun x vs H Q => ∃ l xs y, x = .ref l ∧ vs = [y] ∧ H l = some (.lst xs) ∧ xs.length < sizeLine ∧ ∀ H', Wr H l (.lst (xs ++ [y])) H' → Q .non H'
theorem mt_appendV : MtM X "list.append" rAppendV := by
  intro pins s σ H x vs v us Q I rx rv h
  obtain ⟨l, xs, y, e1, e2, hH, hz, q⟩ := h
  exact mt_append pins s σ H x vs v us Q I rx rv ⟨l, xs, y, e1, e2, hH, hz, q _ .of⟩
/-- xs.pop() of a list told by its last item -/
def rPopV : V → List V → Hp → VK → Prop := fun x vs H Q => ∃ l xs y, x = .ref l ∧ vs = [] ∧ H l = some (.lst (xs ++ [y])) ∧ ∀ H', Wr H l (.lst xs) H' → Q y H'
theorem mt_popV : MtM X "list.pop" rPopV := by
  intro pins s σ H x vs v us Q I rx rv h
  obtain ⟨l, xs, y, e1, e2, hH, q⟩ := h
  refine mt_pop pins s σ H x vs v us Q I rx rv ⟨l, xs ++ [y], y, e1, e2, hH, by simp, ?_⟩
  rw [List.dropLast_concat]
  exact q _ .of
def rSlLV (K : PySem.W.Frag) : V → Option Int → Option Int → Hp → VK → Prop := fun x lo hi H Q => ∃ a xs, x = .ref a ∧ SqL K H a xs ∧ ∀ p H', Nw H p (.lst (cutV xs lo hi)) H' → Q (.ref p) H'
theorem sl_listV : SlR X (rSlLV X.K) := by
  intro pins s σ H x v vl vu lo hi sl Q I rx hs pl pu h
  obtain ⟨a, xs, e, hq, q⟩ := h
  exact sl_list pins s σ H x v vl vu lo hi sl Q I rx hs pl pu ⟨a, xs, e, hq, fun p hp => q p _ (.of hp)⟩
theorem call_list_ofV : CallR X (.type "list") (fun xs H Q => ∃ p ys, xs = [.ref p] ∧ (SqL X.K H p ys ∨ SqT X.K H p ys) ∧ ∀ l H', Nw H l (.lst ys) H' → Q (.ref l) H') := by
  intro pins s σ H xs us Q I r h
  obtain ⟨p, ys, e, hq, q⟩ := h
  exact call_list_of pins s σ H xs us Q I r ⟨p, ys, e, hq, fun l hl => q l _ (.of hl)⟩
end
/-! ### walks -/
/-- the walk J has n turns over the heaps that P tells; the i-th item is one that item tells, the heap grows by it -/
structure Walk (P : Nat → Hp → Prop) (J : It) (n : Nat) (item : Nat → V → Hp → Hp → Prop) : Prop where
  go : ∀ i H, i < n → P i H → J.go i H
  stop : ∀ H, P n H → J.stop n H
  yld : ∀ i H x H', i < n → P i H → J.yld i H x H' → item i x H H'
theorem walk_str {P : Nat → Hp → Prop} (l : List Nat) : Walk P (Its (tx l)) l.length (fun i v H H' => H' = H ∧ ∃ c, l[i]? = some c ∧ v = T [c]) where
  go := fun i H h _ => by show i < (tx l).cps.size; simpa using h
  stop := fun H _ => by show (tx l).cps.size ≤ l.length; simp
  yld := fun i H x H' h _ y => by
    obtain ⟨e, c, hc, rfl⟩ := y
    exact ⟨e, c, by simpa using hc, rfl⟩
theorem walk_enum {P : Nat → Hp → Prop} (l : List Nat) : Walk P (Itn (tx l)) l.length (fun i v H H' => ∃ t c, v = .ref t ∧ Nw H t (.tup [.int (i : Nat), T [c]]) H' ∧ l[i]? = some c) where
  go := fun i H h _ => by show i < (tx l).cps.size; simpa using h
  stop := fun H _ => by show (tx l).cps.size ≤ l.length; simp
  yld := fun i H x H' h _ y => by
    obtain ⟨t, c, rfl, hn, rfl, hc⟩ := y
    exact ⟨t, c, rfl, .of hn, by simpa using hc⟩
theorem walk_range {P : Nat → Hp → Prop} (lo : Int) (n : Nat) : Walk P (Itr lo n) n (fun i v H H' => H' = H ∧ v = .int (lo + i)) where
  go := fun i H h _ => h
  stop := fun H _ => Nat.le_refl _
  yld := fun i H x H' h _ y => y
theorem walk_list {K : PySem.W.Frag} {P : Nat → Hp → Prop} {a : Addr} {xs : List V} (hl : ∀ i H, i ≤ xs.length → P i H → SqL K H a xs) : Walk P (Itl K a) xs.length (fun i v H H' => H' = H ∧ xs[i]? = some v) where
  go := fun i H h p => ⟨xs, xs[i], hl i H (Nat.le_of_lt h) p, by simp [h]⟩
  stop := fun H p => ⟨xs, hl _ H (Nat.le_refl _) p, Nat.le_refl _⟩
  yld := fun i H x H' h p y => ⟨y.1, y.2 xs (hl i H (Nat.le_of_lt h) p)⟩
theorem walk_tup {K : PySem.W.Frag} {P : Nat → Hp → Prop} {a : Addr} {xs : List V} (hl : ∀ i H, i ≤ xs.length → P i H → SqT K H a xs) : Walk P (Itt K a) xs.length (fun i v H H' => H' = H ∧ xs[i]? = some v) where
  go := fun i H h p => ⟨xs, xs[i], hl i H (Nat.le_of_lt h) p, by simp [h]⟩
  stop := fun H p => ⟨xs, hl _ H (Nat.le_refl _) p, Nat.le_refl _⟩
  yld := fun i H x H' h p y => ⟨y.1, y.2 xs (hl i H (Nat.le_of_lt h) p)⟩
/-- for x in ..: the invariant Pv i σ H ahead of the i-th turn -/
theorem for_by {J : It} {n : Nat} {item : Nat → V → Hp → Hp → Prop} {g : TG} {tb : TS} {D : Ends} {σ : St} {H : Hp} (Pv : Nat → St → Hp → Prop) (wk : Walk (fun i H => ∃ σ, Pv i σ H) J n item) (h0 : Pv 0 σ H)
    (turn : ∀ i x σ H H', i < n → Pv i σ H → item i x H H' → g x σ H' fun σ2 H2 => tb { D with nx := Pv (i + 1), ct := Pv (i + 1), bk := D.nx } σ2 H2) (done : ∀ σ H, Pv n σ H → D.nx σ H) :
    ∃ W : Nat → Nat → St → Hp → Prop, (∃ m, W 0 m σ H) ∧ ∀ i m σ H, W i m σ H →
      (J.stop i H ∧ D.nx σ H) ∨ (J.go i H ∧ ∃ N : St → Hp → Prop, (∀ σ' H', N σ' H' → ∃ m', m' < m ∧ W (i + 1) m' σ' H') ∧ ∀ x H', J.yld i H x H' → g x σ H' fun σ2 H2 => tb { D with nx := N, ct := N, bk := D.nx } σ2 H2) := by
  refine ⟨fun i m σ H => m = n - i ∧ i ≤ n ∧ Pv i σ H, ⟨n, by simp, Nat.zero_le _, h0⟩, ?_⟩
  rintro i m σ H ⟨rfl, hi, p⟩
  by_cases hlt : i < n
  · exact .inr ⟨wk.go i H hlt ⟨σ, p⟩, Pv (i + 1), fun σ' H' p' => ⟨n - (i + 1), by omega, rfl, hlt, p'⟩, fun x H' y => turn i x σ H H' hlt p (wk.yld i H x H' hlt ⟨σ, p⟩ y)⟩
  · obtain rfl : i = n := by omega
    exact .inl ⟨wk.stop H ⟨σ, p⟩, done σ H p⟩
/-- what stands behind i turns of [e for x in ..]: acc in the new list at D -/
def LcI (D : Addr) (Pv : Nat → List V → Hp → Prop) (i : Nat) : Hp → Prop := fun H => ∃ acc, acc.length ≤ i ∧ Pv i acc H ∧ H D = some (.lst acc)
/-- the item y is put -/
def LcK (D : Addr) (N : Hp → Prop) : VK := fun y H4 => ∃ acc, H4 D = some (.lst acc) ∧ acc.length < sizeLine ∧ N (upd H4 D (.lst (acc ++ [y])))
theorem lc_put {D : Addr} {Pv : Nat → List V → Hp → Prop} {i : Nat} {acc : List V} {y : V} {H : Hp} (h : H D = some (.lst acc)) (hl : acc.length ≤ i) (hi : i < 1000000) (hp : ∀ H', Wr H D (.lst (acc ++ [y])) H' → Pv (i + 1) (acc ++ [y]) H') : LcK D (LcI D Pv (i + 1)) y H :=
  ⟨acc, h, Nat.lt_of_lt_of_le (Nat.lt_of_le_of_lt hl hi) (by rw [sizeLine_eq]; decide), acc ++ [y], by simp; omega, hp _ .of, upd_same⟩
theorem lc_by {J : It} {n : Nat} {item : Nat → V → Hp → Hp → Prop} {g : TG} {tt : TT} {te : TE} {vs : List Nat} {σ : St} {H1 : Hp} {D : Addr} {Qd : Hp → Prop} (hD : H1 D = none) (Pv : Nat → List V → Hp → Prop)
    (wk : Walk (fun i H => ∃ acc, Pv i acc H) J n item) (h0 : ∀ H', Nw H1 D (.lst []) H' → Pv 0 [] H')
    (turn : ∀ i x acc H H', i < n → Pv i acc H → H D = some (.lst acc) → acc.length ≤ i → item i x H H' → g x (wipe σ vs) H' fun σ2 H2 => wipe σ2 vs = wipe σ vs ∧ tt σ2 H2 fun b H3 => if b = true then te σ2 H3 (LcK D (LcI D Pv (i + 1))) else LcI D Pv (i + 1) H3)
    (done : ∀ acc H, Pv n acc H → H D = some (.lst acc) → acc.length ≤ n → Qd H) :
    ∃ W : Nat → Nat → Hp → Prop, (∃ m, W 0 m (upd H1 D (.lst []))) ∧ ∀ i m H, W i m H →
      (J.stop i H ∧ Qd H) ∨ (J.go i H ∧ ∃ Nx : Hp → Prop, (∀ H', Nx H' → ∃ m', m' < m ∧ W (i + 1) m' H') ∧ ∀ x H', J.yld i H x H' → g x (wipe σ vs) H' fun σ2 H2 => wipe σ2 vs = wipe σ vs ∧ tt σ2 H2 fun b H3 =>
        if b = true then te σ2 H3 fun y H4 => ∃ acc, H4 D = some (.lst acc) ∧ acc.length < sizeLine ∧ Nx (upd H4 D (.lst (acc ++ [y]))) else Nx H3) := by
  refine ⟨fun i m H => m = n - i ∧ i ≤ n ∧ LcI D Pv i H, ⟨n, by simp, Nat.zero_le _, [], Nat.le_refl _, h0 _ (.of hD), upd_same⟩, ?_⟩
  rintro i m H ⟨rfl, hi, acc, hl, p, hd⟩
  by_cases hlt : i < n
  · exact .inr ⟨wk.go i H hlt ⟨acc, p⟩, LcI D Pv (i + 1), fun H' p' => ⟨n - (i + 1), by omega, rfl, hlt, p'⟩, fun x H' y => turn i x acc H H' hlt p hd hl (wk.yld i H x H' hlt ⟨acc, p⟩ y)⟩
  · obtain rfl : i = n := by omega
    exact .inl ⟨wk.stop H ⟨acc, p⟩, done acc H p hd hl⟩
end L2

end
section
set_option maxHeartbeats 1000000
/-! The pen that draws; heaps that grow. -/
namespace SB
open PySem PySem.Spec PyProof.Rows L2 SBX

/-- a new object -/
theorem new_at {H : Hp} {a : Addr} {o : HO} {R : Hp → Prop} (hn : H a = none) (h : ∀ H', Same H H' → H' a = some o → (∀ b, b ≠ a → H' b = H b) → R H') : R (upd H a o) :=
  h _ (fun b u e => by rw [upd_ne (ne_of_none e hn)]; exact e) upd_same fun b hb => upd_ne hb
/-- the pen at p behind at most n draws, its cells at c; F: what stands beside it -/
structure Pen (F H : Hp) (p c : Addr) (n : Nat) : Prop where
  ex : ∃ (xs : List Int) (spot rest : Int), H p = some (.lst [.ref c, .int spot, .int rest]) ∧ F c = some (.lst (xs.map V.int)) ∧ xs.length ≤ 63 ∧ 0 ≤ spot ∧ spot ≤ n ∧ 0 ≤ rest
  same : Same F H
  off : F p = none
theorem Pen.mono {F H : Hp} {p c : Addr} {m n : Nat} (P : Pen F H p c m) (h : m ≤ n) : Pen F H p c n := by
  obtain ⟨⟨xs, spot, rest, h1, h2, h3, h4, h5, h6⟩, s, o⟩ := P
  exact ⟨⟨xs, spot, rest, h1, h2, h3, h4, by omega, h6⟩, s, o⟩
/-- the heap grows beside the pen, nothing of it is kept in mind -/
theorem Pen.ext {F H H' : Hp} {p c : Addr} {n : Nat} (P : Pen F H p c n) (s : Same H H') : Pen F H' p c n := by
  obtain ⟨⟨xs, spot, rest, h1, h2, h3, h4, h5, h6⟩, s0, off⟩ := P
  exact ⟨⟨xs, spot, rest, s _ _ h1, h2, h3, h4, h5, h6⟩, s0.trans s, off⟩
/-- what is kept in mind is all that the heap holds beside the pen -/
def offP (H : Hp) (p : Addr) : Hp := fun b => if b = p then none else H b
theorem offP_at {H : Hp} {p b : Addr} {o : HO} (h : H b = some o) (hb : b ≠ p) : offP H p b = some o := by
  unfold offP; rw [if_neg hb]; exact h
/-- all that stands now is kept in mind -/
theorem Pen.all {F H : Hp} {p c : Addr} {n : Nat} (P : Pen F H p c n) : Pen (offP H p) H p c n ∧ Same F (offP H p) := by
  obtain ⟨⟨xs, spot, rest, h1, h2, h3, h4, h5, h6⟩, s0, off⟩ := P
  have hs : Same F (offP H p) := fun b o e => offP_at (s0 _ _ e) (fun z => by rw [z, off] at e; cases e)
  exact ⟨⟨⟨xs, spot, rest, h1, hs _ _ h2, h3, h4, h5, h6⟩, fun b o e => by
    unfold offP at e
    by_cases hb : b = p
    · rw [if_pos hb] at e; cases e
    · rw [if_neg hb] at e; exact e, by unfold offP; rw [if_pos rfl]⟩, hs⟩
/-- a new object is kept in mind, too -/
theorem Pen.nw {F H H' : Hp} {p c a : Addr} {o : HO} {n : Nat} (P : Pen F H p c n) (w : Nw H a o H') : Pen (offP H' p) H' p c n ∧ Same F (offP H' p) ∧ offP H' p a = some o := by
  obtain ⟨P1, s1⟩ := (P.ext w.same).all
  obtain ⟨⟨xs, spot, rest, h1, _⟩, _, _⟩ := P
  exact ⟨P1, s1, offP_at w.at_ (ne_of_none h1 w.free).symm⟩
/-- something beside the pen is written that is not kept in mind -/
theorem Pen.wr {F H H' : Hp} {p c a : Addr} {o : HO} {n : Nat} (P : Pen F H p c n) (w : Wr H a o H') (hp : p ≠ a) (hF : F a = none) : Pen F H' p c n := by
  obtain ⟨⟨xs, spot, rest, h1, h2, h3, h4, h5, h6⟩, s0, off⟩ := P
  exact ⟨⟨xs, spot, rest, by rw [w.oth p hp]; exact h1, h2, h3, h4, h5, h6⟩, w.same s0 hF, off⟩
theorem Pen.at_ {F H : Hp} {p c : Addr} {n : Nat} (P : Pen F H p c n) : ∃ o, H p = some o := by
  obtain ⟨⟨xs, spot, rest, h1, _⟩, _, _⟩ := P
  exact ⟨_, h1⟩
/-- less is kept in mind -/
theorem Pen.back {F F' H H' : Hp} {p c : Addr} {m n : Nat} (P0 : Pen F H p c m) (P : Pen F' H' p c n) (s : Same F F') : Pen F H' p c n := by
  obtain ⟨⟨xs0, _, _, _, g2, g3, _⟩, _, _⟩ := P0
  obtain ⟨⟨xs, spot, rest, h1, h2, h3, h4, h5, h6⟩, s0, off⟩ := P
  exact ⟨⟨xs0, spot, rest, h1, g2, g3, h4, h5, h6⟩, s.trans s0, s.free off⟩
theorem Pen.ne {F H : Hp} {p c b : Addr} {n : Nat} {o : HO} (P : Pen F H p c n) (h : F b = some o) : b ≠ p := fun z => by
  rw [z, P.off] at h
  cases h
theorem Same.put {F H : Hp} {p : Addr} {o : HO} (s : Same F H) (off : F p = none) : Same F (upd H p o) := fun b u e => by
  have hb : b ≠ p := fun z => by rw [z, off] at e; cases e
  rw [upd_ne hb]; exact s b u e
theorem Same.new {F H : Hp} {l : Addr} {o : HO} (s : Same F H) (hl : H l = none) : Same F (upd H l o) := fun b u e => by
  rw [upd_ne (ne_of_none (s b u e) hl)]; exact s b u e
theorem atI_ints {xs : List Int} {i : Int} (hne : xs ≠ []) (h0 : 0 ≤ i) (h1 : i < xs.length) : ∃ z : Int, atI (xs.map V.int) i = some (.int z) := by
  obtain ⟨j, rfl⟩ := Int.eq_ofNat_of_zero_le h0
  have hj : j < xs.length := by omega
  exact ⟨xs[j], atI_nat (by simp [hj])⟩
theorem cpow {i : Int} {j : Int} (h0 : 0 ≤ i) (h1 : i < 18446744073709551616) (h2 : 0 ≤ j) (h3 : j ≤ 1000000) : CPow i j := ⟨h2, h3, by omega⟩
theorem cmulL {i j : Int} (h0 : -18446744073709551616 < i) (h1 : i < 18446744073709551616) : CMul i j := .inl ⟨by omega, by omega⟩

theorem dp_ints {K : PySem.W.Frag} {H : Hp} : ∀ xs : List Int, DpAll K H (xs.map V.int) (xs.map PyData.int)
  | [] => .nil
  | x :: xs => .cons (.int x) (dp_ints xs)
theorem canLay_ints : ∀ xs : List Int, PyData.canLayAll0 (xs.map PyData.int) = true
  | [] => rfl
  | x :: xs => by
    show (PyData.canLay0 (.int x) && PyData.canLayAll0 (xs.map PyData.int)) = true
    rw [canLay_ints xs]; rfl
theorem depth_ints : ∀ xs : List Int, PyData.depthAll (xs.map PyData.int) ≤ 1
  | [] => by decide
  | x :: xs => by
    have := depth_ints xs
    show max _ (PyData.depthAll (xs.map PyData.int)) ≤ 1
    simp [PyData.depth]; omega
theorem shaped_ints (xs : List Int) : SeqAt.shaped (.list (xs.map PyData.int)) = true := by
  have := depth_ints xs
  unfold SeqAt.shaped
  rw [Bool.and_eq_true]
  refine ⟨?_, decide_eq_true ?_⟩
  · show PyData.canLayAll0 _ = true
    exact canLay_ints xs
  · simp only [PyData.depth]; omega
theorem eqv_nil (xs : List Int) : PyData.eqv (.list (xs.map PyData.int)) (.list []) = decide (xs = []) := by
  cases xs with
  | nil => rfl
  | cons x xs => rfl
/-- cells != [] -/
theorem rd_neNil {K : PySem.W.Frag} {H : Hp} {c l : Addr} {xs : List Int} {Q : VK} (hx : SqL K H c (xs.map V.int)) (hl : SqL K H l []) (h : Q (.bl (!decide (xs = []))) H) : rNeD K (.ref c) (.ref l) H Q :=
  ⟨_, _, .lst hx (dp_ints xs), .lst hl .nil, shaped_ints xs, by decide +kernel, by rw [eqv_nil]; exact h⟩
theorem iteD {c A B : Prop} [Decidable c] (h1 : c → A) (h2 : ¬ c → B) : if decide c = true then A else B := by
  by_cases h : c
  · rw [if_pos (decide_eq_true h)]; exact h1 h
  · rw [if_neg (by simp [h])]; exact h2 h
theorem iteDT {c A B : Prop} [Decidable c] (hc : c) (h : A) : if decide c = true then A else B := by
  rw [if_pos (decide_eq_true hc)]; exact h
theorem iteDF {c A B : Prop} [Decidable c] (hc : ¬ c) (h : B) : if decide c = true then A else B := by
  rw [if_neg (by simp [hc])]; exact h
theorem iteN {c A B : Prop} [Decidable c] (h1 : ¬ c → A) (h2 : c → B) : if (!decide c) = true then A else B := by
  by_cases h : c
  · rw [if_neg (by simp [h])]; exact h2 h
  · rw [if_pos (by simp [h])]; exact h1 h
theorem yes_ {te : TE} {σ : L2.St} {H : Hp} {k : VK} {R : Hp → Prop} (h : te σ H k) : tYes σ H (fun b H3 => if b = true then te σ H3 k else R H3) := by
  show (if true = true then te σ H k else R H)
  rw [if_pos rfl]
  exact h
end SB

end
section
set_option maxHeartbeats 1000000
/-! Words: what is left, what is refused; plain Lean. -/
namespace SB
open PySem PySem.Spec PyProof.Rows L2 SBX

def ABC : List Nat := ("ABCDabcd" : Str).cps.toList
theorem abc_eq : ABC = [65, 66, 67, 68, 97, 98, 99, 100] := by decide +kernel
/-- a letter -/
def isL (c : Nat) : Bool := decide (c ∈ ABC)
theorem isL_iff {c : Nat} : isL c = true ↔ (c = 65 ∨ c = 66 ∨ c = 67 ∨ c = 68 ∨ c = 97 ∨ c = 98 ∨ c = 99 ∨ c = 100) := by
  unfold isL
  rw [abc_eq]
  simp
/-- the undoing of a letter, any other sign itself -/
def und (c : Nat) : Nat := if isL c then (if c < 97 then c + 32 else c - 32) else c
theorem und_L {c : Nat} (h : isL c = true) : isL (und c) = true := by
  rcases isL_iff.mp h with rfl | rfl | rfl | rfl | rfl | rfl | rfl | rfl <;> decide +kernel
theorem und_und {c : Nat} (h : isL c = true) : und (und c) = c := by
  rcases isL_iff.mp h with rfl | rfl | rfl | rfl | rfl | rfl | rfl | rfl <;> decide +kernel
theorem und_ne {c : Nat} (h : isL c = true) : und c ≠ c := by
  rcases isL_iff.mp h with rfl | rfl | rfl | rfl | rfl | rfl | rfl | rfl <;> decide +kernel
theorem swap_L {c : Nat} (h : isL c = true) : Txt.swapcase (tx [c]) = tx [und c] := by
  rcases isL_iff.mp h with rfl | rfl | rfl | rfl | rfl | rfl | rfl | rfl <;> decide +kernel
theorem swap_nil : Txt.swapcase (tx []) = tx [] := by decide +kernel
theorem tx_inj {a b : List Nat} (h : tx a = tx b) : a = b := by
  have := congrArg (fun s : Str => s.cps.toList) h
  simpa using this
theorem T_inj {a b : List Nat} : T a = T b ↔ a = b := ⟨fun h => tx_inj (V.str.inj h), fun h => by rw [h]⟩

/-- the i-th sign cannot stand -/
def badAt (l : List Nat) (i : Nat) : Bool := match l[i]? with
  | none => false
  | some c => !isL c || (match i with
    | 0 => false
    | j + 1 => decide (l[j]? = some (und c)))
def oddAt (l : List Nat) (i : Nat) : Bool := match l[i]? with
  | none => false
  | some c => !isL c
def firstBad (l : List Nat) : Option Nat := (List.range l.length).find? (badAt l)
def firstOdd (l : List Nat) : Option Nat := (List.range l.length).find? (oddAt l)
theorem first_some {p : Nat → Bool} {n w : Nat} (hw : w < n) (hp : p w = true) (hb : ∀ j, j < w → p j = false) : (List.range n).find? p = some w := by
  rw [List.find?_range_eq_some]
  exact ⟨hp, by simpa using hw, fun j hj => by simp [hb j hj]⟩
theorem first_none {p : Nat → Bool} {n : Nat} (h : ∀ j, j < n → p j = false) : (List.range n).find? p = none := by
  rw [List.find?_eq_none]
  intro x hx
  simp [h x (List.mem_range.mp hx)]
theorem first_inv {p : Nat → Bool} {n : Nat} {r : Option Nat} (h : (List.range n).find? p = r) : match r with
    | none => ∀ j, j < n → p j = false
    | some w => w < n ∧ p w = true ∧ ∀ j, j < w → p j = false := by
  cases r with
  | none =>
    rw [List.find?_eq_none] at h
    exact fun j hj => by simpa using h j (List.mem_range.mpr hj)
  | some w =>
    rw [List.find?_range_eq_some] at h
    obtain ⟨h1, h2, h3⟩ := h
    exact ⟨by simpa using h2, h1, fun j hj => by simpa using h3 j hj⟩

/-- one letter behind a row: struck out with its undoing -/
def push (s : List Nat) (c : Nat) : List Nat := if s.getLast? = some (und c) then s.dropLast else s ++ [c]
def red (l : List Nat) : List Nat := l.foldl push []
/-- no undoings side by side -/
def Row : List Nat → Prop
  | [] => True
  | [_] => True
  | a :: b :: r => a ≠ und b ∧ Row (b :: r)
def AllL (l : List Nat) : Prop := ∀ c ∈ l, isL c = true
/-- each sign can stand -/
def Good (l : List Nat) : Prop := ∀ j, j < l.length → badAt l j = false
theorem badAt_app {s t : List Nat} {j : Nat} (h : j < s.length) : badAt (s ++ t) j = badAt s j := by
  unfold badAt
  rw [List.getElem?_append_left h]
  cases s[j]? with
  | none => rfl
  | some c =>
    cases j with
    | zero => rfl
    | succ j =>
      show (!isL c || decide ((s ++ t)[j]? = some (und c))) = (!isL c || decide (s[j]? = some (und c)))
      rw [List.getElem?_append_left (by omega)]
theorem badAt_last {s : List Nat} {c : Nat} : badAt (s ++ [c]) s.length = (!isL c || decide (s.getLast? = some (und c))) := by
  unfold badAt
  have e : (s ++ [c])[s.length]? = some c := by simp
  rw [e]
  cases s with
  | nil => simp
  | cons a r =>
    show (!isL c || decide ((a :: r ++ [c])[r.length]? = some (und c))) = _
    have e2 : (a :: r ++ [c])[r.length]? = (a :: r).getLast? := by
      rw [List.getElem?_append_left (by simp), List.getLast?_eq_getElem?]
      simp
    rw [e2]
theorem good_nil : Good [] := fun j h => by simp at h
theorem good_app {s t : List Nat} (h : Good (s ++ t)) : Good s := fun j hj => by
  rw [← badAt_app (t := t) hj]
  exact h j (by rw [List.length_append]; omega)
theorem good_snoc {s : List Nat} {c : Nat} : Good (s ++ [c]) ↔ Good s ∧ isL c = true ∧ s.getLast? ≠ some (und c) := by
  constructor
  · intro h
    have hl := h s.length (by simp)
    rw [badAt_last] at hl
    simp at hl
    exact ⟨good_app h, hl.1, hl.2⟩
  · rintro ⟨h1, h2, h3⟩ j hj
    rw [List.length_append, List.length_singleton] at hj
    by_cases e : j < s.length
    · rw [badAt_app e]; exact h1 j e
    · obtain rfl : j = s.length := by omega
      rw [badAt_last]
      simp [h2, h3]
theorem good_take {l : List Nat} (h : Good l) (n : Nat) : Good (l.take n) := by
  have e := List.take_append_drop n l
  rw [← e] at h
  exact good_app h
theorem snoc_of {s : List Nat} {c : Nat} (h : s.getLast? = some c) : s = s.dropLast ++ [c] := by
  have hne : s ≠ [] := fun e => by rw [e] at h; cases h
  have e := List.dropLast_concat_getLast hne
  have h2 : s.getLast? = some (s.getLast hne) := by
    cases s with
    | nil => exact absurd rfl hne
    | cons a r => rfl
  rw [h2] at h
  rw [← Option.some.inj h]
  exact e.symm
theorem push_good {s : List Nat} {c : Nat} (h : Good s) (hc : isL c = true) : Good (push s c) := by
  unfold push
  split
  · rename_i e
    rw [snoc_of e] at h
    exact good_app h
  · rename_i e
    exact good_snoc.mpr ⟨h, hc, e⟩
theorem foldl_good {l : List Nat} (hl : AllL l) : ∀ {s : List Nat}, Good s → Good (l.foldl push s) := by
  induction l with
  | nil => exact fun h => h
  | cons c r ih =>
    intro s h
    exact ih (fun d hd => hl d (List.mem_cons_of_mem _ hd)) (push_good h (hl c List.mem_cons_self))
theorem red_good {l : List Nat} (hl : AllL l) : Good (red l) := foldl_good hl good_nil
theorem red_snoc (s : List Nat) (c : Nat) : red (s ++ [c]) = push (red s) c := by
  unfold red
  rw [List.foldl_append]
  rfl
theorem red_of_good {l : List Nat} : Good l → red l = l := by
  induction h : l.length generalizing l with
  | zero =>
    intro _
    rw [List.length_eq_zero_iff.mp h]; rfl
  | succ n ih =>
    intro hg
    have hne : l ≠ [] := fun e => by rw [e] at h; cases h
    have e := List.dropLast_concat_getLast hne
    rw [← e] at hg ⊢
    obtain ⟨g1, g2, g3⟩ := good_snoc.mp hg
    rw [red_snoc, ih (by simp [h]) g1]
    unfold push
    rw [if_neg g3]
/-- a pair of undoings side by side -/
theorem push_pair {s : List Nat} {a b : Nat} (h : Good s) (ha : isL a = true) (hb : isL b = true) (e : a = und b) : push (push s a) b = s := by
  subst e
  unfold push
  rw [und_und hb]
  by_cases c : s.getLast? = some b
  · rw [if_pos c]
    have e1 := snoc_of c
    rw [e1] at h
    obtain ⟨_, _, g3⟩ := good_snoc.mp h
    rw [if_neg g3]
    exact e1.symm
  · rw [if_neg c]
    simp
theorem red_pair {x y : List Nat} {a b : Nat} (hx : AllL x) (ha : isL a = true) (hb : isL b = true) (e : a = und b) : red (x ++ a :: b :: y) = red (x ++ y) := by
  unfold red
  rw [List.foldl_append, List.foldl_append]
  show List.foldl push (push (push (List.foldl push [] x) a) b) y = _
  have z := push_pair (red_good hx) ha hb e
  unfold red at z
  rw [z]
theorem push_length (s : List Nat) (c : Nat) : (push s c).length ≤ s.length + 1 := by
  unfold push
  split
  · simp; omega
  · simp
theorem red_length (l : List Nat) : (red l).length ≤ l.length := by
  have : ∀ (l s : List Nat), (l.foldl push s).length ≤ s.length + l.length := by
    intro l
    induction l with
    | nil => intro s; simp
    | cons c r ih =>
      intro s
      have h1 := ih (push s c)
      have h2 := push_length s c
      show (r.foldl push (push s c)).length ≤ _
      simp only [List.length_cons]
      omega
  have q := this l []
  unfold red
  simpa using q
theorem good_allL {l : List Nat} (h : Good l) : AllL l := by
  intro c hc
  obtain ⟨i, hi, rfl⟩ := List.getElem_of_mem hc
  have := h i hi
  unfold badAt at this
  rw [List.getElem?_eq_getElem hi] at this
  simp at this
  exact this.1
theorem firstBad_good {l : List Nat} (h : Good l) : firstBad l = none := first_none h
theorem good_of_none {l : List Nat} (h : firstBad l = none) : Good l := first_inv h
theorem firstOdd_allL {l : List Nat} (h : AllL l) : firstOdd l = none := first_none fun j hj => by
  unfold oddAt
  rw [List.getElem?_eq_getElem hj]
  simp [h _ (List.getElem_mem hj)]
theorem allL_of_none {l : List Nat} (h : firstOdd l = none) : AllL l := by
  intro c hc
  obtain ⟨i, hi, rfl⟩ := List.getElem_of_mem hc
  have := (first_inv h : ∀ j, j < l.length → oddAt l j = false) i hi
  unfold oddAt at this
  rw [List.getElem?_eq_getElem hi] at this
  simpa using this

/-! ### what the making of a word says -/
inductive Res where
  | ok (l : List Nat)
  | bad (w : Nat)
  | many
def wordRes (l : List Nat) : Res := match firstBad l with
  | some w => .bad w
  | none => if l.length ≤ 4000 then .ok l else .many
def ofRes (l : List Nat) : Res := match firstOdd l with
  | some w => .bad w
  | none => if (red l).length ≤ 4000 then .ok (red l) else .many
theorem wordRes_red {l : List Nat} (h : AllL l) : wordRes (red l) = if (red l).length ≤ 4000 then .ok (red l) else .many := by
  unfold wordRes
  rw [firstBad_good (red_good h)]
/-- the fields of a word -/
def wf (l : List Nat) : List (Str × V) := [("letters", T l), ("size", .int (l.length : Nat))]
/-- a word of these letters stands at a -/
def WordAt (K : PySem.W.Frag) (H : Hp) (a : Addr) (l : List Nat) : Prop := ∃ dx, H a = some (.ins (He.ga K "Word") dx (wf l)) ∧ l.length ≤ 4000
theorem WordAt.same {K : PySem.W.Frag} {H H' : Hp} {a : Addr} {l : List Nat} (w : WordAt K H a l) (s : Same H H') : WordAt K H' a l := by
  obtain ⟨dx, e, h⟩ := w
  exact ⟨dx, s _ _ e, h⟩
/-- an exception of the class at C with these fields goes out -/
def Rz (H : Hp) (C : Addr) (fs : List (Str × V)) (E : XK) : Prop := ∀ d H', Same H H' → H d = none → H' d = some (.xd fs) → E (.ref C) (some d) H'
theorem Rz.same {H H1 : Hp} {C : Addr} {fs : List (Str × V)} {E : XK} (r : Rz H C fs E) (s : Same H H1) : Rz H1 C fs E := fun d H' s' n e => r d H' (s.trans s') (s.free n) e
theorem Rz.go {H : Hp} {C : Addr} {fs : List (Str × V)} {E : XK} (r : Rz H C fs E) : ∀ d, H d = none → E (.ref C) (some d) (upd H d (.xd fs)) := fun d hd => r d _ (fun b u e => by rw [upd_ne (ne_of_none e hd)]; exact e) hd upd_same
def ResR (K : PySem.W.Frag) (H : Hp) (Q : VK) (E : XK) : Res → Prop
  | .ok l => ∀ a H', Same H H' → H a = none → WordAt K H' a l → Q (.ref a) H'
  | .bad w => Rz H (He.ga K "BadWord") [("at", .int (w : Nat))] E
  | .many => Rz H (He.ga K "TooMany") [("what", .str "letters"), ("most", .int 4000)] E
theorem ResR.same {K : PySem.W.Frag} {H H1 : Hp} {Q : VK} {E : XK} {r : Res} (h : ResR K H Q E r) (s : Same H H1) : ResR K H1 Q E r := by
  cases r with
  | ok l => exact fun a H' s' n w => h a H' (s.trans s') (s.free n) w
  | bad w => exact Rz.same h s
  | many => exact Rz.same h s
/-- what the value v makes: f of its text, or no text -/
def ValR (K : PySem.W.Frag) (f : List Nat → Res) (v : V) (H : Hp) (Q : VK) (E : XK) : Prop :=
  (∃ l, v = T l ∧ l.length ≤ 1000000 ∧ ResR K H Q E (f l)) ∨ (∃ t, TyZ K H v t ∧ PySem.W.kitOne K t (.type "str") = some false ∧ ResR K H Q E (.bad 0))
end SB

end
section
set_option maxHeartbeats 1000000
/-! Calls of classes and static methods by what they make. -/
namespace L2
open PySem PySem.Spec PyProof.Rows SB
theorem TyZ.same {K : PySem.W.Frag} {H H' : Hp} {x : V} {t : Value} (h : TyZ K H x t) (s : Same H H') : TyZ K H' x t := by
  cases h with
  | base b =>
    refine .base ?_
    cases b with
    | base c =>
      refine .base ?_
      cases c with
      | non => exact .non
      | bl x => exact .bl x
      | int i => exact .int i
      | str x => exact .str x
      | flt x => exact .flt x
      | lst e => exact .lst (s _ _ e)
      | frz e => exact .frz (s _ _ e)
      | tup e => exact .tup (s _ _ e)
      | dK e => exact .dK (s _ _ e)
      | dT e => exact .dT (s _ _ e)
      | ins e cl ha hn ht hm => exact .ins (s _ _ e) cl ha hn ht hm
    | byt b => exact .byt b
    | set e => exact .set (s _ _ e)
    | kList e c => exact .kList e c
    | kTuple e c => exact .kTuple e c
    | kDict e c => exact .kDict e c
    | fTuple e => exact .fTuple (s _ _ e)
    | fDict e => exact .fDict (s _ _ e)
  | exc e hd c => exact .exc (s _ _ e) (fun b hb => let ⟨fs, q⟩ := hd b hb; ⟨fs, s _ _ q⟩) c
section
variable {X : Cx} {x f : Str} {p pos pos' apos : Pos} {e o value : Expr} {es : List Expr} {t tk : TA} {ta tv : TE} {a : Addr} {r : List V → Hp → VK → Prop} {kws : List Keyword} {ks : List Str}
/-- o.f = value, the fields behind it named -/
def sFldV (K : PySem.W.Frag) (ta tv : TE) (f : Str) : TS := fun D σ H => tv σ H fun y H1 => ta σ H1 fun x H2 => ∃ a C dx fs fs', x = .ref a ∧ H2 a = some (.ins C dx fs) ∧ Cls K C ∧ NoAttr K C f ∧ fs.length < 1000 ∧ putF f y fs = fs' ∧
  ∀ H', Wr H2 a (.ins C dx fs') H' → D.nx σ H'
theorem ps_fldV (ha : PE X o ta) (hv : PE X value tv) (hs : swapsWith value (some (.Attribute o f pos')) pos.line X.env = pure false := by rfl) : PS X (.Assign [.Attribute o f pos'] value pos) (sFldV X.K ta tv f) := by
  refine ⟨fun pins s σ H D I h => ?_⟩
  refine plainObj_wpAny_Assign_Attribute (thn (hv.run pins s σ H _ I h) fun u s1 hh => ?_) hs
  obtain ⟨y, H1, I1, ry, q⟩ := hh
  refine thn (ha.run pins s1 σ H1 _ I1 q) fun ov s2 hh => ?_
  obtain ⟨x, H2, I2, rx, a, C, dx, fs, fs', ex, ea, c, n, l, efs, q2⟩ := hh
  subst ex efs
  obtain rfl : ov = Value.ref a := rx
  exact setattr_ok I2 ea c n l ry fun s3 I3 => ⟨σ, _, I3, q2 _ .of⟩
/-- g(e, ..), g a global name of an object of the text -/
theorem pe_callRef (hc : CallR X (.ref a) r) (hm : X.mg x = some (.ref a)) (hk : PySem.W.keepIn X.K (.ref a) = true) (ha : PA X (e :: es) t) (hg : Gl X x := by rfl) (hdb : (x == ("__debug__" : Str)) = false := by decide)
    (he : starEach (e :: es) X.env = (false, eval e X.env) :: starEach es X.env := by rfl) (hpl : (backTo pos (starEach es X.env)).any (·.1) = false := by rfl) : PE X (.Call (.Name x p) (e :: es) [] pos) (tCB r t) := by
  refine ⟨fun pins s σ H Q I h => ?_⟩
  refine wpAny_Call_Name_kw (ld_glob I hg hm ?_ hdb)
  refine PySem.W.callWith_K (h₀ := X.base) I.ok.mod.kin hk (thn (ha.run pos pins s σ H _ I h) fun us s1 hh => ?_) he hpl
  obtain ⟨vs, H1, I1, r1, q⟩ := hh
  exact ⟨I1.kIn, hc pins s1 σ H1 vs us Q I1 r1 q⟩
theorem pe_callRef0 (hc : CallR X (.ref a) r) (hm : X.mg x = some (.ref a)) (hk : PySem.W.keepIn X.K (.ref a) = true) (hg : Gl X x := by rfl) (hdb : (x == ("__debug__" : Str)) = false := by decide) : PE X (.Call (.Name x p) [] [] pos) (tCB r tNil) := by
  refine ⟨fun pins s σ H Q I h => ?_⟩
  refine wpAny_Call_Name_kw (ld_glob I hg hm ?_ hdb)
  exact PySem.W.callWith_K0 I.kIn hk (hc pins s σ H [] [] Q I .nil h)
/-- g(k = v, ..) -/
theorem pe_callRefK {rk : List V → List V → Hp → VK → Prop} (hc : CallRK X (.ref a) ks rk) (hm : X.mg x = some (.ref a)) (hk : PySem.W.keepIn X.K (.ref a) = true) (hkw : PK X kws tk) (hg : Gl X x := by rfl)
    (hall : (backToKw pos (keywordEach kws X.env)).all (·.1.isSome) = true := by rfl) (hks : (backToKw pos (keywordEach kws X.env)).filterMap (·.1) = ks := by rfl)
    (hdb : (x == ("__debug__" : Str)) = false := by decide) (hpl : ((backTo pos (starEach [] X.env)).any (·.1) || (backToKw pos (keywordEach kws X.env)).any (·.1.isNone)) = false := by rfl) :
    PE X (.Call (.Name x p) [] kws pos) (tCB (fun zs H Q => rk [] zs H Q) tk) := by
  refine ⟨fun pins s σ H Q I h => ?_⟩
  refine wpAny_Call_Name_kw (ld_glob I hg hm ?_ hdb)
  refine PySem.W.callWith_KW0 (h₀ := X.base) I.ok.mod.kin hk hall ?_ hpl
  refine thn (hkw.run pos pins s σ H _ I h) fun ws s2 hh => ?_
  obtain ⟨zs, H2, I2, rz, q2⟩ := hh
  refine ⟨I2.kIn, ?_⟩
  rw [hks]
  exact hc pins s2 σ H2 [] zs [] ws Q I2 .nil rz q2
/-- C.m(e, ..), C.m(k = v, ..): static methods -/
theorem pe_smethR {C g : Addr} {m : Str} {pl : Sem Bool} (he : PE X o (tC (.ref C))) (c : SMet X.K C m g) (hc : CallR X (.ref g) r) (hk : PySem.W.keepIn X.K (.ref g) = true) (ha : PA X (e :: es) t)
    (hst : starEach (e :: es) X.env = (false, eval e X.env) :: starEach es X.env := by rfl) (hpl : (backTo pos (starEach es X.env)).any (·.1) = false := by rfl)
    (ht : eval (.Call (.Attribute o m apos) (e :: es) [] pos) X.env = (do
      let ov ← eval o X.env
      standAt apos.atName
      let (f, first) ← holding [ov] (getMethod ov m pl)
      callWith pos f first (backTo pos (starEach (e :: es) X.env)) (backToKw pos (keywordEach [] X.env))) := by rfl) :
    PE X (.Call (.Attribute o m apos) (e :: es) [] pos) (tCB r t) := by
  refine ⟨fun pins s σ H Q I h => ?_⟩
  refine PySem.W.methodCall_KW (pl := pl) (thn (he.run pins s σ H (fun x H1 => x = .ref C ∧ H1 = H) I ⟨rfl, rfl⟩) fun u s1 hh => ?_) ht
  obtain ⟨x, H1, I1, rx, ex, eh⟩ := hh
  subst ex eh
  obtain rfl : u = Value.ref C := rx
  refine getmethsm_ok I1 c fun s2 I2 => ?_
  refine PySem.W.callWith_K (h₀ := X.base) I.ok.mod.kin hk (thn (ha.run pos pins s2 σ _ _ I2 h) fun us s3 hh => ?_) hst hpl
  obtain ⟨vs, H2, I3, r1, q2⟩ := hh
  exact ⟨I3.kIn, hc pins s3 σ H2 vs us Q I3 r1 q2⟩
theorem pe_smethRK {C g : Addr} {m : Str} {pl : Sem Bool} {rk : List V → List V → Hp → VK → Prop} (he : PE X o (tC (.ref C))) (c : SMet X.K C m g) (hc : CallRK X (.ref g) ks rk) (hk : PySem.W.keepIn X.K (.ref g) = true) (hkw : PK X kws tk)
    (hall : (backToKw pos (keywordEach kws X.env)).all (·.1.isSome) = true := by rfl) (hks : (backToKw pos (keywordEach kws X.env)).filterMap (·.1) = ks := by rfl)
    (hpl : ((backTo pos (starEach [] X.env)).any (·.1) || (backToKw pos (keywordEach kws X.env)).any (·.1.isNone)) = false := by rfl)
    (ht : eval (.Call (.Attribute o m apos) [] kws pos) X.env = (do
      let ov ← eval o X.env
      standAt apos.atName
      let (f, first) ← holding [ov] (getMethod ov m pl)
      callWith pos f first (backTo pos (starEach [] X.env)) (backToKw pos (keywordEach kws X.env))) := by rfl) :
    PE X (.Call (.Attribute o m apos) [] kws pos) (tCB (fun zs H Q => rk [] zs H Q) tk) := by
  refine ⟨fun pins s σ H Q I h => ?_⟩
  refine PySem.W.methodCall_KW (pl := pl) (thn (he.run pins s σ H (fun x H1 => x = .ref C ∧ H1 = H) I ⟨rfl, rfl⟩) fun u s1 hh => ?_) ht
  obtain ⟨x, H1, I1, rx, ex, eh⟩ := hh
  subst ex eh
  obtain rfl : u = Value.ref C := rx
  refine getmethsm_ok I1 c fun s2 I2 => ?_
  refine PySem.W.callWith_KW0 (h₀ := X.base) I.ok.mod.kin hk hall ?_ hpl
  refine thn (hkw.run pos pins s2 σ _ _ I2 h) fun ws s3 hh => ?_
  obtain ⟨zs, H2, I3, rz, q2⟩ := hh
  refine ⟨I3.kIn, ?_⟩
  rw [hks]
  exact hc pins s3 σ H2 [] zs [] ws Q I3 .nil rz q2
end
end L2
namespace SB
open PySem PySem.Spec PyProof.Rows L2 SBX
/-- need_row, need_letters: a text is looked through, anything else is refused -/
def spNeed (K : PySem.W.Frag) (first : List Nat → Option Nat) : Sp := fun vs H Q E => ∃ v, vs = [v] ∧
  ((∃ l, v = T l ∧ l.length ≤ 1000000 ∧ match first l with
      | none => ∀ H', Same H H' → Q .non H'
      | some w => Rz H (He.ga K "BadWord") [("at", .int (w : Nat))] E) ∨
   (∃ t, TyZ K H v t ∧ PySem.W.kitOne K t (.type "str") = some false ∧ Rz H (He.ga K "BadWord") [("at", .int (0 : Nat))] E))
/-- the init of a word; F: what stands beside it -/
def spWInit (K : PySem.W.Frag) : Sp := fun vs H Q E => ∃ x dx v F, vs = [.ref x, v] ∧ H x = some (.ins (He.ga K "Word") dx []) ∧ Same F H ∧ F x = none ∧
  ((∃ l, v = T l ∧ l.length ≤ 1000000 ∧ match wordRes l with
      | .ok l => ∀ H', Same F H' → H' x = some (.ins (He.ga K "Word") dx (wf l)) → l.length ≤ 4000 → Q .non H'
      | .bad w => Rz H (He.ga K "BadWord") [("at", .int (w : Nat))] E
      | .many => Rz H (He.ga K "TooMany") [("what", .str "letters"), ("most", .int 4000)] E) ∨
   (∃ t, TyZ K H v t ∧ PySem.W.kitOne K t (.type "str") = some false ∧ Rz H (He.ga K "BadWord") [("at", .int (0 : Nat))] E))
theorem init_of {K : PySem.W.Frag} {v : V} {H : Hp} {Q : VK} {E : XK} (h : ValR K wordRes v H Q E) {x dx : Addr} (hx : H x = none) (hd : H dx = none) (hne : dx ≠ x) :
    spWInit K [.ref x, v] (upd (upd H dx (.own x)) x (.ins (He.ga K "Word") dx [])) (fun u H2 => u = .non ∧ Q (.ref x) H2) E := by
  have s : Same H (upd (upd H dx (.own x)) x (.ins (He.ga K "Word") dx [])) := fun b o e => by
    rw [upd_ne (ne_of_none e hx), upd_ne (ne_of_none e hd)]; exact e
  refine ⟨x, dx, v, H, rfl, upd_same, s, hx, ?_⟩
  rcases h with ⟨l, rfl, hl, hr⟩ | ⟨t, ty, k, hr⟩
  · refine .inl ⟨l, rfl, hl, ?_⟩
    cases e : wordRes l with
    | ok m => rw [e] at hr; exact fun H' s' w hm => ⟨rfl, hr x H' s' hx ⟨dx, w, hm⟩⟩
    | bad w => rw [e] at hr; exact Rz.same hr s
    | many => rw [e] at hr; exact Rz.same hr s
  · exact .inr ⟨t, ty.same s, k, Rz.same hr s⟩
/-- Word.of -/
def spOf (K : PySem.W.Frag) : Sp := fun vs H Q E => ∃ v, vs = [v] ∧ ValR K ofRes v H Q E
/-- struck -/
def spStruck : Sp := fun vs H Q _ => ∃ l, vs = [T l] ∧ AllL l ∧ l.length ≤ 1000000 ∧ ∀ H', Same H H' → Q (T (red l)) H'
end SB
namespace L2
open PySem PySem.Spec PyProof.Rows SB
section
variable {X : Cx} {k : Nat} {f : Addr} {fd : FuncData} {ps ks : List Str} {sp : Sp} {E : XK} {g : List Value → List Value → List Value}
theorem callR_of (F : FnOk X.prog X.w X.K X.mg X.base (L2.CX X.prog X.w) k f fd ps sp) (hb : Binds X.K fd ps []) (hr : Room k X.A) (hx : Passes (L2.CX X.prog X.w) X E) : CallR X (.ref f) (fun xs H Q => sp xs H Q E) := by
  intro pins s σ H xs us Q I r h
  exact run_fn (ds := []) (dvs := []) F hr hb .nil hx I r (by rw [List.append_nil]; exact h)
theorem callRK_of (F : FnOk X.prog X.w X.K X.mg X.base (L2.CX X.prog X.w) k f fd ps sp) (hb : KBn X.K fd ps 0 ks g (fun _ zs => zs)) (hr : Room k X.A) (hx : Passes (L2.CX X.prog X.w) X E) :
    CallRK X (.ref f) ks (fun xs zs H Q => xs = [] ∧ zs.length = ks.length ∧ sp zs H Q E) := by
  intro pins s σ H xs zs us ws Q I r rz h
  obtain ⟨rfl, hl, q⟩ := h
  exact run_fnN F hr hb hx I r rz rfl hl q
end
end L2
namespace SB
open PySem PySem.Spec PyProof.Rows L2 SBX
/-- a static method with no defaults keeps the promise sp -/
structure StOk (P : Program) (w : World) (K : PySem.W.Frag) (mg : Str → Option Value) (base : Heap) (k : Nat) (f : Addr) (ps : List Str) (sp : Sp) : Prop where
  ex : ∃ (fd : FuncData), FnOk P w K mg base (L2.CX P w) k f fd ps sp ∧ PySem.W.keepIn K (.ref f) = true ∧ Binds K fd ps [] ∧ ∃ g, KBn K fd ps 0 ps g (fun _ zs => zs)
/-- the class Word -/
structure WordOk (P : Program) (w : World) (K : PySem.W.Frag) (mg : Str → Option Value) (base : Heap) (k : Nat) : Prop where
  ex : ∃ (fI : Addr) (fd : FuncData), Mk K (He.ga K "Word") fI ∧ FnOk P w K mg base (L2.CX P w) k fI fd ["self", "letters"] (spWInit K) ∧ Binds K fd ["self", "letters"] [] ∧ (∃ ds, Vals [.str ""] ds ∧ Binds K fd ["self", "letters"] ds) ∧
    ∃ g, KBn K fd ["self", "letters"] 1 ["letters"] g (fun vs zs => vs ++ zs)
section
variable {X : Cx} {k : Nat} {E : XK} {f : Addr} {ps : List Str} {sp : Sp}
theorem callSt (S : StOk X.prog X.w X.K X.mg X.base k f ps sp) (hr : Room k X.A) (hx : Passes (L2.CX X.prog X.w) X E) : CallR X (.ref f) (fun xs H Q => sp xs H Q E) := by
  obtain ⟨fd, F, kp, b, _⟩ := S.ex
  exact callR_of F b hr hx
theorem callStK (S : StOk X.prog X.w X.K X.mg X.base k f ps sp) (hr : Room k X.A) (hx : Passes (L2.CX X.prog X.w) X E) : CallRK X (.ref f) ps (fun xs zs H Q => xs = [] ∧ zs.length = ps.length ∧ sp zs H Q E) := by
  obtain ⟨fd, F, kp, _, g, b⟩ := S.ex
  exact callRK_of F b hr hx
theorem StOk.kp {P : Program} {w : World} {K : PySem.W.Frag} {mg : Str → Option Value} {base : Heap} {k : Nat} {f : Addr} {ps : List Str} {sp : Sp} (S : StOk P w K mg base k f ps sp) : PySem.W.keepIn K (.ref f) = true := by
  obtain ⟨fd, F, kp, _⟩ := S.ex
  exact kp
theorem callW1 (W : WordOk X.prog X.w X.K X.mg X.base k) (hr : Room (k + 1) X.A) (hx : Passes (L2.CX X.prog X.w) X E) : CallR X (.ref (He.ga X.K "Word")) (fun xs H Q => ∃ v, xs = [v] ∧ ValR X.K wordRes v H Q E) := by
  intro pins s σ H xs us Q I r h
  obtain ⟨v, rfl, h⟩ := h
  obtain ⟨fI, fd, M, F, b, _, _⟩ := W.ex
  exact run_make M F hr b .nil hx I r fun x dx hx hd hne => init_of h hx hd hne
theorem callW0 (W : WordOk X.prog X.w X.K X.mg X.base k) (hr : Room (k + 1) X.A) (hx : Passes (L2.CX X.prog X.w) X E) : CallR X (.ref (He.ga X.K "Word")) (fun xs H Q => xs = [] ∧ ResR X.K H Q E (.ok [])) := by
  intro pins s σ H xs us Q I r h
  obtain ⟨rfl, h⟩ := h
  obtain ⟨fI, fd, M, F, _, ⟨ds, hv, b⟩, _⟩ := W.ex
  exact run_make M F hr b hv hx I r fun x dx hx hd hne => init_of (v := .str "") (.inl ⟨[], rfl, Nat.zero_le _, h⟩) hx hd hne
theorem callWK (W : WordOk X.prog X.w X.K X.mg X.base k) (hr : Room (k + 1) X.A) (hx : Passes (L2.CX X.prog X.w) X E) : CallRK X (.ref (He.ga X.K "Word")) ["letters"] (fun xs zs H Q => xs = [] ∧ ∃ v, zs = [v] ∧ ValR X.K wordRes v H Q E) := by
  intro pins s σ H xs zs us ws Q I r rz h
  obtain ⟨rfl, v, rfl, h⟩ := h
  obtain ⟨fI, fd, M, F, _, _, g, b⟩ := W.ex
  exact run_makeN M F hr b hx I r rz rfl rfl fun x dx hx hd hne => init_of h hx hd hne
end
theorem ty_txt {K : PySem.W.Frag} {H : Hp} (x : Str) : TyZ K H (.str x) (.type "str") := .base (.base (.str x))
theorem kit_str {K : PySem.W.Frag} : PySem.W.kitOne K (.type "str") (.type "str") = some true := kit_ty (by decide +kernel)
/-- the sign ahead of the i-th -/
def prev (l : List Nat) : Nat → List Nat
  | 0 => []
  | j + 1 => match l[j]? with
    | none => []
    | some c => [c]
theorem prev_succ {l : List Nat} {i c : Nat} (h : l[i]? = some c) : prev l (i + 1) = [c] := by
  show (match l[i]? with
    | none => []
    | some c => [c]) = [c]
  rw [h]
theorem badAt_of {l : List Nat} {i c : Nat} (h : l[i]? = some c) : badAt l i = (!isL c || decide ([und c] = prev l i)) := by
  unfold badAt
  rw [h]
  cases i with
  | zero => simp [prev]
  | succ j =>
    show (!isL c || decide (l[j]? = some (und c))) = (!isL c || decide ([und c] = match l[j]? with
      | none => []
      | some c => [c]))
    congr 1
    cases l[j]? with
    | none => simp
    | some d =>
      by_cases e : und c = d
      · subst e; simp
      · have e2 : ¬ d = und c := fun z => e z.symm
        simp [e, e2]
theorem oddAt_of {l : List Nat} {i c : Nat} (h : l[i]? = some c) : oddAt l i = !isL c := by
  unfold oddAt
  rw [h]
/-- the sign ahead of the i-th is none or a letter, where none was bad -/
theorem prev_L {l : List Nat} {i : Nat} (h : ∀ j, j < i → badAt l j = false) : prev l i = [] ∨ ∃ c, prev l i = [c] ∧ isL c = true := by
  cases i with
  | zero => exact .inl rfl
  | succ j =>
    cases e : l[j]? with
    | none => exact .inl (by show (match l[j]? with | none => [] | some c => [c]) = []; rw [e])
    | some c =>
      have := h j (Nat.lt_succ_self j)
      rw [badAt_of e] at this
      simp at this
      exact .inr ⟨c, prev_succ e, this.1⟩
/-- sign == ahead.swapcase() -/
theorem swap_prev {l : List Nat} {i c : Nat} (h : ∀ j, j < i → badAt l j = false) (hc : isL c = true) : decide (T [c] = V.str (Txt.swapcase (tx (prev l i)))) = decide ([und c] = prev l i) := by
  rcases prev_L h with e | ⟨d, e, hd⟩
  · rw [e, swap_nil]
    have : ¬ T [c] = V.str (tx []) := fun z => by cases T_inj.mp z
    simp [this]
  · rw [e, swap_L hd]
    by_cases q : c = und d
    · subst q
      rw [und_und hd]
      simp
    · have q2 : ¬ und c = d := fun z => q (by rw [← z, und_und hc])
      have q3 : ¬ T [c] = V.str (tx [und d]) := fun z => q (by have := T_inj.mp z; simpa using this)
      simp [q2, q3]
/-- the signs of a row, one by one -/
def sgl (l : List Nat) : List Str := l.map fun c => tx [c]
def sglV (l : List Nat) : List V := l.map fun c => T [c]
theorem sgl_map (l : List Nat) : (sgl l).map V.str = sglV l := by simp [sgl, sglV]
theorem join_sgl (l : List Nat) : Txt.join "" (sgl l) = tx l := (PySem.StrLaws.glued_eq_join _ _).trans (join_nil_signs (tx l))
theorem dp_txts {K : PySem.W.Frag} {H : Hp} : ∀ xs : List Str, DpAll K H (xs.map V.str) (xs.map PyData.str)
  | [] => .nil
  | x :: xs => .cons (.str x) (dp_txts xs)
theorem canLay_txts : ∀ xs : List Str, (∀ x ∈ xs, PySem.PyData.strOk x = true) → PyData.canLayAll0 (xs.map PyData.str) = true
  | [], _ => rfl
  | x :: xs, h => by
    show (PySem.PyData.strOk x && PyData.canLayAll0 (xs.map PyData.str)) = true
    rw [canLay_txts xs fun y hy => h y (List.mem_cons_of_mem _ hy), Bool.and_true]
    exact h x List.mem_cons_self
theorem depth_txts : ∀ xs : List Str, PyData.depthAll (xs.map PyData.str) ≤ 1
  | [] => by decide
  | x :: xs => by
    have := depth_txts xs
    show max _ (PyData.depthAll (xs.map PyData.str)) ≤ 1
    simp [PyData.depth]; omega
theorem shaped_txts (xs : List Str) (h : ∀ x ∈ xs, PySem.PyData.strOk x = true) : SeqAt.shaped (.list (xs.map PyData.str)) = true := by
  have := depth_txts xs
  unfold SeqAt.shaped
  rw [Bool.and_eq_true]
  refine ⟨?_, decide_eq_true ?_⟩
  · show PyData.canLayAll0 _ = true
    exact canLay_txts xs h
  · simp only [PyData.depth]; omega
theorem eqv_txts : ∀ xs ys : List Str, PyData.eqv (.list (xs.map PyData.str)) (.list (ys.map PyData.str)) = decide (xs = ys)
  | [], [] => rfl
  | [], y :: ys => rfl
  | x :: xs, [] => rfl
  | x :: xs, y :: ys => by
    have ih := eqv_txts xs ys
    show (x == y && PyData.eqvAll (xs.map PyData.str) (ys.map PyData.str)) = _
    have ih2 : PyData.eqvAll (xs.map PyData.str) (ys.map PyData.str) = decide (xs = ys) := ih
    rw [ih2]
    by_cases e : x = y
    · subst e; simp
    · simp [e]
/-- signs of texts -/
def Cps (l : List Nat) : Prop := ∀ c ∈ l, c < 1114112
theorem sgl_ok {l : List Nat} (h : Cps l) : ∀ x ∈ sgl l, PySem.PyData.strOk x = true := fun x hx => by
  obtain ⟨c, hc, rfl⟩ := List.mem_map.mp hx
  unfold PySem.PyData.strOk
  simpa using h c hc
theorem allL_cps {l : List Nat} (h : AllL l) : Cps l := fun c hc => by
  rcases isL_iff.mp (h c hc) with rfl | rfl | rfl | rfl | rfl | rfl | rfl | rfl <;> decide
theorem sgl_inj {xs ys : List Nat} : decide (sgl xs = sgl ys) = decide (xs = ys) := by
  by_cases q : xs = ys
  · subst q; simp
  · have q2 : ¬ sgl xs = sgl ys := fun z => q ((List.map_inj_right (fun x y h => by have := tx_inj h; simpa using this)).mp z)
    simp [q, q2]
/-- rows of signs: == and != -/
theorem rd_neSgl {K : PySem.W.Frag} {H : Hp} {a b : Addr} {xs ys : List Nat} {Q : VK} (cx : Cps xs) (cy : Cps ys) (hx : SqL K H a (sglV xs)) (hy : SqL K H b (sglV ys)) (h : Q (.bl (!decide (xs = ys))) H) : rNeD K (.ref a) (.ref b) H Q := by
  rw [← sgl_map] at hx hy
  refine ⟨_, _, .lst hx (dp_txts _), .lst hy (dp_txts _), shaped_txts _ (sgl_ok cx), shaped_txts _ (sgl_ok cy), ?_⟩
  rw [eqv_txts, sgl_inj]
  exact h
theorem rd_eqSgl {K : PySem.W.Frag} {H : Hp} {a b : Addr} {xs ys : List Nat} {Q : VK} (cx : Cps xs) (cy : Cps ys) (hx : SqL K H a (sglV xs)) (hy : SqL K H b (sglV ys)) (h : Q (.bl (decide (xs = ys))) H) : rEqD K (.ref a) (.ref b) H Q := by
  rw [← sgl_map] at hx hy
  refine ⟨_, _, .lst hx (dp_txts _), .lst hy (dp_txts _), shaped_txts _ (sgl_ok cx), shaped_txts _ (sgl_ok cy), ?_⟩
  rw [eqv_txts, sgl_inj]
  exact h
theorem atI_last {ys : List V} {y : V} : atI (ys ++ [y]) (-1) = some y := by
  unfold atI ixN
  have h1 : ¬ (0 : Int) ≤ -1 := by decide
  have h2 : -(((ys ++ [y]).length : Nat) : Int) ≤ -1 := by simp; omega
  rw [if_neg h1, if_pos h2]
  have h3 : (-1 + (((ys ++ [y]).length : Nat) : Int)).toNat = ys.length := by simp; omega
  rw [h3]
  simp
theorem sglV_snoc (l : List Nat) (c : Nat) : sglV (l ++ [c]) = sglV l ++ [T [c]] := by simp [sglV]
theorem sglV_len (l : List Nat) : (sglV l).length = l.length := by simp [sglV]
theorem kbn1 {K : PySem.W.Frag} {x qual p : Str} {params : Arguments} {body : List Stmt} {scope : Scope} {f : Addr} {fd : FuncData} (F : FunD K x qual params body scope [] [] f fd)
    (h : ∀ (kV doc pm : Value) (an : Option Addr) (cdv ct : Value) (u : Value), bindArgs (PySem.W.fnOf x qual params body scope .none kV doc pm an cdv ct) ⟨[], [(p, u)]⟩ = pure [(p, u)]) : KBn K fd [p] 0 [p] (fun _ ws => ws) (fun _ zs => zs) := by
  obtain ⟨oc, od, dV, kV, doc, pm, an, cdv, ct, osl, rfl, lk, hcd, hD, hK⟩ := F.ex
  rcases hD with ⟨_, rfl⟩ | ⟨e, _⟩
  · refine ⟨fun s us ws X l1 l2 => ?_, fun _ r => r⟩
    match us, ws, l1, l2 with
    | [], [u], _, _ => exact .of_eq (h kV doc pm an cdv ct u)
  · exact absurd rfl e
/-- len(word), str(word) -/
def spLenW (K : PySem.W.Frag) : Sp := fun vs H Q _ => ∃ a l, vs = [.ref a] ∧ WordAt K H a l ∧ ∀ H', Same H H' → Q (.int (l.length : Nat)) H'
def told (l : List Nat) : List Nat := if l = [] then [45] else l
def spStrW (K : PySem.W.Frag) : Sp := fun vs H Q _ => ∃ a l, vs = [.ref a] ∧ WordAt K H a l ∧ ∀ H', Same H H' → Q (T (told l)) H'
theorem wf_letters (l : List Nat) : (wf l).lookup ("letters" : Str) = some (T l) := lk_self
theorem wf_size (l : List Nat) : (wf l).lookup ("size" : Str) = some (.int (l.length : Nat)) := by
  unfold wf
  rw [lk_ne (by decide +kernel), lk_self]
theorem putF1 (l : List Nat) : putF "letters" (T l) [] = [(("letters" : Str), T l)] := rfl
theorem putF2 (l : List Nat) : putF "size" (.int (l.length : Nat)) [(("letters" : Str), T l)] = wf l := by
  show (if ("letters" : Str) = "size" then _ else (("letters" : Str), T l) :: putF "size" (V.int (l.length : Nat)) []) = wf l
  rw [if_neg (by decide +kernel)]
  rfl
theorem small_tx {l : List Nat} (h : l.length ≤ 1000000) : (tx l).length ≤ sizeLine := by
  rw [sizeLine_eq]
  show l.toArray.size ≤ _
  rw [List.size_toArray]
  omega
theorem len_tx (l : List Nat) : (tx l).length = l.length := by
  show l.toArray.size = _
  rw [List.size_toArray]
/-! ### the law's reading of letters -/
def idx (c : Nat) : Nat := if c < 97 then c - 65 else c - 97 + 4
theorem occ_L {c : Nat} (h : isL c = true) : Builtin.Str.occurrences "ABCDabcd" (tx [c]) 0 ("ABCDabcd" : Str).length 1 = idx c :: [] := by
  rcases isL_iff.mp h with rfl | rfl | rfl | rfl | rfl | rfl | rfl | rfl <;> decide +kernel
theorem at_L {c : Nat} (h : isL c = true) : atI ("ABCDabcd" : Str).cps.toList (((idx c : Nat) + (4 : Int)) % 8) = some (und c) := by
  rcases isL_iff.mp h with rfl | rfl | rfl | rfl | rfl | rfl | rfl | rfl <;> decide +kernel
theorem und_other {c : Nat} (h : isL c = false) : und c = c := by
  unfold und
  rw [h]
  rfl
def optI : Option Nat → Int
  | some w => w
  | none => -1
theorem walk_range0 {P : Nat → Hp → Prop} (n : Nat) : Walk P (Itr 0 ((n : Int)).toNat) n (fun i v H H' => H' = H ∧ v = .int i) := by
  have h := walk_range (P := P) 0 n
  have e : ((n : Int)).toNat = n := by simp
  rw [e]
  exact ⟨h.go, h.stop, fun i H x H' hi hp y => by
    obtain ⟨e1, e2⟩ := h.yld i H x H' hi hp y
    rw [Int.zero_add] at e2
    exact ⟨e1, e2⟩⟩
theorem atI_txt {l : List Nat} {i : Nat} {c : Nat} (h : l[i]? = some c) : atI (tx l).cps.toList (i : Int) = some c := atI_nat (by simpa using h)
theorem badAt_law {l : List Nat} {i c d : Nat} (h : l[i + 1]? = some c) (hd : l[i]? = some d) (hc : isL c = true) (hdl : isL d = true) : badAt l (i + 1) = decide (c = und d) := by
  rw [badAt_of h, prev_succ hd, hc]
  by_cases e : c = und d
  · have : und c = d := by rw [e, und_und hdl]
    simp [e, this, und_und hdl]
  · have : ¬ und c = d := fun z => e (by rw [← z, und_und hc])
    simp [e, this]
theorem cutS_to (l : List Nat) (n : Nat) (h : n ≤ l.length) : cutS (tx l) none (some (n : Int)) = tx (l.take n) := by
  unfold cutS
  have e1 : HT.sIx (tx l).length 0 none = 0 := rfl
  have e2 : HT.sIx (tx l).length (tx l).length (some (n : Int)) = n := by
    rw [len_tx]
    have : ¬ (n : Int) < 0 := by omega
    simp [HT.sIx, this]
    omega
  rw [e1, e2]
  simp
theorem cutS_from (l : List Nat) (n : Nat) (h : n ≤ l.length) : cutS (tx l) (some (n : Int)) none = tx (l.drop n) := by
  unfold cutS
  have e1 : HT.sIx (tx l).length (tx l).length none = l.length := by rw [len_tx]; rfl
  have e2 : HT.sIx (tx l).length 0 (some (n : Int)) = n := by
    rw [len_tx]
    have : ¬ (n : Int) < 0 := by omega
    simp [HT.sIx, this]
    omega
  rw [e1, e2]
  congr 1
  simp
  exact List.take_of_length_le (by simp)
theorem tx_app (a b : List Nat) : tx a ++ tx b = tx (a ++ b) := by
  show (⟨a.toArray ++ b.toArray⟩ : Str) = _
  simp
/-- the law's striking out: a state of it -/
structure Left (l m : List Nat) (at_ : Nat) : Prop where
  allL : AllL m
  red : red m = red l
  good : Good (m.take (at_ + 1))
  len : m.length ≤ l.length
theorem good_one {c : Nat} (h : isL c = true) : Good [c] := by
  have := good_snoc (s := []) (c := c)
  exact this.mpr ⟨good_nil, h, fun z => nomatch z⟩
theorem left_0 {l : List Nat} (h : AllL l) : Left l l 0 := by
  refine ⟨h, rfl, ?_, Nat.le_refl _⟩
  cases l with
  | nil => exact good_nil
  | cons c r => exact good_one (h c List.mem_cons_self)
theorem left_end {l m : List Nat} {i : Nat} (L : Left l m i) (h : m.length ≤ i + 1) : m = SB.red l := by
  have g := L.good
  rw [List.take_of_length_le h] at g
  rw [← L.red, red_of_good g]
theorem left_next {l m : List Nat} {i a b : Nat} (L : Left l m i) (ha : m[i]? = some a) (hb : m[i + 1]? = some b) (hne : ¬ a = und b) : Left l m (i + 1) := by
  refine ⟨L.allL, L.red, ?_, L.len⟩
  rw [List.take_succ, hb]
  refine good_snoc.mpr ⟨L.good, L.allL b (List.mem_of_getElem? hb), ?_⟩
  have : (m.take (i + 1)).getLast? = some a := by
    rw [List.take_succ, ha]
    simp
  rw [this]
  exact fun z => hne (Option.some.inj z)
theorem left_cut {l m : List Nat} {i a b : Nat} (L : Left l m i) (ha : m[i]? = some a) (hb : m[i + 1]? = some b) (e : a = und b) : Left l (m.take i ++ m.drop (i + 2)) (i - 1) := by
  have hi : i + 1 < m.length := (List.getElem?_eq_some_iff.mp hb).1
  have hsplit : m = m.take i ++ a :: b :: m.drop (i + 2) := by
    have e1 := (List.take_append_drop i m).symm
    have e2 : m.drop i = a :: m.drop (i + 1) := by
      rw [List.drop_eq_getElem_cons (by omega)]
      congr 1
      exact Option.some.inj ((List.getElem?_eq_getElem (by omega)).symm.trans ha)
    have e3 : m.drop (i + 1) = b :: m.drop (i + 2) := by
      rw [List.drop_eq_getElem_cons hi]
      congr 1
      exact Option.some.inj ((List.getElem?_eq_getElem hi).symm.trans hb)
    rw [e2, e3] at e1
    exact e1
  have hall : AllL (m.take i ++ m.drop (i + 2)) := fun c hc => by
    rcases List.mem_append.mp hc with hc | hc
    · exact L.allL c (List.mem_of_mem_take hc)
    · exact L.allL c (List.mem_of_mem_drop hc)
  refine ⟨hall, ?_, ?_, ?_⟩
  · rw [← L.red]
    conv => rhs; rw [hsplit]
    exact (red_pair (fun c hc => L.allL c (List.mem_of_mem_take hc)) (L.allL a (List.mem_of_getElem? ha)) (L.allL b (List.mem_of_getElem? hb)) e).symm
  · cases i with
    | zero =>
      cases q : m.take 0 ++ m.drop 2 with
      | nil => exact good_nil
      | cons c r =>
        have : isL c = true := hall c (by rw [q]; exact List.mem_cons_self)
        exact good_one this
    | succ j =>
      show Good ((m.take (j + 1) ++ m.drop (j + 1 + 2)).take (j + 1))
      rw [List.take_append_of_le_length (by rw [List.length_take]; omega), List.take_take]
      have g := good_take L.good (j + 1)
      rw [List.take_take] at g
      have e1 : min (j + 1) (j + 1 + 1) = j + 1 := by omega
      have e2 : min (j + 1) (j + 1) = j + 1 := by omega
      rw [e1] at g
      rw [e2]
      exact g
  · have h1 := L.len
    rw [List.length_append, List.length_take, List.length_drop]
    omega
/-! ### the same where the body's context is not the def's own (lambdas) -/
/-- X runs the text that the promises tell of -/
structure On (X : Cx) (P : Program) (w : World) (K : PySem.W.Frag) (mg : Str → Option Value) (base : Heap) : Prop where
  P : X.prog = P
  w : X.w = w
  K : X.K = K
  mg : X.mg = mg
  base : X.base = base
section
variable {X : Cx} {P : Program} {w : World} {K : PySem.W.Frag} {mg : Str → Option Value} {base : Heap} {k : Nat} {E : XK} {f : Addr} {ps : List Str} {sp : Sp}
theorem callStX (S : StOk P w K mg base k f ps sp) (hr : Room k X.A) (hx : Passes (L2.CX X.prog X.w) X E) (on : On X P w K mg base := by exact ⟨rfl, rfl, rfl, rfl, rfl⟩) : CallR X (.ref f) (fun xs H Q => sp xs H Q E) := by
  obtain ⟨rfl, rfl, rfl, rfl, rfl⟩ := on
  exact callSt S hr hx
theorem callStKX (S : StOk P w K mg base k f ps sp) (hr : Room k X.A) (hx : Passes (L2.CX X.prog X.w) X E) (on : On X P w K mg base := by exact ⟨rfl, rfl, rfl, rfl, rfl⟩) : CallRK X (.ref f) ps (fun xs zs H Q => xs = [] ∧ zs.length = ps.length ∧ sp zs H Q E) := by
  obtain ⟨rfl, rfl, rfl, rfl, rfl⟩ := on
  exact callStK S hr hx
theorem callW1X (W : WordOk P w K mg base k) (hr : Room (k + 1) X.A) (hx : Passes (L2.CX X.prog X.w) X E) (on : On X P w K mg base := by exact ⟨rfl, rfl, rfl, rfl, rfl⟩) : CallR X (.ref (He.ga K "Word")) (fun xs H Q => ∃ v, xs = [v] ∧ ValR K wordRes v H Q E) := by
  obtain ⟨rfl, rfl, rfl, rfl, rfl⟩ := on
  exact callW1 W hr hx
theorem callW0X (W : WordOk P w K mg base k) (hr : Room (k + 1) X.A) (hx : Passes (L2.CX X.prog X.w) X E) (on : On X P w K mg base := by exact ⟨rfl, rfl, rfl, rfl, rfl⟩) : CallR X (.ref (He.ga K "Word")) (fun xs H Q => xs = [] ∧ ResR K H Q E (.ok [])) := by
  obtain ⟨rfl, rfl, rfl, rfl, rfl⟩ := on
  exact callW0 W hr hx
theorem callWKX (W : WordOk P w K mg base k) (hr : Room (k + 1) X.A) (hx : Passes (L2.CX X.prog X.w) X E) (on : On X P w K mg base := by exact ⟨rfl, rfl, rfl, rfl, rfl⟩) : CallRK X (.ref (He.ga K "Word")) ["letters"] (fun xs zs H Q => xs = [] ∧ ∃ v, zs = [v] ∧ ValR K wordRes v H Q E) := by
  obtain ⟨rfl, rfl, rfl, rfl, rfl⟩ := on
  exact callWK W hr hx
end
end SB

end
section
set_option maxHeartbeats 1000000
/-! Defs that make lambdas; what is heard of a call. -/
namespace SB
open PySem PySem.Spec PyProof.Rows L2 SBX LamX
/-- a def of the text that makes lambdas: its code object is known -/
theorem callOkL {P : Program} {w : World} {K : PySem.W.Frag} {mg : Str → Option Value} {base : Heap} {x qual : Str} {params : Arguments} {body : List Stmt} {scope : Scope} {N ps : List Str} {k : Nat} {sp : Sp} (g : mg x = some (.ref (He.ga K x))) (F : ∃ fd, FunD K x qual params body scope [] [] (He.ga K x) fd) (S : FnScope N ps scope)
    (hb : ∀ (kV doc pm : Value) (an : Option Addr) (cdv ct : Value) (us : List Value), us.length = ps.length → bindArgs (PySem.W.fnOf x qual params body scope .none kV doc pm an cdv ct) ⟨us, []⟩ = pure (ps.zip us))
    (len : ∀ vs H Q E, sp vs H Q E → vs.length = ps.length)
    (hbody : ∀ (A : Around) (outer : List Env) (s : Shared) (H : Hp) (vs : List V) (Q : VK) (E : XK), Room k (A.deeper (envOfC qual scope s.heap.objs.size (He.ga K x) (.ref (He.cT K (x, none)).1))) → sp vs H Q E →
      ∃ t, PSs (cxOf (L2.CX P w) P w K mg base N qual scope (He.ga K x) (.ref (He.cT K (x, none)).1) A outer s H E) body t ∧ t { nx := fun _ H' => Q .non H', rt := Q } (L2.start N vs) H) : CallOk P w K mg base (k + 1) x ps sp := by
  obtain ⟨fd, F⟩ := F
  have hbn := F.bindsN hb
  have hkp := F.kp
  obtain ⟨oc, od, dV, kV, doc, pm, an, cdv, ct, osl, rfl, lk, hcd, hD, hK⟩ := F.ex
  obtain ⟨c, rfl⟩ := He.codeIn_ref hcd
  have e : (He.cT K (x, none)).1 = c := He.codeOf_eq (p := (x, none)) lk rfl
  rw [e] at hbody
  exact ⟨_, _, fn_of lk hcd S len hbody, g, hkp, hbn⟩
/-- the same for a known function object -/
theorem fnOkL {P : Program} {w : World} {K : PySem.W.Frag} {mg : Str → Option Value} {base : Heap} {x qual : Str} {params : Arguments} {body : List Stmt} {scope : Scope} {N ps : List Str} {k : Nat} {sp : Sp} {fd : FuncData} (F : FunD K x qual params body scope [] [] (He.ga K x) fd) (S : FnScope N ps scope)
    (len : ∀ vs H Q E, sp vs H Q E → vs.length = ps.length)
    (hbody : ∀ (A : Around) (outer : List Env) (s : Shared) (H : Hp) (vs : List V) (Q : VK) (E : XK), Room k (A.deeper (envOfC qual scope s.heap.objs.size (He.ga K x) (.ref (He.cT K (x, none)).1))) → sp vs H Q E →
      ∃ t, PSs (cxOf (L2.CX P w) P w K mg base N qual scope (He.ga K x) (.ref (He.cT K (x, none)).1) A outer s H E) body t ∧ t { nx := fun _ H' => Q .non H', rt := Q } (L2.start N vs) H) : FnOk P w K mg base (L2.CX P w) (k + 1) (He.ga K x) fd ps sp := by
  obtain ⟨oc, od, dV, kV, doc, pm, an, cdv, ct, osl, rfl, lk, hcd, hD, hK⟩ := F.ex
  obtain ⟨c, rfl⟩ := He.codeIn_ref hcd
  have e : (He.cT K (x, none)).1 = c := He.codeOf_eq (p := (x, none)) lk rfl
  rw [e] at hbody
  exact fn_of lk hcd S len hbody
theorem noCX2 {P : Program} {w : World} {outer : List Env} {H : Hp} {s s' : Shared} {u : Value} (c : L2.CX P w outer H s (fun _ _ _ => False) u s') : False := noCX c
theorem pass_lam {X : Cx} {A : Around} {outer : List Env} {s : Shared} {H : Hp} {E : XK} {scope : Scope} {f c' : Addr} : Passes (L2.CX X.prog X.w) (lamCx X A outer s H E scope f c') E :=
  passes_call (takes_of rfl rfl rfl rfl) (fun _ _ _ _ h => h)
/-- nothing of it is a table -/
def NoT (F : Hp) : Prop := ∀ b ps, F b ≠ some (.tbl ps)
def noT (F : Hp) : Hp := fun b => match F b with
  | some (.tbl _) => none
  | o => o
theorem noT_at {F : Hp} {b : Addr} {o : HO} (h : F b = some o) (n : ∀ ps, o ≠ .tbl ps) : noT F b = some o := by
  unfold noT
  rw [h]
  cases o <;> first | rfl | exact absurd rfl (n _)
theorem noT_same (F : Hp) : Same (noT F) F := fun b o e => by
  unfold noT at e
  cases q : F b with
  | none => rw [q] at e; cases e
  | some u =>
    rw [q] at e
    cases u <;> first | exact e | cases e
theorem noT_noT (F : Hp) : NoT (noT F) := fun b ps e => by
  unfold noT at e
  cases q : F b with
  | none => rw [q] at e; cases e
  | some u => rw [q] at e; cases u <;> cases e
theorem Pen.noT {F H : Hp} {p c : Addr} {n : Nat} (P : Pen F H p c n) : Pen (SB.noT F) H p c n := by
  obtain ⟨⟨xs, spot, rest, h1, h2, h3, h4, h5, h6⟩, s0, off⟩ := P
  exact ⟨⟨xs, spot, rest, h1, noT_at h2 (fun _ z => nomatch z), h3, h4, h5, h6⟩, (noT_same F).trans s0, (noT_same F).free off⟩
theorem Pen.extN {F H H' : Hp} {p c : Addr} {n : Nat} (P : Pen F H p c n) (nt : NoT F) (e : ExtN H H') : Pen F H' p c n := by
  obtain ⟨⟨xs, spot, rest, h1, h2, h3, h4, h5, h6⟩, s0, off⟩ := P
  exact ⟨⟨xs, spot, rest, e _ _ h1 (fun _ z => nomatch z), h2, h3, h4, h5, h6⟩, fun b o q => e b o (s0 _ _ q) (fun ps z => nt b ps (by rw [q, z])), off⟩
theorem ExtN.ofSame {H H' : Hp} (s : Same H H') : ExtN H H' := fun b o h _ => s b o h
theorem WordAt.extN {K : PySem.W.Frag} {H H' : Hp} {a : Addr} {l : List Nat} (w : WordAt K H a l) (e : ExtN H H') : WordAt K H' a l := by
  obtain ⟨dx, q, h⟩ := w
  exact ⟨dx, e _ _ q (fun _ z => nomatch z), h⟩
/-- a held exception with these fields -/
def ExcAt (H : Hp) (a : Addr) (C : Addr) (fs : List (Str × V)) : Prop := ∃ d, H a = some (XcO (.ref C) (some d) a) ∧ H d = some (.xd fs)
theorem ExcAt.same {H H' : Hp} {a C : Addr} {fs : List (Str × V)} (x : ExcAt H a C fs) (s : Same H H') : ExcAt H' a C fs := by
  obtain ⟨d, h1, h2⟩ := x
  exact ⟨d, s _ _ h1, s _ _ h2⟩
theorem ExcAt.extN {H H' : Hp} {a C : Addr} {fs : List (Str × V)} (x : ExcAt H a C fs) (s : ExtN H H') : ExcAt H' a C fs := by
  obtain ⟨d, h1, h2⟩ := x
  exact ⟨d, s _ _ h1 (fun _ z => by unfold XcO at z; cases z), s _ _ h2 (fun _ z => nomatch z)⟩
/-- the wish of a call that is heard -/
def HeardE (K : PySem.W.Frag) (CS : Addr) (Q : VK) : XK := fun cls d H' => PySem.W.exmOne K cls (.ref CS) = some true ∧ ∀ a, H' a = none → Q (.ref a) (upd H' a (XcO cls d a))
def THeardN (K : PySem.W.Frag) (CS : Addr) : (XK → Hp → VK → Prop) → Hp → VK → Prop := fun tl H Q => tl (HeardE K CS Q) H (fun _ H' => ∃ v, (some (some V.non) : Option (Option V)) = some (some v) ∧ Q v H')
/-- what is heard of a call that ends by the exception -/
theorem heard_rz {K : PySem.W.Frag} {H : Hp} {C CS : Addr} {fs : List (Str × V)} {Q : VK} (hx : PySem.W.exmOne K (.ref C) (.ref CS) = some true) (h : ∀ a H', Same H H' → ExcAt H' a C fs → Q (.ref a) H') :
    Rz H C fs (HeardE K CS Q) := fun d H' s n e => by
  refine ⟨hx, fun a ha => h a _ ?_ ⟨d, upd_same, by rw [upd_ne (ne_of_none e ha)]; exact e⟩⟩
  exact fun b o q => by rw [upd_ne (ne_of_none (s b o q) ha)]; exact s b o q
theorem hu_of {l : List (Addr × Str)} {P : Addr} {q : Str} (nd : (l.map (·.1)).Nodup) (h : (P, q) ∈ l) : ∀ p ∈ l, p.1 = P → p.2 = q := by
  induction l with
  | nil => cases h
  | cons a r ih =>
    rw [List.map_cons, List.nodup_cons] at nd
    intro p hp e
    rcases List.mem_cons.mp hp with e1 | hp1
    · rcases List.mem_cons.mp h with h2 | h2
      · rw [e1, ← h2]
      · exact absurd (List.mem_map.mpr ⟨(P, q), h2, rfl⟩) (by rw [← e, e1]; exact nd.1)
    · rcases List.mem_cons.mp h with h2 | h2
      · have z : p.1 ∈ r.map (·.1) := List.mem_map.mpr ⟨p, hp1, rfl⟩
        rw [e] at z
        rw [← h2] at nd
        exact absurd z nd.1
      · exact ih nd.2 h2 p hp1 e
theorem ResR.bad_ {K : PySem.W.Frag} {H : Hp} {Q : VK} {E : XK} {r : Res} {w : Nat} (e : r = .bad w) (h : Rz H (He.ga K "BadWord") [("at", .int (w : Nat))] E) : ResR K H Q E r := by subst e; exact h
theorem ResR.ok_ {K : PySem.W.Frag} {H : Hp} {Q : VK} {E : XK} {r : Res} {l : List Nat} (e : r = .ok l) (h : ∀ a H', Same H H' → H a = none → WordAt K H' a l → Q (.ref a) H') : ResR K H Q E r := by subst e; exact h
theorem ResR.many_ {K : PySem.W.Frag} {H : Hp} {Q : VK} {E : XK} {r : Res} (e : r = .many) (h : Rz H (He.ga K "TooMany") [("what", .str "letters"), ("most", .int 4000)] E) : ResR K H Q E r := by subst e; exact h
theorem wordRes_bad {l : List Nat} {w : Nat} (h : firstBad l = some w) : wordRes l = .bad w := by unfold wordRes; rw [h]
theorem wordRes_ok {l : List Nat} (h : firstBad l = none) (hl : l.length ≤ 4000) : wordRes l = .ok l := by unfold wordRes; rw [h]; exact if_pos hl
theorem wordRes_many {l : List Nat} (h : firstBad l = none) (hl : 4000 < l.length) : wordRes l = .many := by unfold wordRes; rw [h]; exact if_neg (by omega)
theorem ofRes_bad {l : List Nat} {w : Nat} (h : firstOdd l = some w) : ofRes l = .bad w := by unfold ofRes; rw [h]
theorem ofRes_ok {l : List Nat} (h : AllL l) (hl : (red l).length ≤ 4000) : ofRes l = .ok (red l) := by unfold ofRes; rw [firstOdd_allL h]; exact if_pos hl
theorem ofRes_many {l : List Nat} (h : AllL l) (hl : 4000 < (red l).length) : ofRes l = .many := by unfold ofRes; rw [firstOdd_allL h]; exact if_neg (by omega)
theorem red_red {l : List Nat} (h : AllL l) : red (red l) = red l := red_of_good (red_good h)
/-! ### long rows -/
theorem good_join {s t : List Nat} (hs : Good s) (ht : Good t) (hc : ∀ a b, s.getLast? = some a → t.head? = some b → a ≠ und b) : Good (s ++ t) := by
  intro j hj
  rw [List.length_append] at hj
  by_cases h : j < s.length
  · rw [badAt_app h]; exact hs j h
  · obtain ⟨i, rfl⟩ : ∃ i, j = s.length + i := ⟨j - s.length, by omega⟩
    have hi : i < t.length := by omega
    obtain ⟨c, hcI⟩ : ∃ c, t[i]? = some c := ⟨t[i], by simp [hi]⟩
    have e : (s ++ t)[s.length + i]? = some c := by
      rw [List.getElem?_append_right (by omega)]
      simpa using hcI
    have hb := ht i hi
    rw [badAt_of hcI] at hb
    rw [badAt_of e]
    simp at hb
    simp [hb.1]
    cases i with
    | zero =>
      cases hl : s.length with
      | zero => simp [prev]
      | succ m =>
        have hd : ∃ d, s[m]? = some d := ⟨s[m]'(by omega), by simp⟩
        obtain ⟨d, hd⟩ := hd
        have e2 : (s ++ t)[m]? = some d := by rw [List.getElem?_append_left (by omega)]; exact hd
        show ¬ [und c] = prev (s ++ t) (m + 1)
        rw [prev_succ e2]
        intro z
        have z2 : und c = d := by simpa using z
        have hl2 : s.getLast? = some d := by rw [List.getLast?_eq_getElem?, hl]; exact hd
        have hh : t.head? = some c := by rw [List.head?_eq_getElem?]; exact hcI
        exact hc d c hl2 hh z2.symm
    | succ k =>
      have hd : ∃ d, t[k]? = some d := ⟨t[k]'(by omega), by simp⟩
      obtain ⟨d, hd⟩ := hd
      have e2 : (s ++ t)[s.length + k]? = some d := by
        rw [List.getElem?_append_right (by omega)]
        simpa using hd
      have hb2 := hb.2
      rw [prev_succ hd] at hb2
      show ¬ [und c] = prev (s ++ t) (s.length + k + 1)
      rw [prev_succ e2]
      exact hb2
theorem rep_last {u : List Nat} : ∀ n, (rep (n + 1) u).getLast? = u.getLast? ∨ u = []
  | n => by
    cases u with
    | nil => exact .inr rfl
    | cons a r =>
      left
      show (rep n (a :: r) ++ (a :: r)).getLast? = _
      rw [List.getLast?_append]
      cases h : (a :: r).getLast? with
      | none => simp at h
      | some d => simp
theorem good_rep {u : List Nat} (hu : Good u) (hc : ∀ a b, u.getLast? = some a → u.head? = some b → a ≠ und b) : ∀ n, Good (rep n u)
  | 0 => good_nil
  | n + 1 => by
    refine good_join (good_rep hu hc n) hu fun a b ha hb => ?_
    cases n with
    | zero => cases ha
    | succ m =>
      rcases rep_last (u := u) m with e | e
      · rw [e] at ha
        exact hc a b ha hb
      · rw [e] at hb; cases hb
/-- a row that may be told over and over -/
def unitB (u : List Nat) : Bool := !decide (u = []) && (decide (u.length ≤ 16) && ((List.range u.length).all (fun i => !badAt u i) && (match u.getLast?, u.head? with
  | some a, some b => !decide (a = und b)
  | _, _ => true)))
theorem unitB_ok {u : List Nat} (h : unitB u = true) : u ≠ [] ∧ u.length ≤ 16 ∧ ∀ n, Good (rep n u) := by
  obtain ⟨h1, h⟩ := band h
  obtain ⟨h2, h⟩ := band h
  obtain ⟨h3, h4⟩ := band h
  refine ⟨by simpa using h1, of_decide_eq_true h2, good_rep (fun j hj => ?_) fun a b ha hb => ?_⟩
  · have := List.all_eq_true.mp h3 j (List.mem_range.mpr hj)
    simpa using this
  · rw [ha, hb] at h4
    simpa using h4
theorem red_inv {s : List Nat} (hs : AllL s) : ∀ x : List Nat, AllL x → red (s ++ x ++ (x.map und).reverse) = red s := by
  intro x
  induction h : x.length generalizing x with
  | zero =>
    intro _
    rw [List.length_eq_zero_iff.mp h]
    simp
  | succ n ih =>
    intro hx
    have hne : x ≠ [] := fun e => by rw [e] at h; cases h
    have e := List.dropLast_concat_getLast hne
    generalize x.getLast hne = c at e
    have hx' : AllL x.dropLast := fun d hd => hx d ((List.dropLast_sublist x).subset hd)
    have hc : isL c = true := hx c (by rw [← e]; simp)
    rw [← e]
    have e2 : s ++ (x.dropLast ++ [c]) ++ ((x.dropLast ++ [c]).map und).reverse = (s ++ x.dropLast) ++ c :: und c :: (x.dropLast.map und).reverse := by simp
    rw [e2, red_pair (fun d hd => ?_) hc (und_L hc) (und_und hc).symm]
    · exact ih x.dropLast (by rw [List.length_dropLast, h]; rfl) hx'
    · rcases List.mem_append.mp hd with hd | hd
      · exact hs d hd
      · exact hx' d hd
theorem spoil {m : List Nat} {i : Nat} (hm : Good m) (hi : i < m.length) : firstBad (m.take i ++ [45] ++ m.drop (i + 1)) = some i ∧ firstOdd (m.take i ++ [45] ++ m.drop (i + 1)) = some i := by
  have hl : (m.take i).length = i := by rw [List.length_take]; omega
  have hat : (m.take i ++ [45] ++ m.drop (i + 1))[i]? = some 45 := by
    rw [List.append_assoc, List.getElem?_append_right (by omega), hl]
    simp
  have hlen : i < (m.take i ++ [45] ++ m.drop (i + 1)).length := (List.getElem?_eq_some_iff.mp hat).1
  have hg := good_take hm i
  refine ⟨first_some hlen (by rw [badAt_of hat]; rfl) fun j hj => ?_, first_some hlen (by rw [oddAt_of hat]; rfl) fun j hj => ?_⟩
  · rw [List.append_assoc, badAt_app (by omega)]
    exact hg j (by omega)
  · have hb := hg j (by omega)
    obtain ⟨c, hc⟩ : ∃ c, (m.take i)[j]? = some c := ⟨(m.take i)[j]'(by omega), List.getElem?_eq_getElem (by omega)⟩
    have hc2 : (m.take i ++ [45] ++ m.drop (i + 1))[j]? = some c := by
      rw [List.append_assoc, List.getElem?_append_left (by omega)]
      exact hc
    rw [badAt_of hc] at hb
    rw [oddAt_of hc2]
    simp at hb
    simp [hb.1]
/-! ### tables where lists are written -/
theorem TabS.but {H H' : Hp} {P : Addr} {q : Str} (t : TabS H P q) (e : ∀ b o, H b = some o → (∀ xs, o ≠ .lst xs) → H' b = some o) : TabS H' P q := by
  obtain ⟨ps, h1, h2, h3⟩ := t
  refine ⟨ps, e _ _ h1 (fun _ z => nomatch z), h2, fun pos cv hc => ?_⟩
  obtain ⟨c, e1, e2⟩ := h3 pos cv hc
  exact ⟨c, e1, e _ _ e2 (fun _ z => by unfold CodeO at z; cases z)⟩
theorem Tabs.but {T : List (Addr × Str)} {H H' : Hp} (t : Tabs T H) (e : ∀ b o, H b = some o → (∀ xs, o ≠ .lst xs) → H' b = some o) : Tabs T H' := fun p hp => TabS.but (t p hp) e
theorem Tabs.pen {T : List (Addr × Str)} {F H H' : Hp} {p c : Addr} {n : Nat} (P : Pen F H p c n) (t : Tabs T H) (s : Same (offP H p) H') : Tabs T H' := by
  obtain ⟨⟨xs, spot, rest, h1, _⟩, _, _⟩ := P
  refine Tabs.but t fun b o e n => s b o (offP_at e fun z => ?_)
  rw [z, h1] at e
  exact n _ (Option.some.inj e).symm
theorem Tabs.wr {T : List (Addr × Str)} {H H' : Hp} {a : Addr} {o : HO} {xs : List V} (t : Tabs T H) (w : Wr H a o H') (ha : H a = some (.lst xs)) : Tabs T H' :=
  Tabs.but t fun b u e n => by
    rw [w.oth b fun z => by rw [z, ha] at e; exact n _ (Option.some.inj e).symm]
    exact e
theorem ExcAt.wr {H H' : Hp} {a a0 C : Addr} {fs : List (Str × V)} {o : HO} {xs : List V} (x : ExcAt H a C fs) (w : Wr H a0 o H') (ha : H a0 = some (.lst xs)) : ExcAt H' a C fs := by
  obtain ⟨d, h1, h2⟩ := x
  refine ⟨d, ?_, ?_⟩
  · rw [w.oth a fun z => by rw [z, ha] at h1; unfold XcO at h1; cases h1]; exact h1
  · rw [w.oth d fun z => by rw [z, ha] at h2; cases h2]; exact h2
theorem sgl_sum : ∀ m : List Nat, ((sgl m).map (·.length)).sum = m.length := fun m => by
  induction m with
  | nil => rfl
  | cons a r ih =>
    show (tx [a]).length + ((sgl r).map (·.length)).sum = r.length + 1
    rw [ih, len_tx]
    simp
    omega
theorem join_fits {m : List Nat} (h : m.length ≤ 1000000) : ((sgl m).map (·.length)).sum + (sgl m).length * ("" : Str).length ≤ 16777216 := by
  rw [sgl_sum]
  have e0 : ("" : Str).length = 0 := rfl
  rw [e0]
  omega
theorem app_fits {a b : List Nat} (h : a.length + b.length ≤ 1000000) : (tx a).length + (tx b).length ≤ sizeLine := by
  rw [len_tx, len_tx, sizeLine_eq]
  omega
theorem ExcAt.ty {K : PySem.W.Frag} {H : Hp} {a d C : Addr} {fs : List (Str × V)} (ha : H a = some (XcO (.ref C) (some d) a)) (hd : H d = some (.xd fs)) (c : ExcC K C) : TyZ K H (.ref a) (.ref C) :=
  .exc (d := some d) ha (fun b e => by
    have e2 := Option.some.inj e
    subst e2
    exact ⟨fs, hd⟩) c
theorem TyZ.extN {K : PySem.W.Frag} {H H' : Hp} {x : V} {t : Value} (h : TyZ K H x t) (s : ExtN H H') : TyZ K H' x t := by
  cases h with
  | base b =>
    refine .base ?_
    cases b with
    | base c =>
      refine .base ?_
      cases c with
      | non => exact .non
      | bl x => exact .bl x
      | int i => exact .int i
      | str x => exact .str x
      | flt x => exact .flt x
      | lst e => exact .lst (s _ _ e (fun _ z => nomatch z))
      | frz e => exact .frz (s _ _ e (fun _ z => nomatch z))
      | tup e => exact .tup (s _ _ e (fun _ z => nomatch z))
      | dK e => exact .dK (s _ _ e (fun _ z => nomatch z))
      | dT e => exact .dT (s _ _ e (fun _ z => nomatch z))
      | ins e cl ha hn ht hm => exact .ins (s _ _ e (fun _ z => nomatch z)) cl ha hn ht hm
    | byt b => exact .byt b
    | set e => exact .set (s _ _ e (fun _ z => nomatch z))
    | kList e c => exact .kList e c
    | kTuple e c => exact .kTuple e c
    | kDict e c => exact .kDict e c
    | fTuple e => exact .fTuple (s _ _ e (fun _ z => nomatch z))
    | fDict e => exact .fDict (s _ _ e (fun _ z => nomatch z))
  | exc e hd c => exact .exc (s _ _ e (fun _ z => by unfold XcO at z; cases z)) (fun b hb => let ⟨fs, q⟩ := hd b hb; ⟨fs, s _ _ q (fun _ z => nomatch z)⟩) c
/-- rows of texts: == -/
theorem rd_eqStr {K : PySem.W.Frag} {H : Hp} {a b : Addr} {xs : List Str} {Q : VK} (ok : ∀ x ∈ xs, PySem.PyData.strOk x = true) (hx : SqL K H a (xs.map V.str)) (hy : SqL K H b (xs.map V.str)) (h : Q (.bl true) H) : rEqD K (.ref a) (.ref b) H Q := by
  refine ⟨_, _, .lst hx (dp_txts _), .lst hy (dp_txts _), shaped_txts _ ok, shaped_txts _ ok, ?_⟩
  rw [eqv_txts, decide_eq_true rfl]
  exact h
theorem strOk_tx {l : List Nat} (h : Cps l) : PySem.PyData.strOk (tx l) = true := by
  unfold PySem.PyData.strOk
  unfold Cps at h
  simpa using h
/-- all but the pen and the tables stays -/
def ExtNP (p : Addr) (H H' : Hp) : Prop := ∀ b o, b ≠ p → H b = some o → (∀ ps, o ≠ .tbl ps) → H' b = some o
theorem ExtNP.ofN {p : Addr} {H H' : Hp} (e : ExtN H H') : ExtNP p H H' := fun b o _ h n => e b o h n
theorem ExtNP.ofSame {p : Addr} {H H' : Hp} (e : Same H H') : ExtNP p H H' := fun b o _ h _ => e b o h
theorem ExtNP.ofOff {p : Addr} {H H' : Hp} (e : Same (offP H p) H') : ExtNP p H H' := fun b o hb h _ => e b o (offP_at h hb)
theorem ExtNP.ofOffN {p : Addr} {H H' : Hp} (e : Same (noT (offP H p)) H') : ExtNP p H H' := fun b o hb h n => e b o (noT_at (offP_at h hb) n)
theorem ExtNP.trans {p : Addr} {H H1 H2 : Hp} (a : ExtNP p H H1) (b : ExtNP p H1 H2) : ExtNP p H H2 := fun x o hx h n => b x o hx (a x o hx h n) n
/-- the words that are kept with their texts, in a list at kd -/
structure Kept (K : PySem.W.Frag) (H : Hp) (kd p : Addr) (ws : List (Addr × Addr × List Nat)) : Prop where
  lst : H kd = some (.lst (ws.map fun q => V.ref q.1))
  ne : kd ≠ p
  all : ∀ q ∈ ws, q.1 ≠ p ∧ q.2.1 ≠ p ∧ H q.1 = some (.tup [.ref q.2.1, T q.2.2]) ∧ WordAt K H q.2.1 q.2.2 ∧ Cps q.2.2
theorem Kept.ext {K : PySem.W.Frag} {H H' : Hp} {kd p : Addr} {ws : List (Addr × Addr × List Nat)} (k : Kept K H kd p ws) (e : ExtNP p H H') : Kept K H' kd p ws := by
  refine ⟨e _ _ k.ne k.lst (fun _ z => nomatch z), k.ne, fun q hq => ?_⟩
  obtain ⟨h1, h2, h3, ⟨dx, h4, h5⟩, h6⟩ := k.all q hq
  exact ⟨h1, h2, e _ _ h1 h3 (fun _ z => nomatch z), ⟨dx, e _ _ h2 h4 (fun _ z => nomatch z), h5⟩, h6⟩
theorem Kept.put {K : PySem.W.Frag} {H H' : Hp} {kd p tp a : Addr} {l : List Nat} {ws : List (Addr × Addr × List Nat)} (k : Kept K H kd p ws) (w : Wr H kd (.lst (ws.map (fun q => V.ref q.1) ++ [.ref tp])) H') (ht : H tp = some (.tup [.ref a, T l])) (hw : WordAt K H a l) (hc : Cps l) (h1 : tp ≠ p) (h2 : a ≠ p) :
    Kept K H' kd p (ws ++ [(tp, a, l)]) := by
  have oth : ∀ b o, H b = some o → (∀ xs, o ≠ .lst xs) → H' b = some o := fun b o e n => by
    rw [w.oth b fun z => by rw [z, k.lst] at e; exact n _ (Option.some.inj e).symm]
    exact e
  refine ⟨by rw [w.at_]; simp, k.ne, fun q hq => ?_⟩
  rcases List.mem_append.mp hq with hq | hq
  · obtain ⟨g1, g2, g3, ⟨dx, g4, g5⟩, g6⟩ := k.all q hq
    exact ⟨g1, g2, oth _ _ g3 (fun _ z => nomatch z), ⟨dx, oth _ _ g4 (fun _ z => nomatch z), g5⟩, g6⟩
  · rw [List.mem_singleton.mp hq]
    obtain ⟨dx, g4, g5⟩ := hw
    exact ⟨h1, h2, oth _ _ ht (fun _ z => nomatch z), ⟨dx, oth _ _ g4 (fun _ z => nomatch z), g5⟩, hc⟩
/-! ### rules that name K, for bodies of comprehensions and lambdas -/
section
variable {X : Cx} {K : PySem.W.Frag}
theorem pg_tupK {es : List Expr} {k n : Nat} {t : TGs} {pos : Pos} (hc : X.calm = true) (h : PGs X es t) (hK : X.K = K := by rfl) (hn : (assignEach es X.env).length = n := by rfl) (hst : (assignEach es X.env).findIdx? (·.1) = none := by rfl) : PG X (.Tuple es k pos) (gTup K n t) := by
  subst hK
  exact pg_tup hc h hn hst
theorem pe_fldK {e : Expr} {f : Str} {pos : Pos} {ta : TE} (he : PE X e ta) (hK : X.K = K := by rfl) (hb : attributeBase e f X.env (eval e X.env) = eval e X.env := by rfl) : PE X (.Attribute e f pos) (tFld K ta f) := by
  subst hK
  exact pe_fld he hb
end
theorem Kept.wr {K : PySem.W.Frag} {H H' : Hp} {kd p hd : Addr} {o : HO} {xs : List V} {ws : List (Addr × Addr × List Nat)} (k : Kept K H kd p ws) (w : Wr H hd o H') (hh : H hd = some (.lst xs)) (hne : kd ≠ hd) : Kept K H' kd p ws := by
  have oth : ∀ b u, H b = some u → (∀ ys, u ≠ .lst ys) → H' b = some u := fun b u e n => by
    rw [w.oth b fun z => by rw [z, hh] at e; exact n _ (Option.some.inj e).symm]
    exact e
  refine ⟨by rw [w.oth kd hne]; exact k.lst, k.ne, fun q hq => ?_⟩
  obtain ⟨g1, g2, g3, ⟨dx, g4, g5⟩, g6⟩ := k.all q hq
  exact ⟨g1, g2, oth _ _ g3 (fun _ z => nomatch z), ⟨dx, oth _ _ g4 (fun _ z => nomatch z), g5⟩, g6⟩
/-- the kept words' letters -/
def lets (ws : List (Addr × Addr × List Nat)) : List Str := ws.map fun q => tx q.2.2
theorem lets_ok {K : PySem.W.Frag} {H : Hp} {kd p : Addr} {ws : List (Addr × Addr × List Nat)} (k : Kept K H kd p ws) : ∀ x ∈ lets ws, PySem.PyData.strOk x = true := fun x hx => by
  obtain ⟨q, hq, rfl⟩ := List.mem_map.mp hx
  exact strOk_tx (k.all q hq).2.2.2.2
theorem lets_V (ws : List (Addr × Addr × List Nat)) : (lets ws).map V.str = ws.map fun q => T q.2.2 := by simp [lets]
end SB

end
section
set_option maxHeartbeats 1000000
/-! Own comparisons and operators: ==, !=, <.. of two objects of one class; * ; ~ ; o[i]. -/
namespace SB
open PySem PySem.Spec PyProof.Rows L2 SBX
section
variable {prog : Program} {w : World} {M : Model} {A : Around} {E : Value → Shared → Prop} {s : Shared} {K : PySem.W.Frag} {x C : Addr} {ox : Obj} {od : Option Obj} {name : Str} {id : String}
theorem ifBound_obj {args : List Value} {Q : Option Value → Shared → Prop} (X : K.In s.heap) (I : PySem.W.InstAt s.heap x ox C od) (hs : PySem.W.findIn K (.ref C) name = some (some (.builtin id))) (S : PySem.Slot "object" name id)
    (h : wpAny M A (call (.builtin id) (.ref x :: args)) (fun v => Q (some v)) E s) : wpAny M A (callSpecialIfBound? (.ref x) name args) Q E s := by
  simp only [callSpecialIfBound?, bindSpecialIfBound?]
  refine wpAny_holding (wpAny_bind (wpAny_bind (wpAny_bind (I.type.here ((PySem.W.looks_findIn X hs).here ?_)))))
  refine wpAny_bind (wpAny_askSetting (wpAny_ite ?_))
  have fin : wpAny M A (call (.builtin id) ([.ref x] ++ args) >>= fun v => pure (some v)) Q E s := wpAny_bind (wpAny_mono h (fun v s' h' => wpAny_pure h') fun _ _ h' => h')
  simp only [S.bind]
  split
  · exact wpAny_bind (wpAny_pure (wpAny_pure fin))
  · exact wpAny_tryCatch (wpAny_bind (wpAny_pure (wpAny_pure fin)))
/-- x != b by object's own __ne__ over an own __eq__ -/
theorem ne_K {h₀ : Heap} {L : Addr} {m : Str → Option Value} {b tb : Value} {f : Addr} {Q : Value → Shared → Prop} (hu : A.units + 1 < cLine) (F : Fr h₀ L s.heap m) (X₀ : K.In h₀) (I : PySem.W.InstAt s.heap x ox C od) (hb : PySem.W.Looks (model prog w) s.heap (typeOf b) tb) (hn : PySem.W.notFirst K C tb = true)
    (hm : PySem.W.mroIn K C (.type "object") = some true) (hne : PySem.W.findIn K (.ref C) "__ne__" = some (some (.builtin "object.__ne__")))
    (hs : PySem.W.findIn K (.ref C) "__eq__" = some (some (.ref f))) (hf : PySem.W.isFn K (.ref f) = true)
    (h : wpAny (model prog w) A.in1 (call (.ref f) [.ref x, b]) (fun v s' => ∃ r, v = .bool r ∧ Q (.bool (!r)) s') E s) : wpAny (model prog w) A (richCompare .NotEq (.ref x) b) Q E s := by
  have X := X₀.keeps F.keep
  have inst : PySem.W.Looks (model prog w) s.heap (isInstance (.ref x) (.type "object")) true := by
    unfold isInstance
    exact I.type.andThen (PySem.W.looks_mroIn X hm)
  have hu' : A.in1.units < cLine := hu
  have entry : wpAny (model prog w) A.in1 (Builtin.«object.__ne__» ⟨[.ref x, b], []⟩) (fun fin s' => match fin with
      | .done (.ret v) => ∃ r, v = .bool r ∧ Q (.bool r) s'
      | _ => False) E s := by
    unfold Builtin.«object.__ne__»
    repeat (first
      | with_reducible refine wpAny_cRoomFor hu' ?_
      | (refine wpAny_bind (m := callSpecialIfBound? (.ref x) (Str.ofString "__eq__") [b])
          (PySem.W.ifBound_K X I hs hf (wpAny_mono h (fun r s' hr => by
            obtain ⟨b, rfl, hq⟩ := hr
            repeat (first | exact ⟨_, rfl, hq⟩ | exact wpAny_pure ⟨_, rfl, hq⟩ | exact wpAny_truthy_bool ⟨_, rfl, hq⟩ | (refine wpAny_bind (m := truthy (.bool _)) (wpAny_truthy_bool ?_)) | wp_step)) fun _ _ e => e)))
      | wp_step)
  have one : wpAny (model prog w) A (tryCompare (.ref x) (cmpInfo .NotEq).2.1 b) (fun r s' => ∃ v, r = some v ∧ Q v s') E s := by
    unfold tryCompare
    refine wpAny_bind (ifBound_obj X I hne PySem.F.cmp_object.ne (wpAny_call (codeAny_call_builtin PySem.F.cmp_object.ne.plain PySem.F.cmpEntry_ne
      (PySem.W.check_slot PySem.F.cmpKind_ne PySem.F.cmpSplit_ne inst (PySem.F.cmpArgs_ne _ _) (wpAny_mono entry (fun fin s' hq => ?_) fun _ _ e => e)))))
    cases fin with
    | done fl =>
      cases fl with
      | ret v =>
        obtain ⟨r, rfl, q⟩ := hq
        exact wpAny_pure ⟨_, rfl, q⟩
      | next => exact hq.elim
      | brk => exact hq.elim
      | cont => exact hq.elim
    | again c => exact hq.elim
  unfold richCompare
  simp only [oneThing_ref]
  refine wpAny_holding (wpAny_bind (wpAny_cRoomFor (Nat.lt_of_succ_lt hu) ?_))
  refine wpAny_bind (I.type.here (wpAny_bind (hb.here ?_)))
  split
  · rename_i q
    have e : PySem.W.subIn K tb (.ref C) = some false := by
      rcases Bool.or_eq_true_iff.mp hn with e | e
      · rw [beq_iff_eq.mp e] at q; simp at q
      · exact beq_iff_eq.mp e
    refine wpAny_bind ((PySem.W.looks_subIn X e).here ?_)
    simp only [Bool.false_eq_true, if_false]
    refine wpAny_bind (wpAny_mono one (fun r s' z => ?_) fun _ _ e => e)
    obtain ⟨v, rfl, hq⟩ := z
    exact wpAny_pure hq
  · refine wpAny_bind (wpAny_pure ?_)
    simp only [Bool.false_eq_true, if_false]
    refine wpAny_bind (wpAny_mono one (fun r s' z => ?_) fun _ _ e => e)
    obtain ⟨v, rfl, hq⟩ := z
    exact wpAny_pure hq
open PySem.W in
theorem bin_same {h₀ : Heap} {L f : Addr} {m : Str → Option Value} {op : Operator} {b : Value} {Q : Value → Shared → Prop} (F : Fr h₀ L s.heap m) (X₀ : K.In h₀) (I : PySem.W.InstAt s.heap x ox C od) (hb : PySem.W.Looks (model prog w) s.heap (typeOf b) (.ref C)) (hc : PySem.W.selfFirst K C = true)
    (hs : PySem.W.findIn K (.ref C) (PySem.dunder op.info.2) = some (some (.ref f))) (hf : PySem.W.isFn K (.ref f) = true)
    (h : wpAny (model prog w) A (call (.ref f) [.ref x, b]) (PySem.W.CmpBack Q) E s) : wpAny (model prog w) A (binaryOp op (.ref x) b) Q E s := by
  have X := X₀.keeps F.keep
  obtain ⟨cd, rest, hcd, hm⟩ := PySem.W.ksp_first hc
  rcases hi : op.info with ⟨sym, nm'⟩
  rw [hi] at hs
  dsimp only at hs
  have one := PySem.W.ksp_try X I hs hf h
  obtain ⟨hh, g, d, tt, os⟩ := s
  have L1 : PySem.W.Looks (model prog w) hh (typeOf (.ref x)) (.ref C) := I.type
  have L2 : PySem.W.Looks (model prog w) hh (typeOf b) (.ref C) := hb
  have L3 : PySem.W.Looks (model prog w) hh (fillsNumberSlot (.ref C) nm') true := PySem.W.fills_K X hcd hm hs
  have heq : (Value.ref C == Value.ref C) = true := by simp
  simp only [binaryOp, hi]
  refine wpAny_holding (wpAny_bind ?_)
  unfold binaryOp1
  refine wpAny_bind (L1.at (wpAny_bind (L2.at (wpAny_bind (L3.at ?_)))))
  simp only [heq, Bool.false_eq_true, if_false, if_true]
  ksp_lk
  refine wpAny_mono one (fun r s' hr' => ?_) fun _ _ e => e
  obtain ⟨v, rfl, hq⟩ := hr'
  ksp_lk
  exact hq
end
end SB
namespace L2
open PySem PySem.Spec PyProof.Rows SB
section
variable {X : Cx} {C : Addr} {k : Nat}
/-- x op y of two objects of the class at C, by the promise of its special method -/
def rOwnC (C : Addr) (sp : Sp) (E : XK) : R2 := fun x y H Q => ∃ a dx fs b dy gs, x = .ref a ∧ y = .ref b ∧ H a = some (.ins C dx fs) ∧ H b = some (.ins C dy gs) ∧ sp [.ref a, .ref b] H Q E
theorem op_cmpC {op : CmpOp} {ps : List Str} {sp : Sp} {E : XK} (hop : ∀ a b, compareOp op a b = richCompare op a b) (S : Special X.prog X.w X.K X.mg X.base k C (cmpInfo op).2.1 ps sp) (hr : Room k X.A) (hx : Passes (L2.CX X.prog X.w) X E) : OpR X (compareOp op) (rOwnC C sp E) := by
  intro pins s σ H x y v u Q I rx ry h
  obtain ⟨a, dx, fs, b, dy, gs, rfl, rfl, ha, hb', hq⟩ := h
  obtain rfl : v = Value.ref a := rx
  obtain rfl : u = Value.ref b := ry
  obtain ⟨f, fd, hm, F, hb⟩ := S.ex
  obtain ⟨mA, J, _⟩ := ins_get I.hok ha
  obtain ⟨mB, J', _⟩ := ins_get I.hok hb'
  obtain ⟨od, J, _⟩ := J.look
  obtain ⟨od', J', _⟩ := J'.look
  obtain ⟨m0, hF⟩ := I.fr
  rw [hop]
  refine PySem.W.cmp_K (op := op) (tb := .ref C) hr.units0 hF I.ok.mod.kin J J'.type (by simp [PySem.W.notFirst]) hm.at_ hm.fn (thn (run_at (⟨hr, rfl⟩ : Sub X k X.A) F hb hx I (vs := [.ref a, .ref b]) (.cons rfl (.cons rfl .nil)) hq) fun u s' hh => ?_)
  obtain ⟨z, H', I', rv, q⟩ := hh
  exact SlX.cmpback rv ⟨z, H', I', rv, q⟩
/-- x != y, the class's own == asked -/
theorem op_neC {ps : List Str} {sp : Sp} {E : XK} (S : Special X.prog X.w X.K X.mg X.base k C "__eq__" ps sp) (ty : TyC X.K C) (hne : PySem.W.findIn X.K (.ref C) "__ne__" = some (some (.builtin "object.__ne__"))) (hr : Room (k + 1) X.A) (hx : Passes (L2.CX X.prog X.w) X E) :
    OpR X (compareOp .NotEq) (fun x y H Q => ∃ a dx fs b dy gs, x = .ref a ∧ y = .ref b ∧ H a = some (.ins C dx fs) ∧ H b = some (.ins C dy gs) ∧ sp [.ref a, .ref b] H (fun v H' => ∃ r, v = .bl r ∧ Q (.bl (!r)) H') E) := by
  intro pins s σ H x y v u Q I rx ry h
  obtain ⟨a, dx, fs, b, dy, gs, rfl, rfl, ha, hb', hq⟩ := h
  obtain rfl : v = Value.ref a := rx
  obtain rfl : u = Value.ref b := ry
  obtain ⟨f, fd, hm, F, hb⟩ := S.ex
  obtain ⟨mA, J, _⟩ := ins_get I.hok ha
  obtain ⟨mB, J', _⟩ := ins_get I.hok hb'
  obtain ⟨od, J, _⟩ := J.look
  obtain ⟨od', J', _⟩ := J'.look
  obtain ⟨m0, hF⟩ := I.fr
  have sb : Sub X k X.A.in1 := Sub.in1 (⟨hr, rfl⟩ : Sub X (k + 1) X.A)
  show wpAny (model X.prog X.w) X.A (richCompare .NotEq (.ref a) (.ref b)) (EP X pins σ Q) X.xe s
  refine SB.ne_K (tb := .ref C) sb.room.units0 hF I.ok.mod.kin J J'.type (by simp [PySem.W.notFirst]) ty.hm hne hm.at_ hm.fn (thn (run_at sb F hb hx I (vs := [.ref a, .ref b]) (.cons rfl (.cons rfl .nil)) hq) fun u s' hh => ?_)
  obtain ⟨z, H', I', rv, r, rfl, q⟩ := hh
  cases (show u = Value.bool r from rv)
  exact ⟨r, rfl, .bl (!r), H', I', rfl, q⟩
/-- ~x -/
theorem un_invC {ps : List Str} {sp : Sp} {E : XK} (S : Special X.prog X.w X.K X.mg X.base k C "__invert__" ps sp) (hr : Room k X.A) (hx : Passes (L2.CX X.prog X.w) X E) :
    UnR X (unaryOp .Invert) (fun x H Q => ∃ a dx fs, x = .ref a ∧ H a = some (.ins C dx fs) ∧ sp [.ref a] H Q E) := by
  intro pins s σ H x v Q I rx h
  obtain ⟨a, dx, fs, rfl, ha, hq⟩ := h
  obtain rfl : v = Value.ref a := rx
  obtain ⟨f, fd, hm, F, hb⟩ := S.ex
  obtain ⟨mA, J, _⟩ := ins_get I.hok ha
  obtain ⟨od, J, _⟩ := J.look
  obtain ⟨m0, hF⟩ := I.fr
  exact PySem.W.ksp_inv hF I.ok.mod.kin J hm.at_ hm.fn (run_at (⟨hr, rfl⟩ : Sub X k X.A) F hb hx I (vs := [.ref a]) (.cons rfl .nil) hq)
/-- x op y of two objects of the class at C -/
theorem op_binC {op : Operator} {ps : List Str} {sp : Sp} {E : XK} (S : Special X.prog X.w X.K X.mg X.base k C (PySem.dunder op.info.2) ps sp) (hc : PySem.W.selfFirst X.K C = true) (hr : Room k X.A) (hx : Passes (L2.CX X.prog X.w) X E) : OpR X (binaryOp op) (rOwnC C sp E) := by
  intro pins s σ H x y v u Q I rx ry h
  obtain ⟨a, dx, fs, b, dy, gs, rfl, rfl, ha, hb', hq⟩ := h
  obtain rfl : v = Value.ref a := rx
  obtain rfl : u = Value.ref b := ry
  obtain ⟨f, fd, hm, F, hb⟩ := S.ex
  obtain ⟨mA, J, _⟩ := ins_get I.hok ha
  obtain ⟨mB, J', _⟩ := ins_get I.hok hb'
  obtain ⟨od, J, _⟩ := J.look
  obtain ⟨od', J', _⟩ := J'.look
  obtain ⟨m0, hF⟩ := I.fr
  refine SB.bin_same hF I.ok.mod.kin J J'.type hc hm.at_ hm.fn (thn (run_at (⟨hr, rfl⟩ : Sub X k X.A) F hb hx I (vs := [.ref a, .ref b]) (.cons rfl (.cons rfl .nil)) hq) fun u s' hh => ?_)
  obtain ⟨z, H', I', rv, q⟩ := hh
  exact SlX.cmpback rv ⟨z, H', I', rv, q⟩
end
end L2

end
section
set_option maxHeartbeats 1000000
/-! Texts of words: their items, what reading says; own == of words. -/
namespace SB
open PySem PySem.Spec PyProof.Rows L2 SBX
/-- the items of a text, parted by blanks -/
def itm (l : List Nat) : List (List Nat) := TL.spl [32] 0 [] l
theorem spl_glue : ∀ (l acc : List Nat), TL.spl [32] 0 acc l ≠ [] ∧ TL.joinL [32] (TL.spl [32] 0 acc l) = acc ++ l := by
  intro l
  induction l with
  | nil =>
    intro acc
    rw [TL.spl_nil]
    exact ⟨by simp, by simp [TL.joinL]⟩
  | cons c r ih =>
    intro acc
    cases hp : TL.pre [32] (c :: r) with
    | true =>
      have hc : c = 32 := by
        have e : (c :: r).take 1 = [32] := eq_of_beq hp
        simpa using e
      rw [TL.spl_hit hp]
      refine ⟨by simp, ?_⟩
      obtain ⟨h1, h2⟩ := ih []
      show TL.joinL [32] (acc :: TL.spl [32] 0 [] r) = _
      cases q : TL.spl [32] 0 [] r with
      | nil => exact absurd q h1
      | cons a b =>
        rw [q] at h2
        show acc ++ ([32] ++ TL.joinL [32] (a :: b)) = _
        rw [h2, hc]
        simp
    | false =>
      rw [TL.spl_miss hp]
      obtain ⟨h1, h2⟩ := ih (acc ++ [c])
      exact ⟨h1, by rw [h2]; simp⟩
theorem itm_ne (l : List Nat) : itm l ≠ [] := (spl_glue l []).1
theorem itm_glue (l : List Nat) : TL.joinL [32] (itm l) = l := by
  have := (spl_glue l []).2
  unfold itm
  simpa using this
theorem itm_one {l x : List Nat} (h : itm l = [x]) : x = l := by
  have := itm_glue l
  rw [h] at this
  exact this
theorem itm_head {l x : List Nat} {r : List (List Nat)} (h : itm l = x :: r) : x.length ≤ l.length := by
  have := itm_glue l
  rw [h] at this
  rw [← this]
  cases r with
  | nil => exact Nat.le_refl _
  | cons a b =>
    show x.length ≤ (x ++ ([32] ++ TL.joinL [32] (a :: b))).length
    rw [List.length_append]
    omega
theorem itm_plain {l : List Nat} (h : 32 ∉ l) : itm l = [l] := by
  have := TL.spl_join (s := 32) (S := []) (parts := [l]) (by simp) (fun p hp => by rw [List.mem_singleton.mp hp]; exact h)
  exact this
theorem itm_len (l : List Nat) : (itm l).length ≤ l.length + 1 := by
  have : ∀ (l acc : List Nat), (TL.spl [32] 0 acc l).length ≤ l.length + 1 := by
    intro l
    induction l with
    | nil => intro acc; rw [TL.spl_nil]; simp
    | cons c r ih =>
      intro acc
      cases hp : TL.pre [32] (c :: r) with
      | true =>
        rw [TL.spl_hit hp]
        have := ih []
        simp only [List.length_cons] at this ⊢
        exact Nat.succ_le_succ this
      | false =>
        rw [TL.spl_miss hp]
        have := ih (acc ++ [c])
        simp only [List.length_cons] at this ⊢
        omega
  exact this l []
theorem split_T (l : List Nat) : (Txt.split (tx l) " ").map V.str = (itm l).map T := by
  have h := TL.split_spl (tx l) " " (by decide +kernel) (TL.kind_ok (by decide +kernel))
  have e : TL.tl (" " : Str) = [32] := by decide +kernel
  have e2 : TL.tl (tx l) = l := by show l.toArray.toList = l; simp
  rw [e, e2] at h
  unfold itm
  rw [← h, List.map_map]
  refine List.map_congr_left fun x _ => ?_
  show V.str x = V.str ⟨(TL.tl x).toArray⟩
  congr 1
/-- what reading says: a word, or the first item that cannot stand -/
inductive Rd where
  | ok (l : List Nat)
  | bad (w : Nat)
def rdRow (i : List Nat) (r : List (List Nat)) : Rd := if r = [] then .ok i else .bad 1
def readRes (l : List Nat) : Rd := match itm l with
  | [] => .bad 0
  | i :: r => if i = [45] then rdRow [] r else if i = [] ∨ firstBad i ≠ none ∨ 4000 < i.length then .bad 0 else rdRow i r
def RdR (K : PySem.W.Frag) (H : Hp) (Q : VK) (E : XK) : Rd → Prop
  | .ok l => ∀ a H', Same H H' → H a = none → WordAt K H' a l → Q (.ref a) H'
  | .bad w => Rz H (He.ga K "BadText") [("item", .int (w : Nat))] E
theorem RdR.same {K : PySem.W.Frag} {H H1 : Hp} {Q : VK} {E : XK} {r : Rd} (h : RdR K H Q E r) (s : Same H H1) : RdR K H1 Q E r := by
  cases r with
  | ok l => exact fun a H' s' n w => h a H' (s.trans s') (s.free n) w
  | bad w => exact Rz.same h s
theorem RdR.ok_ {K : PySem.W.Frag} {H : Hp} {Q : VK} {E : XK} {r : Rd} {l : List Nat} (e : r = .ok l) (h : ∀ a H', Same H H' → H a = none → WordAt K H' a l → Q (.ref a) H') : RdR K H Q E r := by subst e; exact h
theorem RdR.bad_ {K : PySem.W.Frag} {H : Hp} {Q : VK} {E : XK} {r : Rd} {w : Nat} (e : r = .bad w) (h : Rz H (He.ga K "BadText") [("item", .int (w : Nat))] E) : RdR K H Q E r := by subst e; exact h
/-- what the value v reads -/
def ReadR (K : PySem.W.Frag) (v : V) (H : Hp) (Q : VK) (E : XK) : Prop :=
  (∃ l, v = T l ∧ l.length ≤ 1000000 ∧ RdR K H Q E (readRes l)) ∨ (∃ t, TyZ K H v t ∧ PySem.W.kitOne K t (.type "str") = some false ∧ RdR K H Q E (.bad 0))
/-- contracts -/
def spRead (K : PySem.W.Frag) : Sp := fun vs H Q E => ∃ v, vs = [v] ∧ ReadR K v H Q E
def spIsLetter : Sp := fun vs H Q _ => ∃ c, vs = [T [c]] ∧ ∀ H', Same H H' → Q (.bl (isL c)) H'
def spIsRow : Sp := fun vs H Q _ => ∃ l, vs = [T l] ∧ l.length ≤ 1000000 ∧ ∀ H', Same H H' → Q (.bl (decide (firstBad l = none))) H'
def spLone (K : PySem.W.Frag) : Sp := fun vs H Q E => ∃ a xs m, vs = [.ref a, T m] ∧ SqL K H a xs ∧ m.length ≤ 4000 ∧ firstBad m = none ∧ xs ≠ [] ∧ xs.length ≤ 1000001 ∧ RdR K H Q E (if xs.length = 1 then .ok m else .bad 1)
def spEqW (K : PySem.W.Frag) : Sp := fun vs H Q _ => ∃ a b l m, vs = [.ref a, .ref b] ∧ WordAt K H a l ∧ WordAt K H b m ∧ Cps l ∧ Cps m ∧ ∀ H', Same H H' → Q (.bl (decide (l = m))) H'
/-- pairs of a number and a text: == -/
theorem rd_eqPair {K : PySem.W.Frag} {H : Hp} {a b : Addr} {l m : List Nat} {Q : VK} (hx : SqT K H a [.int (l.length : Nat), T l]) (hy : SqT K H b [.int (m.length : Nat), T m]) (cl : Cps l) (cm : Cps m) (h : Q (.bl (decide (l = m))) H) : rEqD K (.ref a) (.ref b) H Q := by
  have sh : ∀ z : List Nat, Cps z → SeqAt.shaped (.tuple [.int (z.length : Nat), .str (tx z)]) = true := fun z hz => by
    unfold SeqAt.shaped
    rw [Bool.and_eq_true]
    refine ⟨?_, by simp [PyData.depth, PyData.depthAll]⟩
    have := strOk_tx hz
    show (PyData.canLay0 (.int (z.length : Nat)) && (PyData.canLay0 (.str (tx z)) && true)) = true
    rw [Bool.and_true]
    show (true && PySem.PyData.strOk (tx z)) = true
    rw [this]
    rfl
  refine ⟨_, _, .tup hx (.cons (.int _) (.cons (.str _) .nil)), .tup hy (.cons (.int _) (.cons (.str _) .nil)), sh l cl, sh m cm, ?_⟩
  have e : PyData.eqv (.tuple [.int (l.length : Nat), .str (tx l)]) (.tuple [.int (m.length : Nat), .str (tx m)]) = decide (l = m) := by
    show ((((l.length : Nat) : Int) == (m.length : Nat)) && ((tx l == tx m) && true)) = _
    by_cases q : l = m
    · subst q; simp
    · have q2 : ¬ tx l = tx m := fun z => q (tx_inj z)
      simp [q, q2]
  rw [e]
  exact h
/-- a first item that can stand -/
theorem readRes_dash {l : List Nat} {r : List (List Nat)} (h : itm l = [45] :: r) : readRes l = rdRow [] r := by
  unfold readRes
  rw [h]
  exact if_pos rfl
theorem readRes_bad {l i : List Nat} {r : List (List Nat)} (h : itm l = i :: r) (h1 : i ≠ [45]) (h2 : i = [] ∨ firstBad i ≠ none ∨ 4000 < i.length) : readRes l = .bad 0 := by
  unfold readRes
  rw [h]
  show (if i = [45] then rdRow [] r else _) = _
  rw [if_neg h1, if_pos h2]
theorem readRes_row {l i : List Nat} {r : List (List Nat)} (h : itm l = i :: r) (h1 : i ≠ [45]) (h2 : i ≠ []) (h3 : firstBad i = none) (h4 : i.length ≤ 4000) : readRes l = rdRow i r := by
  unfold readRes
  rw [h]
  show (if i = [45] then rdRow [] r else _) = _
  rw [if_neg h1, if_neg]
  rintro (e | e | e)
  · exact h2 e
  · exact e h3
  · omega
theorem rdRow_one {i : List Nat} {r : List (List Nat)} {xs : List V} (h : xs.length = r.length + 1) : (if xs.length = 1 then Rd.ok i else .bad 1) = rdRow i r := by
  unfold rdRow
  by_cases q : r = []
  · subst q
    rw [if_pos rfl, if_pos (by simpa using h)]
  · rw [if_neg q, if_neg]
    have := List.length_pos_iff.mpr q
    omega
/-- the signs of a good row are no blank -/
theorem good_no32 {l : List Nat} (h : Good l) : 32 ∉ l := fun z => by
  have := good_allL h 32 z
  exact absurd this (by decide)
theorem good_no45 {l : List Nat} (h : Good l) : l ≠ [45] := fun z => by
  have := good_allL h 45 (by rw [z]; simp)
  exact absurd this (by decide)
/-- what a word tells is read back -/
theorem readRes_told {l : List Nat} (h : Good l) (h4 : l.length ≤ 4000) : readRes (told l) = .ok l := by
  unfold told
  by_cases e : l = []
  · subst e
    rw [if_pos rfl]
    have : itm [45] = [45] :: [] := itm_plain (by decide)
    rw [readRes_dash this]
    rfl
  · rw [if_neg e]
    have : itm l = l :: [] := itm_plain (good_no32 h)
    rw [readRes_row this (good_no45 h) e (firstBad_good h) h4]
    rfl
end SB
namespace L2
open PySem PySem.Spec PyProof.Rows SB
section
variable {X : Cx}
/-- a text parted by blanks -/
theorem mt_splitB : MtR X "str.split" (fun x xs H Q => ∃ l, x = T l ∧ xs = [.str " "] ∧ l.length ≤ 1000000 ∧ ∀ p H', Nw H p (.lst ((itm l).map T)) H' → Q (.ref p) H') := by
  intro pins s σ H x xs v us Q I rx rs h
  obtain ⟨l, rfl, rfl, hl, h⟩ := h
  refine mt_split pins s σ H (T l) [.str " "] v us Q I rx rs ⟨tx l, " ", rfl, rfl, by decide +kernel, by rw [len_tx, sizeLine_eq]; omega, fun p hp => ?_⟩
  rw [split_T]
  exact h p _ (.of hp)
/-- a statement that is never reached -/
def sDead : TS := fun _ _ _ => False
theorem ps_dead {st : Stmt} : PS X st sDead := ⟨fun _ _ _ _ _ _ h => h.elim⟩
end
end L2
namespace SB
open PySem PySem.Spec PyProof.Rows L2 SBX
theorem at_L0 {c : Nat} (h : isL c = true) : atI ("abcdABCD" : Str).cps.toList ((idx c : Nat) : Int) = some (und c) := by
  rcases isL_iff.mp h with rfl | rfl | rfl | rfl | rfl | rfl | rfl | rfl <;> decide +kernel
/-- kinds of letters to draw from: letters, two different ones among them -/
def kindB (u : List Nat) : Bool := decide (u.length ≤ 20) && (u.all isL && u.any (fun a => u.any fun b => !decide (a = b)))
theorem kindB_ok {u : List Nat} (h : kindB u = true) : u.length ≤ 20 ∧ AllL u ∧ ∀ x, ∃ a ∈ u, a ≠ x := by
  obtain ⟨h1, h⟩ := band h
  obtain ⟨h2, h3⟩ := band h
  refine ⟨of_decide_eq_true h1, fun c hc => List.all_eq_true.mp h2 c hc, fun x => ?_⟩
  obtain ⟨a, ha, h4⟩ := List.any_eq_true.mp h3
  obtain ⟨b, hb, h5⟩ := List.any_eq_true.mp h4
  have hne : a ≠ b := by simpa using h5
  by_cases e : a = x
  · exact ⟨b, hb, fun z => hne (by rw [e, z])⟩
  · exact ⟨a, ha, e⟩
/-- the letters that can stand behind a row -/
def fitB (l : List Nat) (c : Nat) : Bool := decide (l = []) || !decide (l.getLast? = some (und c))
theorem good_put {l : List Nat} {c : Nat} (h : Good l) (hc : isL c = true) (hf : fitB l c = true) : Good (l ++ [c]) := by
  refine good_snoc.mpr ⟨h, hc, fun z => ?_⟩
  unfold fitB at hf
  rw [z] at hf
  cases l with
  | nil => cases z
  | cons a r => simp at hf
theorem fit_some {l u : List Nat} (hl : Good l) (h : kindB u = true) : u.filter (fitB l) ≠ [] := by
  obtain ⟨_, hu, hx⟩ := kindB_ok h
  intro e
  rw [List.filter_eq_nil_iff] at e
  cases hq : l.getLast? with
  | none =>
    obtain ⟨a, ha, _⟩ := hx 0
    have := e a ha
    unfold fitB at this
    rw [hq] at this
    simp at this
  | some d =>
    obtain ⟨a, ha, hne⟩ := hx (und d)
    have := e a ha
    unfold fitB at this
    rw [hq] at this
    simp at this
    exact hne (by rw [this.2, und_und (hu a ha)])
/-- a drawn row: at most m letters, none beside its undoing -/
def spRowD : Sp := fun vs H Q _ => ∃ F p c n m, vs = [.ref p, .int (m : Nat)] ∧ m ≤ 1000 ∧ n ≤ 900000 ∧ Pen F H p c n ∧ ∀ l H', l.length ≤ m → Good l → Pen F H' p c (n + m + 2) → Q (T l) H'
end SB
namespace SB
open PySem PySem.Spec PyProof.Rows L2 SBX
theorem yesB {A B : Prop} (h : A) : if true = true then A else B := by rw [if_pos rfl]; exact h
theorem noB {A B : Prop} (h : B) : if false = true then A else B := by rw [if_neg (by decide)]; exact h
theorem atI_lastN {l : List Nat} {d : Nat} (h : l.getLast? = some d) : atI (tx l).cps.toList (-1) = some d := by
  have e : (tx l).cps.toList = l := by show l.toArray.toList = l; simp
  rw [e, snoc_of h]
  unfold atI ixN
  have h1 : ¬ (0 : Int) ≤ -1 := by decide
  have h2 : -(((l.dropLast ++ [d]).length : Nat) : Int) ≤ -1 := by simp; omega
  rw [if_neg h1, if_pos h2]
  have h3 : (-1 + (((l.dropLast ++ [d]).length : Nat) : Int)).toNat = l.dropLast.length := by simp; omega
  rw [h3]
  simp
theorem take_yes {l u : List Nat} {j c : Nat} (hc : u[j]? = some c) (h : fitB l c = true) : sglV ((u.take j).filter (fitB l)) ++ [T [c]] = sglV ((u.take (j + 1)).filter (fitB l)) := by
  rw [List.take_succ, hc]
  simp [sglV, h]
theorem take_no {l u : List Nat} {j c : Nat} (hc : u[j]? = some c) (h : fitB l c = false) : sglV ((u.take j).filter (fitB l)) = sglV ((u.take (j + 1)).filter (fitB l)) := by
  rw [List.take_succ, hc]
  simp [sglV, h]
theorem lc_skip {D : Addr} {Pv : Nat → List V → Hp → Prop} {i : Nat} {acc : List V} {H : Hp} (h : H D = some (.lst acc)) (hl : acc.length ≤ i) (hp : Pv (i + 1) acc H) : LcI D Pv (i + 1) H := ⟨acc, by omega, hp, h⟩
end SB
namespace SB
open PySem PySem.Spec PyProof.Rows L2 SBX
theorem iteNT {c A B : Prop} [Decidable c] (hc : ¬ c) (h : A) : if (!decide c) = true then A else B := by
  rw [decide_eq_false hc]
  exact iteT h
/-- the row that a first item tells -/
def rowOf (i : List Nat) : List Nat := if i = [45] then [] else i
def dueV : Rd → V
  | .ok m => T m
  | .bad w => .int (w : Nat)
/-- what the law reads of a first item and the rest -/
theorem due_none {l i : List Nat} {r : List (List Nat)} (h : itm l = i :: r) (hi : i = []) : readRes l = .bad 0 := readRes_bad h (by rw [hi]; decide) (.inl hi)
theorem due_bad {l i : List Nat} {r : List (List Nat)} (h : itm l = i :: r) (hb : firstBad (rowOf i) ≠ none) : readRes l = .bad 0 := by
  unfold rowOf at hb
  by_cases e : i = [45]
  · rw [if_pos e] at hb
    exact absurd rfl hb
  · rw [if_neg e] at hb
    exact readRes_bad h e (.inr (.inl hb))
theorem due_ok {l i : List Nat} {r : List (List Nat)} (h : itm l = i :: r) (hl : l.length ≤ 4000) (h0 : i ≠ []) (hg : firstBad (rowOf i) = none) : readRes l = rdRow (rowOf i) r := by
  unfold rowOf at hg ⊢
  by_cases e : i = [45]
  · rw [if_pos e]
    subst e
    exact readRes_dash h
  · rw [if_neg e] at hg ⊢
    exact readRes_row h e h0 hg (Nat.le_trans (itm_head h) hl)
theorem readRes_ok {l m : List Nat} (h : readRes l = .ok m) : told m = l ∧ firstBad m = none ∧ m.length ≤ 4000 := by
  obtain ⟨i, r, hi⟩ : ∃ i r, itm l = i :: r := by
    cases e : itm l with
    | nil => exact absurd e (itm_ne l)
    | cons i r => exact ⟨i, r, rfl⟩
  have one : ∀ {x : List Nat}, rdRow x r = .ok m → r = [] ∧ x = m := fun {x} q => by
    unfold rdRow at q
    by_cases e : r = []
    · rw [if_pos e] at q
      exact ⟨e, by injection q⟩
    · rw [if_neg e] at q
      cases q
  by_cases e : i = [45]
  · subst e
    rw [readRes_dash hi] at h
    obtain ⟨hr, rfl⟩ := one h
    subst hr
    exact ⟨itm_one hi, rfl, by decide⟩
  · by_cases h2 : i = [] ∨ firstBad i ≠ none ∨ 4000 < i.length
    · rw [readRes_bad hi e h2] at h
      cases h
    · have a1 : i ≠ [] := fun z => h2 (.inl z)
      have a2 : firstBad i = none := Decidable.byContradiction fun z => h2 (.inr (.inl z))
      have a3 : i.length ≤ 4000 := Nat.le_of_not_lt fun z => h2 (.inr (.inr z))
      rw [readRes_row hi e a1 a2 a3] at h
      obtain ⟨hr, rfl⟩ := one h
      subst hr
      refine ⟨?_, a2, a3⟩
      unfold told
      rw [if_neg a1]
      exact itm_one hi
theorem cutS_from' (l : List Nat) (n : Nat) : cutS (tx l) (some (n : Int)) none = tx (l.drop n) := by
  by_cases h : n ≤ l.length
  · exact cutS_from l n h
  · unfold cutS
    have e1 : HT.sIx (tx l).length (tx l).length none = l.length := by rw [len_tx]; rfl
    have e2 : HT.sIx (tx l).length 0 (some (n : Int)) = l.length := by
      rw [len_tx]
      have : ¬ (n : Int) < 0 := by omega
      simp [HT.sIx, this]
      omega
    have e3 : l.drop n = [] := List.drop_eq_nil_of_le (by omega)
    rw [e1, e2, e3]
    congr 1
    simp
/-- no sign is odd, none beside its undoing -/
theorem good_parts {m : List Nat} (h1 : ∀ j, j < m.length → oddAt m j = false) (h2 : ∀ j, j < m.length - 1 → badAt m (j + 1) = false) : firstBad m = none := by
  refine first_none fun j hj => ?_
  cases j with
  | zero =>
    obtain ⟨c, hc⟩ : ∃ c, m[0]? = some c := ⟨m[0], by simp [hj]⟩
    have := h1 0 hj
    rw [oddAt_of hc] at this
    rw [badAt_of hc]
    simp at this
    simp [this, prev]
  | succ k => exact h2 k (by omega)
theorem bad_of_odd {m : List Nat} {j : Nat} (hj : j < m.length) (h : oddAt m j = true) : firstBad m ≠ none := fun z => by
  have := (good_of_none z) j hj
  obtain ⟨c, hc⟩ : ∃ c, m[j]? = some c := ⟨m[j], by simp [hj]⟩
  rw [badAt_of hc] at this
  rw [oddAt_of hc] at h
  simp at this h
  rw [this.1] at h
  cases h
theorem bad_of_adj {m : List Nat} {j : Nat} (hj : j < m.length) (h : badAt m j = true) : firstBad m ≠ none := fun z => by
  have := (good_of_none z) j hj
  rw [this] at h
  cases h
/-- ones for what was found -/
def ones (p : Nat → Bool) (n : Nat) : List Int := ((List.range n).filter p).map fun _ => 1
theorem ones_yes {p : Nat → Bool} {j : Nat} (h : p j = true) : (ones p j).map V.int ++ [V.int 1] = (ones p (j + 1)).map V.int := by
  unfold ones
  rw [List.range_succ]
  simp [h]
theorem ones_no {p : Nat → Bool} {j : Nat} (h : p j = false) : (ones p j).map V.int = (ones p (j + 1)).map V.int := by
  unfold ones
  rw [List.range_succ]
  simp [h]
theorem ones_nil {p : Nat → Bool} {n : Nat} (h : ones p n = []) : ∀ j, j < n → p j = false := fun j hj => by
  unfold ones at h
  rw [List.map_eq_nil_iff, List.filter_eq_nil_iff] at h
  simpa using h j (List.mem_range.mpr hj)
theorem ones_some {p : Nat → Bool} {n : Nat} (h : ones p n ≠ []) : ∃ j, j < n ∧ p j = true := by
  refine Classical.byContradiction fun z => h ?_
  unfold ones
  rw [List.map_eq_nil_iff, List.filter_eq_nil_iff]
  exact fun j hj hp => z ⟨j, List.mem_range.mp hj, hp⟩
def spDue : Sp := fun vs H Q _ => ∃ l, vs = [T l] ∧ l.length ≤ 4000 ∧ ∀ H', Same H H' → Q (dueV (readRes l)) H'
/-- a text changed at a drawn place -/
def spSpoiled : Sp := fun vs H Q _ => ∃ F p c n l, vs = [.ref p, T l] ∧ l.length ≤ 1000 ∧ n ≤ 900000 ∧ Pen F H p c n ∧ ∀ m H', m.length ≤ 1010 → Pen F H' p c (n + 4) → Q (T m) H'
end SB
namespace SB
open PySem PySem.Spec PyProof.Rows L2 SBX
theorem tC_eq {x y : V} {σ : L2.St} {H : Hp} {Q : VK} (e : x = y) (h : tC y σ H Q) : tC x σ H Q := e ▸ h
end SB
namespace L2
open PySem PySem.Spec PyProof.Rows SB
theorem op_isFalse {X : Cx} : OpR X (compareOp .Is) (fun x y H Q => ∃ i b, x = .int i ∧ y = .bl b ∧ Q (.bl false) H) := by
  intro pins s σ H x y v u Q I rx ry h
  obtain ⟨i, b, rfl, rfl, q⟩ := h
  obtain ⟨t, rfl⟩ := rx
  cases (show u = Value.bool b from ry)
  exact wpAny_is_other (by rfl) (fun z => nomatch z) ⟨.bl false, H, I, rfl, q⟩
end L2

end
section
set_option maxHeartbeats 0
namespace K06
open PySem PySem.Spec PyProof.Rows L2 SBX SB
abbrev lw : PySem.W.OpenLaw := PySem.Challenge.rw_sevenball_k06_texts_of_words
abbrev prg : Program := PySem.Challenge.pw_sevenball_k06_texts_of_words
def top (i : Nat) : Stmt := prg.main.body.getD i (.Pass ⟨0, 0, 0, 0⟩)
abbrev s_is_integer : Stmt := top 9
def d_is_integer : DefG := ⟨fun K => He.ga K "is_integer", "is_integer", "is_integer", defArgs s_is_integer, defBody s_is_integer, defScope s_is_integer, [], []⟩
abbrev s_is_letter : Stmt := top 10
def d_is_letter : DefG := ⟨fun K => He.ga K "is_letter", "is_letter", "is_letter", defArgs s_is_letter, defBody s_is_letter, defScope s_is_letter, [], []⟩
abbrev s_need_letters : Stmt := top 13
def d_need_letters : DefG := ⟨fun K => He.ga K "need_letters", "need_letters", "need_letters", defArgs s_need_letters, defBody s_need_letters, defScope s_need_letters, [], []⟩
abbrev s_need_row : Stmt := top 14
def d_need_row : DefG := ⟨fun K => He.ga K "need_row", "need_row", "need_row", defArgs s_need_row, defBody s_need_row, defScope s_need_row, [], []⟩
abbrev s_undone : Stmt := top 15
def d_undone : DefG := ⟨fun K => He.ga K "undone", "undone", "undone", defArgs s_undone, defBody s_undone, defScope s_undone, [], []⟩
abbrev s_struck : Stmt := top 16
def d_struck : DefG := ⟨fun K => He.ga K "struck", "struck", "struck", defArgs s_struck, defBody s_struck, defScope s_struck, [], []⟩
abbrev s_product : Stmt := top 17
def d_product : DefG := ⟨fun K => He.ga K "product", "product", "product", defArgs s_product, defBody s_product, defScope s_product, [], []⟩
abbrev s_need_word : Stmt := top 18
def d_need_word : DefG := ⟨fun K => He.ga K "need_word", "need_word", "need_word", defArgs s_need_word, defBody s_need_word, defScope s_need_word, [], []⟩
abbrev s_is_row : Stmt := top 20
def d_is_row : DefG := ⟨fun K => He.ga K "is_row", "is_row", "is_row", defArgs s_is_row, defBody s_is_row, defScope s_is_row, [], []⟩
abbrev s_lone : Stmt := top 21
def d_lone : DefG := ⟨fun K => He.ga K "lone", "lone", "lone", defArgs s_lone, defBody s_lone, defScope s_lone, [], []⟩
abbrev s__law_pen : Stmt := top 23
def d__law_pen : DefG := ⟨fun K => He.ga K "_law_pen", "_law_pen", "_law_pen", defArgs s__law_pen, defBody s__law_pen, defScope s__law_pen, [], []⟩
abbrev s__law_draw : Stmt := top 24
def d__law_draw : DefG := ⟨fun K => He.ga K "_law_draw", "_law_draw", "_law_draw", defArgs s__law_draw, defBody s__law_draw, defScope s__law_draw, [], []⟩
abbrev s__law_pick : Stmt := top 25
def d__law_pick : DefG := ⟨fun K => He.ga K "_law_pick", "_law_pick", "_law_pick", defArgs s__law_pick, defBody s__law_pick, defScope s__law_pick, [], []⟩
abbrev s__law_heard : Stmt := top 26
def d__law_heard : DefG := ⟨fun K => He.ga K "_law_heard", "_law_heard", "_law_heard", defArgs s__law_heard, defBody s__law_heard, defScope s__law_heard, [], []⟩
abbrev s__law_undo : Stmt := top 27
def d__law_undo : DefG := ⟨fun K => He.ga K "_law_undo", "_law_undo", "_law_undo", defArgs s__law_undo, defBody s__law_undo, defScope s__law_undo, [], []⟩
abbrev s__law_row : Stmt := top 28
def d__law_row : DefG := ⟨fun K => He.ga K "_law_row", "_law_row", "_law_row", defArgs s__law_row, defBody s__law_row, defScope s__law_row, [], []⟩
abbrev s__law_due : Stmt := top 29
def d__law_due : DefG := ⟨fun K => He.ga K "_law_due", "_law_due", "_law_due", defArgs s__law_due, defBody s__law_due, defScope s__law_due, [], []⟩
abbrev s__law_spoiled : Stmt := top 30
def d__law_spoiled : DefG := ⟨fun K => He.ga K "_law_spoiled", "_law_spoiled", "_law_spoiled", defArgs s__law_spoiled, defBody s__law_spoiled, defScope s__law_spoiled, [], []⟩
abbrev s__law_text_right : Stmt := top 31
def d__law_text_right : DefG := ⟨fun K => He.ga K "_law_text_right", "_law_text_right", "_law_text_right", defArgs s__law_text_right, defBody s__law_text_right, defScope s__law_text_right, [], []⟩
abbrev s__law_long_right : Stmt := top 32
def d__law_long_right : DefG := ⟨fun K => He.ga K "_law_long_right", "_law_long_right", "_law_long_right", defArgs s__law_long_right, defBody s__law_long_right, defScope s__law_long_right, [], []⟩
abbrev s_law : Stmt := top 33
def d_law : DefG := ⟨fun K => He.ga K "law", "law", "law", defArgs s_law, defBody s_law, defScope s_law, [], []⟩
abbrev s_Word___init__ : Stmt := inClass (top 19) 0
def d_Word___init__ : DefG := ⟨fun K => He.ma K (He.ga K "Word") "__init__", "__init__", "Word.__init__", defArgs s_Word___init__, defBody s_Word___init__, defScope s_Word___init__, [.str ""], []⟩
abbrev s_Word_of : Stmt := inClass (top 19) 1
def d_Word_of : DefG := ⟨fun K => sAd K (He.ga K "Word") "of", "of", "Word.of", defArgs s_Word_of, defBody s_Word_of, defScope s_Word_of, [], []⟩
abbrev s_Word_read : Stmt := inClass (top 19) 2
def d_Word_read : DefG := ⟨fun K => sAd K (He.ga K "Word") "read", "read", "Word.read", defArgs s_Word_read, defBody s_Word_read, defScope s_Word_read, [], []⟩
abbrev s_Word___mul__ : Stmt := inClass (top 19) 10
def d_Word___mul__ : DefG := ⟨fun K => He.ma K (He.ga K "Word") "__mul__", "__mul__", "Word.__mul__", defArgs s_Word___mul__, defBody s_Word___mul__, defScope s_Word___mul__, [], []⟩
abbrev s_Word___invert__ : Stmt := inClass (top 19) 11
def d_Word___invert__ : DefG := ⟨fun K => He.ma K (He.ga K "Word") "__invert__", "__invert__", "Word.__invert__", defArgs s_Word___invert__, defBody s_Word___invert__, defScope s_Word___invert__, [], []⟩
abbrev s_Word___len__ : Stmt := inClass (top 19) 12
def d_Word___len__ : DefG := ⟨fun K => He.ma K (He.ga K "Word") "__len__", "__len__", "Word.__len__", defArgs s_Word___len__, defBody s_Word___len__, defScope s_Word___len__, [], []⟩
abbrev s_Word___iter__ : Stmt := inClass (top 19) 13
def d_Word___iter__ : DefG := ⟨fun K => He.ma K (He.ga K "Word") "__iter__", "__iter__", "Word.__iter__", defArgs s_Word___iter__, defBody s_Word___iter__, defScope s_Word___iter__, [], []⟩
abbrev s_Word___getitem__ : Stmt := inClass (top 19) 14
def d_Word___getitem__ : DefG := ⟨fun K => He.ma K (He.ga K "Word") "__getitem__", "__getitem__", "Word.__getitem__", defArgs s_Word___getitem__, defBody s_Word___getitem__, defScope s_Word___getitem__, [], []⟩
abbrev s_Word___lt__ : Stmt := inClass (top 19) 15
def d_Word___lt__ : DefG := ⟨fun K => He.ma K (He.ga K "Word") "__lt__", "__lt__", "Word.__lt__", defArgs s_Word___lt__, defBody s_Word___lt__, defScope s_Word___lt__, [], []⟩
abbrev s_Word___le__ : Stmt := inClass (top 19) 16
def d_Word___le__ : DefG := ⟨fun K => He.ma K (He.ga K "Word") "__le__", "__le__", "Word.__le__", defArgs s_Word___le__, defBody s_Word___le__, defScope s_Word___le__, [], []⟩
abbrev s_Word___gt__ : Stmt := inClass (top 19) 17
def d_Word___gt__ : DefG := ⟨fun K => He.ma K (He.ga K "Word") "__gt__", "__gt__", "Word.__gt__", defArgs s_Word___gt__, defBody s_Word___gt__, defScope s_Word___gt__, [], []⟩
abbrev s_Word___ge__ : Stmt := inClass (top 19) 18
def d_Word___ge__ : DefG := ⟨fun K => He.ma K (He.ga K "Word") "__ge__", "__ge__", "Word.__ge__", defArgs s_Word___ge__, defBody s_Word___ge__, defScope s_Word___ge__, [], []⟩
abbrev s_Word___eq__ : Stmt := inClass (top 19) 19
def d_Word___eq__ : DefG := ⟨fun K => He.ma K (He.ga K "Word") "__eq__", "__eq__", "Word.__eq__", defArgs s_Word___eq__, defBody s_Word___eq__, defScope s_Word___eq__, [], []⟩
abbrev s_Word___str__ : Stmt := inClass (top 19) 20
def d_Word___str__ : DefG := ⟨fun K => He.ma K (He.ga K "Word") "__str__", "__str__", "Word.__str__", defArgs s_Word___str__, defBody s_Word___str__, defScope s_Word___str__, [], []⟩
abbrev s_BadNumber : Stmt := inClass (top 3) 0
def d_BadNumber : DefG := ⟨fun K => He.ma K (He.ga K "BadNumber") "__init__", "__init__", "BadNumber.__init__", defArgs s_BadNumber, defBody s_BadNumber, defScope s_BadNumber, [], ["__class__"]⟩
abbrev s_BadWord : Stmt := inClass (top 4) 0
def d_BadWord : DefG := ⟨fun K => He.ma K (He.ga K "BadWord") "__init__", "__init__", "BadWord.__init__", defArgs s_BadWord, defBody s_BadWord, defScope s_BadWord, [], ["__class__"]⟩
abbrev s_TooMany : Stmt := inClass (top 5) 0
def d_TooMany : DefG := ⟨fun K => He.ma K (He.ga K "TooMany") "__init__", "__init__", "TooMany.__init__", defArgs s_TooMany, defBody s_TooMany, defScope s_TooMany, [], ["__class__"]⟩
abbrev s_BadText : Stmt := inClass (top 6) 0
def d_BadText : DefG := ⟨fun K => He.ma K (He.ga K "BadText") "__init__", "__init__", "BadText.__init__", defArgs s_BadText, defBody s_BadText, defScope s_BadText, [], ["__class__"]⟩
def tf : List He.Defn := [("_law_text_right", none), ("_law_long_right", none), ("law", none)]
def fa : List He.Fa := [.glo "is_integer", .glo "is_letter", .glo "need_letters", .glo "need_row", .glo "undone", .glo "struck", .glo "product", .glo "need_word", .glo "is_row", .glo "lone", .glo "_law_pen", .glo "_law_draw", .glo "_law_pick", .glo "_law_heard", .glo "_law_undo", .glo "_law_row", .glo "_law_due", .glo "_law_spoiled", .glo "_law_text_right", .glo "_law_long_right", .glo "law", .glo "Word", .cls "Word", .mkr "Word", .noat "Word" "letters", .noat "Word" "size", .meth "Word" "__init__", .meth "Word" "__mul__", .meth "Word" "__invert__", .meth "Word" "__len__", .meth "Word" "__iter__", .meth "Word" "__getitem__", .meth "Word" "__lt__", .meth "Word" "__le__", .meth "Word" "__gt__", .meth "Word" "__ge__", .meth "Word" "__eq__", .meth "Word" "__str__", .glo "BallError", .glo "BadNumber", .glo "BadWord", .glo "TooMany", .glo "BadText", .free "ValueError", .free "staticmethod", .free "enumerate", .free "range", .free "isinstance", .free "int", .free "str", .free "len", .free "iter", .free "NotImplemented", .free "list", .free "bool", .free "abs", .free "super", .str "LETTERS" "ABCDabcd", .int "MOST_LETTERS" 4000, .exm "BallError" "BallError" true, .exm "BadNumber" "BallError" true, .exm "BadWord" "BallError" true, .exm "TooMany" "BallError" true, .exm "BadText" "BallError" true]
def dg : List DefG := [d_is_integer, d_is_letter, d_need_letters, d_need_row, d_undone, d_struck, d_product, d_need_word, d_is_row, d_lone, d__law_pen, d__law_draw, d__law_pick, d__law_heard, d__law_undo, d__law_row, d__law_due, d__law_spoiled, d__law_text_right, d__law_long_right, d_law, d_Word___init__, d_Word_of, d_Word_read, d_Word___mul__, d_Word___invert__, d_Word___len__, d_Word___iter__, d_Word___getitem__, d_Word___lt__, d_Word___le__, d_Word___gt__, d_Word___ge__, d_Word___eq__, d_Word___str__, d_BadNumber, d_BadWord, d_TooMany, d_BadText]
def x_st_Word_of : PySem.W.Frag → Bool := fun K => statB K (He.ga K "Word") "of"
def x_st_Word_read : PySem.W.Frag → Bool := fun K => statB K (He.ga K "Word") "read"
def x_sup_BadNumber : PySem.W.Frag → Bool := fun K => supB prg.main.file K (He.ga K "BadNumber") (d_BadNumber.ad K) ["part"]
def x_xf_BadNumber : PySem.W.Frag → Bool := fun K => xfB K (He.ga K "BadNumber")
def x_xc_BadNumber : PySem.W.Frag → Bool := fun K => excCB K (He.ga K "BadNumber")
def x_sup_BadWord : PySem.W.Frag → Bool := fun K => supB prg.main.file K (He.ga K "BadWord") (d_BadWord.ad K) ["at"]
def x_xf_BadWord : PySem.W.Frag → Bool := fun K => xfB K (He.ga K "BadWord")
def x_xc_BadWord : PySem.W.Frag → Bool := fun K => excCB K (He.ga K "BadWord")
def x_sup_TooMany : PySem.W.Frag → Bool := fun K => supB prg.main.file K (He.ga K "TooMany") (d_TooMany.ad K) ["what", "most"]
def x_xf_TooMany : PySem.W.Frag → Bool := fun K => xfB K (He.ga K "TooMany")
def x_xc_TooMany : PySem.W.Frag → Bool := fun K => excCB K (He.ga K "TooMany")
def x_sup_BadText : PySem.W.Frag → Bool := fun K => supB prg.main.file K (He.ga K "BadText") (d_BadText.ad K) ["item"]
def x_xf_BadText : PySem.W.Frag → Bool := fun K => xfB K (He.ga K "BadText")
def x_xc_BadText : PySem.W.Frag → Bool := fun K => excCB K (He.ga K "BadText")
def x_is_int_Word : PySem.W.Frag → Bool := fun K => eqB (PySem.W.kitOne K (.type "int") (.ref (He.ga K "Word"))) (some false)
def x_is_str_Word : PySem.W.Frag → Bool := fun K => eqB (PySem.W.kitOne K (.type "str") (.ref (He.ga K "Word"))) (some false)
def x_is_bool_Word : PySem.W.Frag → Bool := fun K => eqB (PySem.W.kitOne K (.type "bool") (.ref (He.ga K "Word"))) (some false)
def x_is_NoneType_Word : PySem.W.Frag → Bool := fun K => eqB (PySem.W.kitOne K (.type "NoneType") (.ref (He.ga K "Word"))) (some false)
def x_is_list_Word : PySem.W.Frag → Bool := fun K => eqB (PySem.W.kitOne K (.type "list") (.ref (He.ga K "Word"))) (some false)
def x_is_tuple_Word : PySem.W.Frag → Bool := fun K => eqB (PySem.W.kitOne K (.type "tuple") (.ref (He.ga K "Word"))) (some false)
def x_is_dict_Word : PySem.W.Frag → Bool := fun K => eqB (PySem.W.kitOne K (.type "dict") (.ref (He.ga K "Word"))) (some false)
def x_is_BallError_Word : PySem.W.Frag → Bool := fun K => eqB (PySem.W.kitOne K (.ref (He.ga K "BallError")) (.ref (He.ga K "Word"))) (some false)
def x_is_BadNumber_Word : PySem.W.Frag → Bool := fun K => eqB (PySem.W.kitOne K (.ref (He.ga K "BadNumber")) (.ref (He.ga K "Word"))) (some false)
def x_is_BadWord_Word : PySem.W.Frag → Bool := fun K => eqB (PySem.W.kitOne K (.ref (He.ga K "BadWord")) (.ref (He.ga K "Word"))) (some false)
def x_is_TooMany_Word : PySem.W.Frag → Bool := fun K => eqB (PySem.W.kitOne K (.ref (He.ga K "TooMany")) (.ref (He.ga K "Word"))) (some false)
def x_is_BadText_Word : PySem.W.Frag → Bool := fun K => eqB (PySem.W.kitOne K (.ref (He.ga K "BadText")) (.ref (He.ga K "Word"))) (some false)
def x_is_Word_Word : PySem.W.Frag → Bool := fun K => eqB (PySem.W.kitOne K (.ref (He.ga K "Word")) (.ref (He.ga K "Word"))) (some true)
def x_is_int_BadWord : PySem.W.Frag → Bool := fun K => eqB (PySem.W.kitOne K (.type "int") (.ref (He.ga K "BadWord"))) (some false)
def x_is_str_BadWord : PySem.W.Frag → Bool := fun K => eqB (PySem.W.kitOne K (.type "str") (.ref (He.ga K "BadWord"))) (some false)
def x_is_bool_BadWord : PySem.W.Frag → Bool := fun K => eqB (PySem.W.kitOne K (.type "bool") (.ref (He.ga K "BadWord"))) (some false)
def x_is_NoneType_BadWord : PySem.W.Frag → Bool := fun K => eqB (PySem.W.kitOne K (.type "NoneType") (.ref (He.ga K "BadWord"))) (some false)
def x_is_list_BadWord : PySem.W.Frag → Bool := fun K => eqB (PySem.W.kitOne K (.type "list") (.ref (He.ga K "BadWord"))) (some false)
def x_is_tuple_BadWord : PySem.W.Frag → Bool := fun K => eqB (PySem.W.kitOne K (.type "tuple") (.ref (He.ga K "BadWord"))) (some false)
def x_is_dict_BadWord : PySem.W.Frag → Bool := fun K => eqB (PySem.W.kitOne K (.type "dict") (.ref (He.ga K "BadWord"))) (some false)
def x_is_BallError_BadWord : PySem.W.Frag → Bool := fun K => eqB (PySem.W.kitOne K (.ref (He.ga K "BallError")) (.ref (He.ga K "BadWord"))) (some false)
def x_is_BadNumber_BadWord : PySem.W.Frag → Bool := fun K => eqB (PySem.W.kitOne K (.ref (He.ga K "BadNumber")) (.ref (He.ga K "BadWord"))) (some false)
def x_is_BadWord_BadWord : PySem.W.Frag → Bool := fun K => eqB (PySem.W.kitOne K (.ref (He.ga K "BadWord")) (.ref (He.ga K "BadWord"))) (some true)
def x_is_TooMany_BadWord : PySem.W.Frag → Bool := fun K => eqB (PySem.W.kitOne K (.ref (He.ga K "TooMany")) (.ref (He.ga K "BadWord"))) (some false)
def x_is_BadText_BadWord : PySem.W.Frag → Bool := fun K => eqB (PySem.W.kitOne K (.ref (He.ga K "BadText")) (.ref (He.ga K "BadWord"))) (some false)
def x_is_Word_BadWord : PySem.W.Frag → Bool := fun K => eqB (PySem.W.kitOne K (.ref (He.ga K "Word")) (.ref (He.ga K "BadWord"))) (some false)
def x_is_int_BadText : PySem.W.Frag → Bool := fun K => eqB (PySem.W.kitOne K (.type "int") (.ref (He.ga K "BadText"))) (some false)
def x_is_str_BadText : PySem.W.Frag → Bool := fun K => eqB (PySem.W.kitOne K (.type "str") (.ref (He.ga K "BadText"))) (some false)
def x_is_bool_BadText : PySem.W.Frag → Bool := fun K => eqB (PySem.W.kitOne K (.type "bool") (.ref (He.ga K "BadText"))) (some false)
def x_is_NoneType_BadText : PySem.W.Frag → Bool := fun K => eqB (PySem.W.kitOne K (.type "NoneType") (.ref (He.ga K "BadText"))) (some false)
def x_is_list_BadText : PySem.W.Frag → Bool := fun K => eqB (PySem.W.kitOne K (.type "list") (.ref (He.ga K "BadText"))) (some false)
def x_is_tuple_BadText : PySem.W.Frag → Bool := fun K => eqB (PySem.W.kitOne K (.type "tuple") (.ref (He.ga K "BadText"))) (some false)
def x_is_dict_BadText : PySem.W.Frag → Bool := fun K => eqB (PySem.W.kitOne K (.type "dict") (.ref (He.ga K "BadText"))) (some false)
def x_is_BallError_BadText : PySem.W.Frag → Bool := fun K => eqB (PySem.W.kitOne K (.ref (He.ga K "BallError")) (.ref (He.ga K "BadText"))) (some false)
def x_is_BadNumber_BadText : PySem.W.Frag → Bool := fun K => eqB (PySem.W.kitOne K (.ref (He.ga K "BadNumber")) (.ref (He.ga K "BadText"))) (some false)
def x_is_BadWord_BadText : PySem.W.Frag → Bool := fun K => eqB (PySem.W.kitOne K (.ref (He.ga K "BadWord")) (.ref (He.ga K "BadText"))) (some false)
def x_is_TooMany_BadText : PySem.W.Frag → Bool := fun K => eqB (PySem.W.kitOne K (.ref (He.ga K "TooMany")) (.ref (He.ga K "BadText"))) (some false)
def x_is_BadText_BadText : PySem.W.Frag → Bool := fun K => eqB (PySem.W.kitOne K (.ref (He.ga K "BadText")) (.ref (He.ga K "BadText"))) (some true)
def x_is_Word_BadText : PySem.W.Frag → Bool := fun K => eqB (PySem.W.kitOne K (.ref (He.ga K "Word")) (.ref (He.ga K "BadText"))) (some false)
def x_ty_Word : PySem.W.Frag → Bool := fun K => tyB K (He.ga K "Word")
def x_ne_Word : PySem.W.Frag → Bool := fun K => eqO (PySem.W.findIn K (.ref (He.ga K "Word")) "__ne__") (some (some (.builtin "object.__ne__")))
def x_sf_Word : PySem.W.Frag → Bool := fun K => PySem.W.selfFirst K (He.ga K "Word")
def x_is_Word_int : PySem.W.Frag → Bool := fun K => eqB (PySem.W.kitOne K (.ref (He.ga K "Word")) (.type "int")) (some false)
def x_is_Word_str : PySem.W.Frag → Bool := fun K => eqB (PySem.W.kitOne K (.ref (He.ga K "Word")) (.type "str")) (some false)
def x_is_Word_bool : PySem.W.Frag → Bool := fun K => eqB (PySem.W.kitOne K (.ref (He.ga K "Word")) (.type "bool")) (some false)
def x_is_Word_list : PySem.W.Frag → Bool := fun K => eqB (PySem.W.kitOne K (.ref (He.ga K "Word")) (.type "list")) (some false)
def x_is_Word_tuple : PySem.W.Frag → Bool := fun K => eqB (PySem.W.kitOne K (.ref (He.ga K "Word")) (.type "tuple")) (some false)
def x_is_BallError_int : PySem.W.Frag → Bool := fun K => eqB (PySem.W.kitOne K (.ref (He.ga K "BallError")) (.type "int")) (some false)
def x_is_BallError_str : PySem.W.Frag → Bool := fun K => eqB (PySem.W.kitOne K (.ref (He.ga K "BallError")) (.type "str")) (some false)
def x_is_BallError_bool : PySem.W.Frag → Bool := fun K => eqB (PySem.W.kitOne K (.ref (He.ga K "BallError")) (.type "bool")) (some false)
def x_is_BadNumber_int : PySem.W.Frag → Bool := fun K => eqB (PySem.W.kitOne K (.ref (He.ga K "BadNumber")) (.type "int")) (some false)
def x_is_BadNumber_str : PySem.W.Frag → Bool := fun K => eqB (PySem.W.kitOne K (.ref (He.ga K "BadNumber")) (.type "str")) (some false)
def x_is_BadNumber_bool : PySem.W.Frag → Bool := fun K => eqB (PySem.W.kitOne K (.ref (He.ga K "BadNumber")) (.type "bool")) (some false)
def x_is_BadWord_int : PySem.W.Frag → Bool := fun K => eqB (PySem.W.kitOne K (.ref (He.ga K "BadWord")) (.type "int")) (some false)
def x_is_BadWord_str : PySem.W.Frag → Bool := fun K => eqB (PySem.W.kitOne K (.ref (He.ga K "BadWord")) (.type "str")) (some false)
def x_is_BadWord_bool : PySem.W.Frag → Bool := fun K => eqB (PySem.W.kitOne K (.ref (He.ga K "BadWord")) (.type "bool")) (some false)
def x_is_TooMany_int : PySem.W.Frag → Bool := fun K => eqB (PySem.W.kitOne K (.ref (He.ga K "TooMany")) (.type "int")) (some false)
def x_is_TooMany_str : PySem.W.Frag → Bool := fun K => eqB (PySem.W.kitOne K (.ref (He.ga K "TooMany")) (.type "str")) (some false)
def x_is_TooMany_bool : PySem.W.Frag → Bool := fun K => eqB (PySem.W.kitOne K (.ref (He.ga K "TooMany")) (.type "bool")) (some false)
def x_is_BadText_int : PySem.W.Frag → Bool := fun K => eqB (PySem.W.kitOne K (.ref (He.ga K "BadText")) (.type "int")) (some false)
def x_is_BadText_str : PySem.W.Frag → Bool := fun K => eqB (PySem.W.kitOne K (.ref (He.ga K "BadText")) (.type "str")) (some false)
def x_is_BadText_bool : PySem.W.Frag → Bool := fun K => eqB (PySem.W.kitOne K (.ref (He.ga K "BadText")) (.type "bool")) (some false)
def x_tabs : PySem.W.Frag → Bool := fun K => decide ((tf.map fun p => (He.cT K p).2).Nodup)
def exl : List (PySem.W.Frag → Bool) := [x_st_Word_of, x_st_Word_read, x_sup_BadNumber, x_xf_BadNumber, x_xc_BadNumber, x_sup_BadWord, x_xf_BadWord, x_xc_BadWord, x_sup_TooMany, x_xf_TooMany, x_xc_TooMany, x_sup_BadText, x_xf_BadText, x_xc_BadText, x_is_int_Word, x_is_str_Word, x_is_bool_Word, x_is_NoneType_Word, x_is_list_Word, x_is_tuple_Word, x_is_dict_Word, x_is_BallError_Word, x_is_BadNumber_Word, x_is_BadWord_Word, x_is_TooMany_Word, x_is_BadText_Word, x_is_Word_Word, x_is_int_BadWord, x_is_str_BadWord, x_is_bool_BadWord, x_is_NoneType_BadWord, x_is_list_BadWord, x_is_tuple_BadWord, x_is_dict_BadWord, x_is_BallError_BadWord, x_is_BadNumber_BadWord, x_is_BadWord_BadWord, x_is_TooMany_BadWord, x_is_BadText_BadWord, x_is_Word_BadWord, x_is_int_BadText, x_is_str_BadText, x_is_bool_BadText, x_is_NoneType_BadText, x_is_list_BadText, x_is_tuple_BadText, x_is_dict_BadText, x_is_BallError_BadText, x_is_BadNumber_BadText, x_is_BadWord_BadText, x_is_TooMany_BadText, x_is_BadText_BadText, x_is_Word_BadText, x_ty_Word, x_ne_Word, x_sf_Word, x_is_Word_int, x_is_Word_str, x_is_Word_bool, x_is_Word_list, x_is_Word_tuple, x_is_BallError_int, x_is_BallError_str, x_is_BallError_bool, x_is_BadNumber_int, x_is_BadNumber_str, x_is_BadNumber_bool, x_is_BadWord_int, x_is_BadWord_str, x_is_BadWord_bool, x_is_TooMany_int, x_is_TooMany_str, x_is_TooMany_bool, x_is_BadText_int, x_is_BadText_str, x_is_BadText_bool, x_tabs]
def exA (K : PySem.W.Frag) : Bool := exl.all fun f => f K
abbrev Row : PySem.W.OpenRow := PySem.W.OpenLaw.row lw
abbrev hk : PySem.W.Hook := hookS 5 fa dg [] tf exA
def ob (s : PySem.W.SharedT) : AlS := obsS 5 fa dg [] tf exA (HandSHeadRun.getT s)
theorem ob_eq (s : PySem.W.SharedT) : ob s = hk.obs s.abs := obsS_eq (HandSHeadRun.getT_eq s)
def loose : List Str := (prg.main.scope.names.map (·.1)).filter (· != "law")
def lawAt : Nat := 33
theorem run (w : World) : HandSHeadRun.RunEq Row (PySem.W.view (Row).prog [33]) hk ob 8000 loose w := by
  intro os
  kernel_rfl
/-- what is known of the top -/
structure Ctx (w : World) (K : PySem.W.Frag) (mg : Str → Option Value) : Prop where
  ex : ∃ h : Heap, K.In h ∧ h.Ns mainGlobals mg ∧ SaysS fa dg [] tf exA w h K
section
variable {w : World} {K : PySem.W.Frag} {mg : Str → Option Value}
theorem Ctx.fact (C : Ctx w K mg) (i : Nat) {f : He.Fa} (h : fa[i]? = some f) : f.ok K = true := by
  obtain ⟨h0, X, G, S⟩ := C.ex
  exact S.fa f (List.mem_of_getElem? h)
theorem Ctx.more (C : Ctx w K mg) (i : Nat) {f : PySem.W.Frag → Bool} (h : exl[i]? = some f) : f K = true := by
  obtain ⟨h0, X, G, S⟩ := C.ex
  exact List.all_eq_true.mp S.ex f (List.mem_of_getElem? h)
theorem Ctx.at_ (C : Ctx w K mg) (i : Nat) {d : DefG} (h : dg[i]? = some d) : d.At K := by
  obtain ⟨h0, X, G, S⟩ := C.ex
  exact S.dg d (List.mem_of_getElem? h)
theorem g_is_integer (C : Ctx w K mg) : mg "is_integer" = some (.ref (He.ga K "is_integer")) := by
  obtain ⟨h0, X, G, S⟩ := C.ex
  exact He.glo_ok X G (C.fact 0 (f := .glo "is_integer") rfl)
theorem g_is_letter (C : Ctx w K mg) : mg "is_letter" = some (.ref (He.ga K "is_letter")) := by
  obtain ⟨h0, X, G, S⟩ := C.ex
  exact He.glo_ok X G (C.fact 1 (f := .glo "is_letter") rfl)
theorem g_need_letters (C : Ctx w K mg) : mg "need_letters" = some (.ref (He.ga K "need_letters")) := by
  obtain ⟨h0, X, G, S⟩ := C.ex
  exact He.glo_ok X G (C.fact 2 (f := .glo "need_letters") rfl)
theorem g_need_row (C : Ctx w K mg) : mg "need_row" = some (.ref (He.ga K "need_row")) := by
  obtain ⟨h0, X, G, S⟩ := C.ex
  exact He.glo_ok X G (C.fact 3 (f := .glo "need_row") rfl)
theorem g_undone (C : Ctx w K mg) : mg "undone" = some (.ref (He.ga K "undone")) := by
  obtain ⟨h0, X, G, S⟩ := C.ex
  exact He.glo_ok X G (C.fact 4 (f := .glo "undone") rfl)
theorem g_struck (C : Ctx w K mg) : mg "struck" = some (.ref (He.ga K "struck")) := by
  obtain ⟨h0, X, G, S⟩ := C.ex
  exact He.glo_ok X G (C.fact 5 (f := .glo "struck") rfl)
theorem g_product (C : Ctx w K mg) : mg "product" = some (.ref (He.ga K "product")) := by
  obtain ⟨h0, X, G, S⟩ := C.ex
  exact He.glo_ok X G (C.fact 6 (f := .glo "product") rfl)
theorem g_need_word (C : Ctx w K mg) : mg "need_word" = some (.ref (He.ga K "need_word")) := by
  obtain ⟨h0, X, G, S⟩ := C.ex
  exact He.glo_ok X G (C.fact 7 (f := .glo "need_word") rfl)
theorem g_is_row (C : Ctx w K mg) : mg "is_row" = some (.ref (He.ga K "is_row")) := by
  obtain ⟨h0, X, G, S⟩ := C.ex
  exact He.glo_ok X G (C.fact 8 (f := .glo "is_row") rfl)
theorem g_lone (C : Ctx w K mg) : mg "lone" = some (.ref (He.ga K "lone")) := by
  obtain ⟨h0, X, G, S⟩ := C.ex
  exact He.glo_ok X G (C.fact 9 (f := .glo "lone") rfl)
theorem g__law_pen (C : Ctx w K mg) : mg "_law_pen" = some (.ref (He.ga K "_law_pen")) := by
  obtain ⟨h0, X, G, S⟩ := C.ex
  exact He.glo_ok X G (C.fact 10 (f := .glo "_law_pen") rfl)
theorem g__law_draw (C : Ctx w K mg) : mg "_law_draw" = some (.ref (He.ga K "_law_draw")) := by
  obtain ⟨h0, X, G, S⟩ := C.ex
  exact He.glo_ok X G (C.fact 11 (f := .glo "_law_draw") rfl)
theorem g__law_pick (C : Ctx w K mg) : mg "_law_pick" = some (.ref (He.ga K "_law_pick")) := by
  obtain ⟨h0, X, G, S⟩ := C.ex
  exact He.glo_ok X G (C.fact 12 (f := .glo "_law_pick") rfl)
theorem g__law_heard (C : Ctx w K mg) : mg "_law_heard" = some (.ref (He.ga K "_law_heard")) := by
  obtain ⟨h0, X, G, S⟩ := C.ex
  exact He.glo_ok X G (C.fact 13 (f := .glo "_law_heard") rfl)
theorem g__law_undo (C : Ctx w K mg) : mg "_law_undo" = some (.ref (He.ga K "_law_undo")) := by
  obtain ⟨h0, X, G, S⟩ := C.ex
  exact He.glo_ok X G (C.fact 14 (f := .glo "_law_undo") rfl)
theorem g__law_row (C : Ctx w K mg) : mg "_law_row" = some (.ref (He.ga K "_law_row")) := by
  obtain ⟨h0, X, G, S⟩ := C.ex
  exact He.glo_ok X G (C.fact 15 (f := .glo "_law_row") rfl)
theorem g__law_due (C : Ctx w K mg) : mg "_law_due" = some (.ref (He.ga K "_law_due")) := by
  obtain ⟨h0, X, G, S⟩ := C.ex
  exact He.glo_ok X G (C.fact 16 (f := .glo "_law_due") rfl)
theorem g__law_spoiled (C : Ctx w K mg) : mg "_law_spoiled" = some (.ref (He.ga K "_law_spoiled")) := by
  obtain ⟨h0, X, G, S⟩ := C.ex
  exact He.glo_ok X G (C.fact 17 (f := .glo "_law_spoiled") rfl)
theorem g__law_text_right (C : Ctx w K mg) : mg "_law_text_right" = some (.ref (He.ga K "_law_text_right")) := by
  obtain ⟨h0, X, G, S⟩ := C.ex
  exact He.glo_ok X G (C.fact 18 (f := .glo "_law_text_right") rfl)
theorem g__law_long_right (C : Ctx w K mg) : mg "_law_long_right" = some (.ref (He.ga K "_law_long_right")) := by
  obtain ⟨h0, X, G, S⟩ := C.ex
  exact He.glo_ok X G (C.fact 19 (f := .glo "_law_long_right") rfl)
theorem g_law (C : Ctx w K mg) : mg "law" = some (.ref (He.ga K "law")) := by
  obtain ⟨h0, X, G, S⟩ := C.ex
  exact He.glo_ok X G (C.fact 20 (f := .glo "law") rfl)
theorem g_Word (C : Ctx w K mg) : mg "Word" = some (.ref (He.ga K "Word")) := by
  obtain ⟨h0, X, G, S⟩ := C.ex
  exact He.glo_ok X G (C.fact 21 (f := .glo "Word") rfl)
theorem cl_Word (C : Ctx w K mg) : Cls K (He.ga K "Word") := He.cls_ok (C.fact 22 (f := .cls "Word") rfl)
theorem mk_Word (C : Ctx w K mg) : Mk K (He.ga K "Word") (He.ma K (He.ga K "Word") "__init__") := He.mkr_ok (C.fact 23 (f := .mkr "Word") rfl)
theorem na_Word_letters (C : Ctx w K mg) : NoAttr K (He.ga K "Word") "letters" := He.noat_ok (C.fact 24 (f := .noat "Word" "letters") rfl)
theorem na_Word_size (C : Ctx w K mg) : NoAttr K (He.ga K "Word") "size" := He.noat_ok (C.fact 25 (f := .noat "Word" "size") rfl)
theorem me_Word___init__ (C : Ctx w K mg) : Meth K (He.ga K "Word") "__init__" (He.ma K (He.ga K "Word") "__init__") := He.meth_ok (C.fact 26 (f := .meth "Word" "__init__") rfl)
theorem me_Word___mul__ (C : Ctx w K mg) : Meth K (He.ga K "Word") "__mul__" (He.ma K (He.ga K "Word") "__mul__") := He.meth_ok (C.fact 27 (f := .meth "Word" "__mul__") rfl)
theorem me_Word___invert__ (C : Ctx w K mg) : Meth K (He.ga K "Word") "__invert__" (He.ma K (He.ga K "Word") "__invert__") := He.meth_ok (C.fact 28 (f := .meth "Word" "__invert__") rfl)
theorem me_Word___len__ (C : Ctx w K mg) : Meth K (He.ga K "Word") "__len__" (He.ma K (He.ga K "Word") "__len__") := He.meth_ok (C.fact 29 (f := .meth "Word" "__len__") rfl)
theorem me_Word___iter__ (C : Ctx w K mg) : Meth K (He.ga K "Word") "__iter__" (He.ma K (He.ga K "Word") "__iter__") := He.meth_ok (C.fact 30 (f := .meth "Word" "__iter__") rfl)
theorem me_Word___getitem__ (C : Ctx w K mg) : Meth K (He.ga K "Word") "__getitem__" (He.ma K (He.ga K "Word") "__getitem__") := He.meth_ok (C.fact 31 (f := .meth "Word" "__getitem__") rfl)
theorem me_Word___lt__ (C : Ctx w K mg) : Meth K (He.ga K "Word") "__lt__" (He.ma K (He.ga K "Word") "__lt__") := He.meth_ok (C.fact 32 (f := .meth "Word" "__lt__") rfl)
theorem me_Word___le__ (C : Ctx w K mg) : Meth K (He.ga K "Word") "__le__" (He.ma K (He.ga K "Word") "__le__") := He.meth_ok (C.fact 33 (f := .meth "Word" "__le__") rfl)
theorem me_Word___gt__ (C : Ctx w K mg) : Meth K (He.ga K "Word") "__gt__" (He.ma K (He.ga K "Word") "__gt__") := He.meth_ok (C.fact 34 (f := .meth "Word" "__gt__") rfl)
theorem me_Word___ge__ (C : Ctx w K mg) : Meth K (He.ga K "Word") "__ge__" (He.ma K (He.ga K "Word") "__ge__") := He.meth_ok (C.fact 35 (f := .meth "Word" "__ge__") rfl)
theorem me_Word___eq__ (C : Ctx w K mg) : Meth K (He.ga K "Word") "__eq__" (He.ma K (He.ga K "Word") "__eq__") := He.meth_ok (C.fact 36 (f := .meth "Word" "__eq__") rfl)
theorem me_Word___str__ (C : Ctx w K mg) : Meth K (He.ga K "Word") "__str__" (He.ma K (He.ga K "Word") "__str__") := He.meth_ok (C.fact 37 (f := .meth "Word" "__str__") rfl)
theorem g_BallError (C : Ctx w K mg) : mg "BallError" = some (.ref (He.ga K "BallError")) := by
  obtain ⟨h0, X, G, S⟩ := C.ex
  exact He.glo_ok X G (C.fact 38 (f := .glo "BallError") rfl)
theorem g_BadNumber (C : Ctx w K mg) : mg "BadNumber" = some (.ref (He.ga K "BadNumber")) := by
  obtain ⟨h0, X, G, S⟩ := C.ex
  exact He.glo_ok X G (C.fact 39 (f := .glo "BadNumber") rfl)
theorem g_BadWord (C : Ctx w K mg) : mg "BadWord" = some (.ref (He.ga K "BadWord")) := by
  obtain ⟨h0, X, G, S⟩ := C.ex
  exact He.glo_ok X G (C.fact 40 (f := .glo "BadWord") rfl)
theorem g_TooMany (C : Ctx w K mg) : mg "TooMany" = some (.ref (He.ga K "TooMany")) := by
  obtain ⟨h0, X, G, S⟩ := C.ex
  exact He.glo_ok X G (C.fact 41 (f := .glo "TooMany") rfl)
theorem g_BadText (C : Ctx w K mg) : mg "BadText" = some (.ref (He.ga K "BadText")) := by
  obtain ⟨h0, X, G, S⟩ := C.ex
  exact He.glo_ok X G (C.fact 42 (f := .glo "BadText") rfl)
theorem b_ValueError (C : Ctx w K mg) : mg "ValueError" = none := by
  obtain ⟨h0, X, G, S⟩ := C.ex
  exact He.free_ok X G (C.fact 43 (f := .free "ValueError") rfl)
theorem b_staticmethod (C : Ctx w K mg) : mg "staticmethod" = none := by
  obtain ⟨h0, X, G, S⟩ := C.ex
  exact He.free_ok X G (C.fact 44 (f := .free "staticmethod") rfl)
theorem b_enumerate (C : Ctx w K mg) : mg "enumerate" = none := by
  obtain ⟨h0, X, G, S⟩ := C.ex
  exact He.free_ok X G (C.fact 45 (f := .free "enumerate") rfl)
theorem b_range (C : Ctx w K mg) : mg "range" = none := by
  obtain ⟨h0, X, G, S⟩ := C.ex
  exact He.free_ok X G (C.fact 46 (f := .free "range") rfl)
theorem b_isinstance (C : Ctx w K mg) : mg "isinstance" = none := by
  obtain ⟨h0, X, G, S⟩ := C.ex
  exact He.free_ok X G (C.fact 47 (f := .free "isinstance") rfl)
theorem b_int (C : Ctx w K mg) : mg "int" = none := by
  obtain ⟨h0, X, G, S⟩ := C.ex
  exact He.free_ok X G (C.fact 48 (f := .free "int") rfl)
theorem b_str (C : Ctx w K mg) : mg "str" = none := by
  obtain ⟨h0, X, G, S⟩ := C.ex
  exact He.free_ok X G (C.fact 49 (f := .free "str") rfl)
theorem b_len (C : Ctx w K mg) : mg "len" = none := by
  obtain ⟨h0, X, G, S⟩ := C.ex
  exact He.free_ok X G (C.fact 50 (f := .free "len") rfl)
theorem b_iter (C : Ctx w K mg) : mg "iter" = none := by
  obtain ⟨h0, X, G, S⟩ := C.ex
  exact He.free_ok X G (C.fact 51 (f := .free "iter") rfl)
theorem b_NotImplemented (C : Ctx w K mg) : mg "NotImplemented" = none := by
  obtain ⟨h0, X, G, S⟩ := C.ex
  exact He.free_ok X G (C.fact 52 (f := .free "NotImplemented") rfl)
theorem b_list (C : Ctx w K mg) : mg "list" = none := by
  obtain ⟨h0, X, G, S⟩ := C.ex
  exact He.free_ok X G (C.fact 53 (f := .free "list") rfl)
theorem b_bool (C : Ctx w K mg) : mg "bool" = none := by
  obtain ⟨h0, X, G, S⟩ := C.ex
  exact He.free_ok X G (C.fact 54 (f := .free "bool") rfl)
theorem b_abs (C : Ctx w K mg) : mg "abs" = none := by
  obtain ⟨h0, X, G, S⟩ := C.ex
  exact He.free_ok X G (C.fact 55 (f := .free "abs") rfl)
theorem b_super (C : Ctx w K mg) : mg "super" = none := by
  obtain ⟨h0, X, G, S⟩ := C.ex
  exact He.free_ok X G (C.fact 56 (f := .free "super") rfl)
theorem c_LETTERS (C : Ctx w K mg) : ∃ t, mg "LETTERS" = some (.str "ABCDabcd" t) := by
  obtain ⟨h0, X, G, S⟩ := C.ex
  exact He.str_ok X G (C.fact 57 (f := .str "LETTERS" "ABCDabcd") rfl)
theorem c_MOST_LETTERS (C : Ctx w K mg) : ∃ t, mg "MOST_LETTERS" = some (.int 4000 t) := by
  obtain ⟨h0, X, G, S⟩ := C.ex
  exact He.int_ok X G (C.fact 58 (f := .int "MOST_LETTERS" 4000) rfl)
theorem xm_BallError_BallError (C : Ctx w K mg) : PySem.W.exmOne K (.ref (He.ga K "BallError")) (.ref (He.ga K "BallError")) = some true := He.exm_ok (C.fact 59 (f := .exm "BallError" "BallError" true) rfl)
theorem xm_BadNumber_BallError (C : Ctx w K mg) : PySem.W.exmOne K (.ref (He.ga K "BadNumber")) (.ref (He.ga K "BallError")) = some true := He.exm_ok (C.fact 60 (f := .exm "BadNumber" "BallError" true) rfl)
theorem xm_BadWord_BallError (C : Ctx w K mg) : PySem.W.exmOne K (.ref (He.ga K "BadWord")) (.ref (He.ga K "BallError")) = some true := He.exm_ok (C.fact 61 (f := .exm "BadWord" "BallError" true) rfl)
theorem xm_TooMany_BallError (C : Ctx w K mg) : PySem.W.exmOne K (.ref (He.ga K "TooMany")) (.ref (He.ga K "BallError")) = some true := He.exm_ok (C.fact 62 (f := .exm "TooMany" "BallError" true) rfl)
theorem xm_BadText_BallError (C : Ctx w K mg) : PySem.W.exmOne K (.ref (He.ga K "BadText")) (.ref (He.ga K "BallError")) = some true := He.exm_ok (C.fact 63 (f := .exm "BadText" "BallError" true) rfl)
theorem e_st_Word_of (C : Ctx w K mg) : x_st_Word_of K = true := C.more 0 rfl
theorem st_Word_of (C : Ctx w K mg) : SMet K (He.ga K "Word") "of" (sAd K (He.ga K "Word") "of") := statB_ok (e_st_Word_of C)
theorem e_st_Word_read (C : Ctx w K mg) : x_st_Word_read K = true := C.more 1 rfl
theorem st_Word_read (C : Ctx w K mg) : SMet K (He.ga K "Word") "read" (sAd K (He.ga K "Word") "read") := statB_ok (e_st_Word_read C)
theorem e_sup_BadNumber (C : Ctx w K mg) : x_sup_BadNumber K = true := C.more 2 rfl
theorem e_xf_BadNumber (C : Ctx w K mg) : x_xf_BadNumber K = true := C.more 3 rfl
theorem xf_BadNumber (C : Ctx w K mg) : XfC K (He.ga K "BadNumber") := xfB_ok (e_xf_BadNumber C)
theorem e_xc_BadNumber (C : Ctx w K mg) : x_xc_BadNumber K = true := C.more 4 rfl
theorem xc_BadNumber (C : Ctx w K mg) : ExcC K (He.ga K "BadNumber") := excCB_ok (e_xc_BadNumber C)
theorem e_sup_BadWord (C : Ctx w K mg) : x_sup_BadWord K = true := C.more 5 rfl
theorem e_xf_BadWord (C : Ctx w K mg) : x_xf_BadWord K = true := C.more 6 rfl
theorem xf_BadWord (C : Ctx w K mg) : XfC K (He.ga K "BadWord") := xfB_ok (e_xf_BadWord C)
theorem e_xc_BadWord (C : Ctx w K mg) : x_xc_BadWord K = true := C.more 7 rfl
theorem xc_BadWord (C : Ctx w K mg) : ExcC K (He.ga K "BadWord") := excCB_ok (e_xc_BadWord C)
theorem e_sup_TooMany (C : Ctx w K mg) : x_sup_TooMany K = true := C.more 8 rfl
theorem e_xf_TooMany (C : Ctx w K mg) : x_xf_TooMany K = true := C.more 9 rfl
theorem xf_TooMany (C : Ctx w K mg) : XfC K (He.ga K "TooMany") := xfB_ok (e_xf_TooMany C)
theorem e_xc_TooMany (C : Ctx w K mg) : x_xc_TooMany K = true := C.more 10 rfl
theorem xc_TooMany (C : Ctx w K mg) : ExcC K (He.ga K "TooMany") := excCB_ok (e_xc_TooMany C)
theorem e_sup_BadText (C : Ctx w K mg) : x_sup_BadText K = true := C.more 11 rfl
theorem e_xf_BadText (C : Ctx w K mg) : x_xf_BadText K = true := C.more 12 rfl
theorem xf_BadText (C : Ctx w K mg) : XfC K (He.ga K "BadText") := xfB_ok (e_xf_BadText C)
theorem e_xc_BadText (C : Ctx w K mg) : x_xc_BadText K = true := C.more 13 rfl
theorem xc_BadText (C : Ctx w K mg) : ExcC K (He.ga K "BadText") := excCB_ok (e_xc_BadText C)
theorem e_is_int_Word (C : Ctx w K mg) : x_is_int_Word K = true := C.more 14 rfl
theorem is_int_Word (C : Ctx w K mg) : PySem.W.kitOne K (.type "int") (.ref (He.ga K "Word")) = some false := of_decide_eq_true (e_is_int_Word C)
theorem e_is_str_Word (C : Ctx w K mg) : x_is_str_Word K = true := C.more 15 rfl
theorem is_str_Word (C : Ctx w K mg) : PySem.W.kitOne K (.type "str") (.ref (He.ga K "Word")) = some false := of_decide_eq_true (e_is_str_Word C)
theorem e_is_bool_Word (C : Ctx w K mg) : x_is_bool_Word K = true := C.more 16 rfl
theorem is_bool_Word (C : Ctx w K mg) : PySem.W.kitOne K (.type "bool") (.ref (He.ga K "Word")) = some false := of_decide_eq_true (e_is_bool_Word C)
theorem e_is_NoneType_Word (C : Ctx w K mg) : x_is_NoneType_Word K = true := C.more 17 rfl
theorem is_NoneType_Word (C : Ctx w K mg) : PySem.W.kitOne K (.type "NoneType") (.ref (He.ga K "Word")) = some false := of_decide_eq_true (e_is_NoneType_Word C)
theorem e_is_list_Word (C : Ctx w K mg) : x_is_list_Word K = true := C.more 18 rfl
theorem is_list_Word (C : Ctx w K mg) : PySem.W.kitOne K (.type "list") (.ref (He.ga K "Word")) = some false := of_decide_eq_true (e_is_list_Word C)
theorem e_is_tuple_Word (C : Ctx w K mg) : x_is_tuple_Word K = true := C.more 19 rfl
theorem is_tuple_Word (C : Ctx w K mg) : PySem.W.kitOne K (.type "tuple") (.ref (He.ga K "Word")) = some false := of_decide_eq_true (e_is_tuple_Word C)
theorem e_is_dict_Word (C : Ctx w K mg) : x_is_dict_Word K = true := C.more 20 rfl
theorem is_dict_Word (C : Ctx w K mg) : PySem.W.kitOne K (.type "dict") (.ref (He.ga K "Word")) = some false := of_decide_eq_true (e_is_dict_Word C)
theorem e_is_BallError_Word (C : Ctx w K mg) : x_is_BallError_Word K = true := C.more 21 rfl
theorem is_BallError_Word (C : Ctx w K mg) : PySem.W.kitOne K (.ref (He.ga K "BallError")) (.ref (He.ga K "Word")) = some false := of_decide_eq_true (e_is_BallError_Word C)
theorem e_is_BadNumber_Word (C : Ctx w K mg) : x_is_BadNumber_Word K = true := C.more 22 rfl
theorem is_BadNumber_Word (C : Ctx w K mg) : PySem.W.kitOne K (.ref (He.ga K "BadNumber")) (.ref (He.ga K "Word")) = some false := of_decide_eq_true (e_is_BadNumber_Word C)
theorem e_is_BadWord_Word (C : Ctx w K mg) : x_is_BadWord_Word K = true := C.more 23 rfl
theorem is_BadWord_Word (C : Ctx w K mg) : PySem.W.kitOne K (.ref (He.ga K "BadWord")) (.ref (He.ga K "Word")) = some false := of_decide_eq_true (e_is_BadWord_Word C)
theorem e_is_TooMany_Word (C : Ctx w K mg) : x_is_TooMany_Word K = true := C.more 24 rfl
theorem is_TooMany_Word (C : Ctx w K mg) : PySem.W.kitOne K (.ref (He.ga K "TooMany")) (.ref (He.ga K "Word")) = some false := of_decide_eq_true (e_is_TooMany_Word C)
theorem e_is_BadText_Word (C : Ctx w K mg) : x_is_BadText_Word K = true := C.more 25 rfl
theorem is_BadText_Word (C : Ctx w K mg) : PySem.W.kitOne K (.ref (He.ga K "BadText")) (.ref (He.ga K "Word")) = some false := of_decide_eq_true (e_is_BadText_Word C)
theorem e_is_Word_Word (C : Ctx w K mg) : x_is_Word_Word K = true := C.more 26 rfl
theorem is_Word_Word (C : Ctx w K mg) : PySem.W.kitOne K (.ref (He.ga K "Word")) (.ref (He.ga K "Word")) = some true := of_decide_eq_true (e_is_Word_Word C)
theorem e_is_int_BadWord (C : Ctx w K mg) : x_is_int_BadWord K = true := C.more 27 rfl
theorem is_int_BadWord (C : Ctx w K mg) : PySem.W.kitOne K (.type "int") (.ref (He.ga K "BadWord")) = some false := of_decide_eq_true (e_is_int_BadWord C)
theorem e_is_str_BadWord (C : Ctx w K mg) : x_is_str_BadWord K = true := C.more 28 rfl
theorem is_str_BadWord (C : Ctx w K mg) : PySem.W.kitOne K (.type "str") (.ref (He.ga K "BadWord")) = some false := of_decide_eq_true (e_is_str_BadWord C)
theorem e_is_bool_BadWord (C : Ctx w K mg) : x_is_bool_BadWord K = true := C.more 29 rfl
theorem is_bool_BadWord (C : Ctx w K mg) : PySem.W.kitOne K (.type "bool") (.ref (He.ga K "BadWord")) = some false := of_decide_eq_true (e_is_bool_BadWord C)
theorem e_is_NoneType_BadWord (C : Ctx w K mg) : x_is_NoneType_BadWord K = true := C.more 30 rfl
theorem is_NoneType_BadWord (C : Ctx w K mg) : PySem.W.kitOne K (.type "NoneType") (.ref (He.ga K "BadWord")) = some false := of_decide_eq_true (e_is_NoneType_BadWord C)
theorem e_is_list_BadWord (C : Ctx w K mg) : x_is_list_BadWord K = true := C.more 31 rfl
theorem is_list_BadWord (C : Ctx w K mg) : PySem.W.kitOne K (.type "list") (.ref (He.ga K "BadWord")) = some false := of_decide_eq_true (e_is_list_BadWord C)
theorem e_is_tuple_BadWord (C : Ctx w K mg) : x_is_tuple_BadWord K = true := C.more 32 rfl
theorem is_tuple_BadWord (C : Ctx w K mg) : PySem.W.kitOne K (.type "tuple") (.ref (He.ga K "BadWord")) = some false := of_decide_eq_true (e_is_tuple_BadWord C)
theorem e_is_dict_BadWord (C : Ctx w K mg) : x_is_dict_BadWord K = true := C.more 33 rfl
theorem is_dict_BadWord (C : Ctx w K mg) : PySem.W.kitOne K (.type "dict") (.ref (He.ga K "BadWord")) = some false := of_decide_eq_true (e_is_dict_BadWord C)
theorem e_is_BallError_BadWord (C : Ctx w K mg) : x_is_BallError_BadWord K = true := C.more 34 rfl
theorem is_BallError_BadWord (C : Ctx w K mg) : PySem.W.kitOne K (.ref (He.ga K "BallError")) (.ref (He.ga K "BadWord")) = some false := of_decide_eq_true (e_is_BallError_BadWord C)
theorem e_is_BadNumber_BadWord (C : Ctx w K mg) : x_is_BadNumber_BadWord K = true := C.more 35 rfl
theorem is_BadNumber_BadWord (C : Ctx w K mg) : PySem.W.kitOne K (.ref (He.ga K "BadNumber")) (.ref (He.ga K "BadWord")) = some false := of_decide_eq_true (e_is_BadNumber_BadWord C)
theorem e_is_BadWord_BadWord (C : Ctx w K mg) : x_is_BadWord_BadWord K = true := C.more 36 rfl
theorem is_BadWord_BadWord (C : Ctx w K mg) : PySem.W.kitOne K (.ref (He.ga K "BadWord")) (.ref (He.ga K "BadWord")) = some true := of_decide_eq_true (e_is_BadWord_BadWord C)
theorem e_is_TooMany_BadWord (C : Ctx w K mg) : x_is_TooMany_BadWord K = true := C.more 37 rfl
theorem is_TooMany_BadWord (C : Ctx w K mg) : PySem.W.kitOne K (.ref (He.ga K "TooMany")) (.ref (He.ga K "BadWord")) = some false := of_decide_eq_true (e_is_TooMany_BadWord C)
theorem e_is_BadText_BadWord (C : Ctx w K mg) : x_is_BadText_BadWord K = true := C.more 38 rfl
theorem is_BadText_BadWord (C : Ctx w K mg) : PySem.W.kitOne K (.ref (He.ga K "BadText")) (.ref (He.ga K "BadWord")) = some false := of_decide_eq_true (e_is_BadText_BadWord C)
theorem e_is_Word_BadWord (C : Ctx w K mg) : x_is_Word_BadWord K = true := C.more 39 rfl
theorem is_Word_BadWord (C : Ctx w K mg) : PySem.W.kitOne K (.ref (He.ga K "Word")) (.ref (He.ga K "BadWord")) = some false := of_decide_eq_true (e_is_Word_BadWord C)
theorem e_is_int_BadText (C : Ctx w K mg) : x_is_int_BadText K = true := C.more 40 rfl
theorem is_int_BadText (C : Ctx w K mg) : PySem.W.kitOne K (.type "int") (.ref (He.ga K "BadText")) = some false := of_decide_eq_true (e_is_int_BadText C)
theorem e_is_str_BadText (C : Ctx w K mg) : x_is_str_BadText K = true := C.more 41 rfl
theorem is_str_BadText (C : Ctx w K mg) : PySem.W.kitOne K (.type "str") (.ref (He.ga K "BadText")) = some false := of_decide_eq_true (e_is_str_BadText C)
theorem e_is_bool_BadText (C : Ctx w K mg) : x_is_bool_BadText K = true := C.more 42 rfl
theorem is_bool_BadText (C : Ctx w K mg) : PySem.W.kitOne K (.type "bool") (.ref (He.ga K "BadText")) = some false := of_decide_eq_true (e_is_bool_BadText C)
theorem e_is_NoneType_BadText (C : Ctx w K mg) : x_is_NoneType_BadText K = true := C.more 43 rfl
theorem is_NoneType_BadText (C : Ctx w K mg) : PySem.W.kitOne K (.type "NoneType") (.ref (He.ga K "BadText")) = some false := of_decide_eq_true (e_is_NoneType_BadText C)
theorem e_is_list_BadText (C : Ctx w K mg) : x_is_list_BadText K = true := C.more 44 rfl
theorem is_list_BadText (C : Ctx w K mg) : PySem.W.kitOne K (.type "list") (.ref (He.ga K "BadText")) = some false := of_decide_eq_true (e_is_list_BadText C)
theorem e_is_tuple_BadText (C : Ctx w K mg) : x_is_tuple_BadText K = true := C.more 45 rfl
theorem is_tuple_BadText (C : Ctx w K mg) : PySem.W.kitOne K (.type "tuple") (.ref (He.ga K "BadText")) = some false := of_decide_eq_true (e_is_tuple_BadText C)
theorem e_is_dict_BadText (C : Ctx w K mg) : x_is_dict_BadText K = true := C.more 46 rfl
theorem is_dict_BadText (C : Ctx w K mg) : PySem.W.kitOne K (.type "dict") (.ref (He.ga K "BadText")) = some false := of_decide_eq_true (e_is_dict_BadText C)
theorem e_is_BallError_BadText (C : Ctx w K mg) : x_is_BallError_BadText K = true := C.more 47 rfl
theorem is_BallError_BadText (C : Ctx w K mg) : PySem.W.kitOne K (.ref (He.ga K "BallError")) (.ref (He.ga K "BadText")) = some false := of_decide_eq_true (e_is_BallError_BadText C)
theorem e_is_BadNumber_BadText (C : Ctx w K mg) : x_is_BadNumber_BadText K = true := C.more 48 rfl
theorem is_BadNumber_BadText (C : Ctx w K mg) : PySem.W.kitOne K (.ref (He.ga K "BadNumber")) (.ref (He.ga K "BadText")) = some false := of_decide_eq_true (e_is_BadNumber_BadText C)
theorem e_is_BadWord_BadText (C : Ctx w K mg) : x_is_BadWord_BadText K = true := C.more 49 rfl
theorem is_BadWord_BadText (C : Ctx w K mg) : PySem.W.kitOne K (.ref (He.ga K "BadWord")) (.ref (He.ga K "BadText")) = some false := of_decide_eq_true (e_is_BadWord_BadText C)
theorem e_is_TooMany_BadText (C : Ctx w K mg) : x_is_TooMany_BadText K = true := C.more 50 rfl
theorem is_TooMany_BadText (C : Ctx w K mg) : PySem.W.kitOne K (.ref (He.ga K "TooMany")) (.ref (He.ga K "BadText")) = some false := of_decide_eq_true (e_is_TooMany_BadText C)
theorem e_is_BadText_BadText (C : Ctx w K mg) : x_is_BadText_BadText K = true := C.more 51 rfl
theorem is_BadText_BadText (C : Ctx w K mg) : PySem.W.kitOne K (.ref (He.ga K "BadText")) (.ref (He.ga K "BadText")) = some true := of_decide_eq_true (e_is_BadText_BadText C)
theorem e_is_Word_BadText (C : Ctx w K mg) : x_is_Word_BadText K = true := C.more 52 rfl
theorem is_Word_BadText (C : Ctx w K mg) : PySem.W.kitOne K (.ref (He.ga K "Word")) (.ref (He.ga K "BadText")) = some false := of_decide_eq_true (e_is_Word_BadText C)
theorem e_ty_Word (C : Ctx w K mg) : x_ty_Word K = true := C.more 53 rfl
theorem ty_Word (C : Ctx w K mg) : TyC K (He.ga K "Word") := tyB_ok (e_ty_Word C)
theorem e_ne_Word (C : Ctx w K mg) : x_ne_Word K = true := C.more 54 rfl
theorem ne_Word (C : Ctx w K mg) : PySem.W.findIn K (.ref (He.ga K "Word")) "__ne__" = some (some (.builtin "object.__ne__")) := of_decide_eq_true (e_ne_Word C)
theorem e_sf_Word (C : Ctx w K mg) : x_sf_Word K = true := C.more 55 rfl
theorem sf_Word (C : Ctx w K mg) : PySem.W.selfFirst K (He.ga K "Word") = true := e_sf_Word C
theorem e_is_Word_int (C : Ctx w K mg) : x_is_Word_int K = true := C.more 56 rfl
theorem is_Word_int (C : Ctx w K mg) : PySem.W.kitOne K (.ref (He.ga K "Word")) (.type "int") = some false := of_decide_eq_true (e_is_Word_int C)
theorem e_is_Word_str (C : Ctx w K mg) : x_is_Word_str K = true := C.more 57 rfl
theorem is_Word_str (C : Ctx w K mg) : PySem.W.kitOne K (.ref (He.ga K "Word")) (.type "str") = some false := of_decide_eq_true (e_is_Word_str C)
theorem e_is_Word_bool (C : Ctx w K mg) : x_is_Word_bool K = true := C.more 58 rfl
theorem is_Word_bool (C : Ctx w K mg) : PySem.W.kitOne K (.ref (He.ga K "Word")) (.type "bool") = some false := of_decide_eq_true (e_is_Word_bool C)
theorem e_is_Word_list (C : Ctx w K mg) : x_is_Word_list K = true := C.more 59 rfl
theorem is_Word_list (C : Ctx w K mg) : PySem.W.kitOne K (.ref (He.ga K "Word")) (.type "list") = some false := of_decide_eq_true (e_is_Word_list C)
theorem e_is_Word_tuple (C : Ctx w K mg) : x_is_Word_tuple K = true := C.more 60 rfl
theorem is_Word_tuple (C : Ctx w K mg) : PySem.W.kitOne K (.ref (He.ga K "Word")) (.type "tuple") = some false := of_decide_eq_true (e_is_Word_tuple C)
theorem e_is_BallError_int (C : Ctx w K mg) : x_is_BallError_int K = true := C.more 61 rfl
theorem is_BallError_int (C : Ctx w K mg) : PySem.W.kitOne K (.ref (He.ga K "BallError")) (.type "int") = some false := of_decide_eq_true (e_is_BallError_int C)
theorem e_is_BallError_str (C : Ctx w K mg) : x_is_BallError_str K = true := C.more 62 rfl
theorem is_BallError_str (C : Ctx w K mg) : PySem.W.kitOne K (.ref (He.ga K "BallError")) (.type "str") = some false := of_decide_eq_true (e_is_BallError_str C)
theorem e_is_BallError_bool (C : Ctx w K mg) : x_is_BallError_bool K = true := C.more 63 rfl
theorem is_BallError_bool (C : Ctx w K mg) : PySem.W.kitOne K (.ref (He.ga K "BallError")) (.type "bool") = some false := of_decide_eq_true (e_is_BallError_bool C)
theorem e_is_BadNumber_int (C : Ctx w K mg) : x_is_BadNumber_int K = true := C.more 64 rfl
theorem is_BadNumber_int (C : Ctx w K mg) : PySem.W.kitOne K (.ref (He.ga K "BadNumber")) (.type "int") = some false := of_decide_eq_true (e_is_BadNumber_int C)
theorem e_is_BadNumber_str (C : Ctx w K mg) : x_is_BadNumber_str K = true := C.more 65 rfl
theorem is_BadNumber_str (C : Ctx w K mg) : PySem.W.kitOne K (.ref (He.ga K "BadNumber")) (.type "str") = some false := of_decide_eq_true (e_is_BadNumber_str C)
theorem e_is_BadNumber_bool (C : Ctx w K mg) : x_is_BadNumber_bool K = true := C.more 66 rfl
theorem is_BadNumber_bool (C : Ctx w K mg) : PySem.W.kitOne K (.ref (He.ga K "BadNumber")) (.type "bool") = some false := of_decide_eq_true (e_is_BadNumber_bool C)
theorem e_is_BadWord_int (C : Ctx w K mg) : x_is_BadWord_int K = true := C.more 67 rfl
theorem is_BadWord_int (C : Ctx w K mg) : PySem.W.kitOne K (.ref (He.ga K "BadWord")) (.type "int") = some false := of_decide_eq_true (e_is_BadWord_int C)
theorem e_is_BadWord_str (C : Ctx w K mg) : x_is_BadWord_str K = true := C.more 68 rfl
theorem is_BadWord_str (C : Ctx w K mg) : PySem.W.kitOne K (.ref (He.ga K "BadWord")) (.type "str") = some false := of_decide_eq_true (e_is_BadWord_str C)
theorem e_is_BadWord_bool (C : Ctx w K mg) : x_is_BadWord_bool K = true := C.more 69 rfl
theorem is_BadWord_bool (C : Ctx w K mg) : PySem.W.kitOne K (.ref (He.ga K "BadWord")) (.type "bool") = some false := of_decide_eq_true (e_is_BadWord_bool C)
theorem e_is_TooMany_int (C : Ctx w K mg) : x_is_TooMany_int K = true := C.more 70 rfl
theorem is_TooMany_int (C : Ctx w K mg) : PySem.W.kitOne K (.ref (He.ga K "TooMany")) (.type "int") = some false := of_decide_eq_true (e_is_TooMany_int C)
theorem e_is_TooMany_str (C : Ctx w K mg) : x_is_TooMany_str K = true := C.more 71 rfl
theorem is_TooMany_str (C : Ctx w K mg) : PySem.W.kitOne K (.ref (He.ga K "TooMany")) (.type "str") = some false := of_decide_eq_true (e_is_TooMany_str C)
theorem e_is_TooMany_bool (C : Ctx w K mg) : x_is_TooMany_bool K = true := C.more 72 rfl
theorem is_TooMany_bool (C : Ctx w K mg) : PySem.W.kitOne K (.ref (He.ga K "TooMany")) (.type "bool") = some false := of_decide_eq_true (e_is_TooMany_bool C)
theorem e_is_BadText_int (C : Ctx w K mg) : x_is_BadText_int K = true := C.more 73 rfl
theorem is_BadText_int (C : Ctx w K mg) : PySem.W.kitOne K (.ref (He.ga K "BadText")) (.type "int") = some false := of_decide_eq_true (e_is_BadText_int C)
theorem e_is_BadText_str (C : Ctx w K mg) : x_is_BadText_str K = true := C.more 74 rfl
theorem is_BadText_str (C : Ctx w K mg) : PySem.W.kitOne K (.ref (He.ga K "BadText")) (.type "str") = some false := of_decide_eq_true (e_is_BadText_str C)
theorem e_is_BadText_bool (C : Ctx w K mg) : x_is_BadText_bool K = true := C.more 75 rfl
theorem is_BadText_bool (C : Ctx w K mg) : PySem.W.kitOne K (.ref (He.ga K "BadText")) (.type "bool") = some false := of_decide_eq_true (e_is_BadText_bool C)
theorem e_tabs (C : Ctx w K mg) : x_tabs K = true := C.more 76 rfl
theorem a_is_integer (C : Ctx w K mg) : (d_is_integer).At K := C.at_ 0 rfl
theorem a_is_letter (C : Ctx w K mg) : (d_is_letter).At K := C.at_ 1 rfl
theorem a_need_letters (C : Ctx w K mg) : (d_need_letters).At K := C.at_ 2 rfl
theorem a_need_row (C : Ctx w K mg) : (d_need_row).At K := C.at_ 3 rfl
theorem a_undone (C : Ctx w K mg) : (d_undone).At K := C.at_ 4 rfl
theorem a_struck (C : Ctx w K mg) : (d_struck).At K := C.at_ 5 rfl
theorem a_product (C : Ctx w K mg) : (d_product).At K := C.at_ 6 rfl
theorem a_need_word (C : Ctx w K mg) : (d_need_word).At K := C.at_ 7 rfl
theorem a_is_row (C : Ctx w K mg) : (d_is_row).At K := C.at_ 8 rfl
theorem a_lone (C : Ctx w K mg) : (d_lone).At K := C.at_ 9 rfl
theorem a__law_pen (C : Ctx w K mg) : (d__law_pen).At K := C.at_ 10 rfl
theorem a__law_draw (C : Ctx w K mg) : (d__law_draw).At K := C.at_ 11 rfl
theorem a__law_pick (C : Ctx w K mg) : (d__law_pick).At K := C.at_ 12 rfl
theorem a__law_heard (C : Ctx w K mg) : (d__law_heard).At K := C.at_ 13 rfl
theorem a__law_undo (C : Ctx w K mg) : (d__law_undo).At K := C.at_ 14 rfl
theorem a__law_row (C : Ctx w K mg) : (d__law_row).At K := C.at_ 15 rfl
theorem a__law_due (C : Ctx w K mg) : (d__law_due).At K := C.at_ 16 rfl
theorem a__law_spoiled (C : Ctx w K mg) : (d__law_spoiled).At K := C.at_ 17 rfl
theorem a__law_text_right (C : Ctx w K mg) : (d__law_text_right).At K := C.at_ 18 rfl
theorem a__law_long_right (C : Ctx w K mg) : (d__law_long_right).At K := C.at_ 19 rfl
theorem a_law (C : Ctx w K mg) : (d_law).At K := C.at_ 20 rfl
theorem a_Word___init__ (C : Ctx w K mg) : (d_Word___init__).At K := C.at_ 21 rfl
theorem a_Word_of (C : Ctx w K mg) : (d_Word_of).At K := C.at_ 22 rfl
theorem a_Word_read (C : Ctx w K mg) : (d_Word_read).At K := C.at_ 23 rfl
theorem a_Word___mul__ (C : Ctx w K mg) : (d_Word___mul__).At K := C.at_ 24 rfl
theorem a_Word___invert__ (C : Ctx w K mg) : (d_Word___invert__).At K := C.at_ 25 rfl
theorem a_Word___len__ (C : Ctx w K mg) : (d_Word___len__).At K := C.at_ 26 rfl
theorem a_Word___iter__ (C : Ctx w K mg) : (d_Word___iter__).At K := C.at_ 27 rfl
theorem a_Word___getitem__ (C : Ctx w K mg) : (d_Word___getitem__).At K := C.at_ 28 rfl
theorem a_Word___lt__ (C : Ctx w K mg) : (d_Word___lt__).At K := C.at_ 29 rfl
theorem a_Word___le__ (C : Ctx w K mg) : (d_Word___le__).At K := C.at_ 30 rfl
theorem a_Word___gt__ (C : Ctx w K mg) : (d_Word___gt__).At K := C.at_ 31 rfl
theorem a_Word___ge__ (C : Ctx w K mg) : (d_Word___ge__).At K := C.at_ 32 rfl
theorem a_Word___eq__ (C : Ctx w K mg) : (d_Word___eq__).At K := C.at_ 33 rfl
theorem a_Word___str__ (C : Ctx w K mg) : (d_Word___str__).At K := C.at_ 34 rfl
theorem a_BadNumber (C : Ctx w K mg) : (d_BadNumber).At K := C.at_ 35 rfl
theorem a_BadWord (C : Ctx w K mg) : (d_BadWord).At K := C.at_ 36 rfl
theorem a_TooMany (C : Ctx w K mg) : (d_TooMany).At K := C.at_ 37 rfl
theorem a_BadText (C : Ctx w K mg) : (d_BadText).At K := C.at_ 38 rfl
theorem f_is_integer (C : Ctx w K mg) : ∃ fd, FunD K "is_integer" "is_integer" (defArgs s_is_integer) (defBody s_is_integer) (defScope s_is_integer) (d_is_integer.dfl.map (He.Dv.v K)) [] (He.ga K "is_integer") fd := (a_is_integer C).funD rfl
theorem f_is_letter (C : Ctx w K mg) : ∃ fd, FunD K "is_letter" "is_letter" (defArgs s_is_letter) (defBody s_is_letter) (defScope s_is_letter) (d_is_letter.dfl.map (He.Dv.v K)) [] (He.ga K "is_letter") fd := (a_is_letter C).funD rfl
theorem f_need_letters (C : Ctx w K mg) : ∃ fd, FunD K "need_letters" "need_letters" (defArgs s_need_letters) (defBody s_need_letters) (defScope s_need_letters) (d_need_letters.dfl.map (He.Dv.v K)) [] (He.ga K "need_letters") fd := (a_need_letters C).funD rfl
theorem f_need_row (C : Ctx w K mg) : ∃ fd, FunD K "need_row" "need_row" (defArgs s_need_row) (defBody s_need_row) (defScope s_need_row) (d_need_row.dfl.map (He.Dv.v K)) [] (He.ga K "need_row") fd := (a_need_row C).funD rfl
theorem f_undone (C : Ctx w K mg) : ∃ fd, FunD K "undone" "undone" (defArgs s_undone) (defBody s_undone) (defScope s_undone) (d_undone.dfl.map (He.Dv.v K)) [] (He.ga K "undone") fd := (a_undone C).funD rfl
theorem f_struck (C : Ctx w K mg) : ∃ fd, FunD K "struck" "struck" (defArgs s_struck) (defBody s_struck) (defScope s_struck) (d_struck.dfl.map (He.Dv.v K)) [] (He.ga K "struck") fd := (a_struck C).funD rfl
theorem f_product (C : Ctx w K mg) : ∃ fd, FunD K "product" "product" (defArgs s_product) (defBody s_product) (defScope s_product) (d_product.dfl.map (He.Dv.v K)) [] (He.ga K "product") fd := (a_product C).funD rfl
theorem f_need_word (C : Ctx w K mg) : ∃ fd, FunD K "need_word" "need_word" (defArgs s_need_word) (defBody s_need_word) (defScope s_need_word) (d_need_word.dfl.map (He.Dv.v K)) [] (He.ga K "need_word") fd := (a_need_word C).funD rfl
theorem f_is_row (C : Ctx w K mg) : ∃ fd, FunD K "is_row" "is_row" (defArgs s_is_row) (defBody s_is_row) (defScope s_is_row) (d_is_row.dfl.map (He.Dv.v K)) [] (He.ga K "is_row") fd := (a_is_row C).funD rfl
theorem f_lone (C : Ctx w K mg) : ∃ fd, FunD K "lone" "lone" (defArgs s_lone) (defBody s_lone) (defScope s_lone) (d_lone.dfl.map (He.Dv.v K)) [] (He.ga K "lone") fd := (a_lone C).funD rfl
theorem f__law_pen (C : Ctx w K mg) : ∃ fd, FunD K "_law_pen" "_law_pen" (defArgs s__law_pen) (defBody s__law_pen) (defScope s__law_pen) (d__law_pen.dfl.map (He.Dv.v K)) [] (He.ga K "_law_pen") fd := (a__law_pen C).funD rfl
theorem f__law_draw (C : Ctx w K mg) : ∃ fd, FunD K "_law_draw" "_law_draw" (defArgs s__law_draw) (defBody s__law_draw) (defScope s__law_draw) (d__law_draw.dfl.map (He.Dv.v K)) [] (He.ga K "_law_draw") fd := (a__law_draw C).funD rfl
theorem f__law_pick (C : Ctx w K mg) : ∃ fd, FunD K "_law_pick" "_law_pick" (defArgs s__law_pick) (defBody s__law_pick) (defScope s__law_pick) (d__law_pick.dfl.map (He.Dv.v K)) [] (He.ga K "_law_pick") fd := (a__law_pick C).funD rfl
theorem f__law_heard (C : Ctx w K mg) : ∃ fd, FunD K "_law_heard" "_law_heard" (defArgs s__law_heard) (defBody s__law_heard) (defScope s__law_heard) (d__law_heard.dfl.map (He.Dv.v K)) [] (He.ga K "_law_heard") fd := (a__law_heard C).funD rfl
theorem f__law_undo (C : Ctx w K mg) : ∃ fd, FunD K "_law_undo" "_law_undo" (defArgs s__law_undo) (defBody s__law_undo) (defScope s__law_undo) (d__law_undo.dfl.map (He.Dv.v K)) [] (He.ga K "_law_undo") fd := (a__law_undo C).funD rfl
theorem f__law_row (C : Ctx w K mg) : ∃ fd, FunD K "_law_row" "_law_row" (defArgs s__law_row) (defBody s__law_row) (defScope s__law_row) (d__law_row.dfl.map (He.Dv.v K)) [] (He.ga K "_law_row") fd := (a__law_row C).funD rfl
theorem f__law_due (C : Ctx w K mg) : ∃ fd, FunD K "_law_due" "_law_due" (defArgs s__law_due) (defBody s__law_due) (defScope s__law_due) (d__law_due.dfl.map (He.Dv.v K)) [] (He.ga K "_law_due") fd := (a__law_due C).funD rfl
theorem f__law_spoiled (C : Ctx w K mg) : ∃ fd, FunD K "_law_spoiled" "_law_spoiled" (defArgs s__law_spoiled) (defBody s__law_spoiled) (defScope s__law_spoiled) (d__law_spoiled.dfl.map (He.Dv.v K)) [] (He.ga K "_law_spoiled") fd := (a__law_spoiled C).funD rfl
theorem f__law_text_right (C : Ctx w K mg) : ∃ fd, FunD K "_law_text_right" "_law_text_right" (defArgs s__law_text_right) (defBody s__law_text_right) (defScope s__law_text_right) (d__law_text_right.dfl.map (He.Dv.v K)) [] (He.ga K "_law_text_right") fd := (a__law_text_right C).funD rfl
theorem f__law_long_right (C : Ctx w K mg) : ∃ fd, FunD K "_law_long_right" "_law_long_right" (defArgs s__law_long_right) (defBody s__law_long_right) (defScope s__law_long_right) (d__law_long_right.dfl.map (He.Dv.v K)) [] (He.ga K "_law_long_right") fd := (a__law_long_right C).funD rfl
theorem f_law (C : Ctx w K mg) : ∃ fd, FunD K "law" "law" (defArgs s_law) (defBody s_law) (defScope s_law) (d_law.dfl.map (He.Dv.v K)) [] (He.ga K "law") fd := (a_law C).funD rfl
theorem f_Word___init__ (C : Ctx w K mg) : ∃ fd, FunD K "__init__" "Word.__init__" (defArgs s_Word___init__) (defBody s_Word___init__) (defScope s_Word___init__) (d_Word___init__.dfl.map (He.Dv.v K)) [] (d_Word___init__.ad K) fd := (a_Word___init__ C).funD rfl
theorem f_Word_of (C : Ctx w K mg) : ∃ fd, FunD K "of" "Word.of" (defArgs s_Word_of) (defBody s_Word_of) (defScope s_Word_of) (d_Word_of.dfl.map (He.Dv.v K)) [] (d_Word_of.ad K) fd := (a_Word_of C).funD rfl
theorem f_Word_read (C : Ctx w K mg) : ∃ fd, FunD K "read" "Word.read" (defArgs s_Word_read) (defBody s_Word_read) (defScope s_Word_read) (d_Word_read.dfl.map (He.Dv.v K)) [] (d_Word_read.ad K) fd := (a_Word_read C).funD rfl
theorem f_Word___mul__ (C : Ctx w K mg) : ∃ fd, FunD K "__mul__" "Word.__mul__" (defArgs s_Word___mul__) (defBody s_Word___mul__) (defScope s_Word___mul__) (d_Word___mul__.dfl.map (He.Dv.v K)) [] (d_Word___mul__.ad K) fd := (a_Word___mul__ C).funD rfl
theorem f_Word___invert__ (C : Ctx w K mg) : ∃ fd, FunD K "__invert__" "Word.__invert__" (defArgs s_Word___invert__) (defBody s_Word___invert__) (defScope s_Word___invert__) (d_Word___invert__.dfl.map (He.Dv.v K)) [] (d_Word___invert__.ad K) fd := (a_Word___invert__ C).funD rfl
theorem f_Word___len__ (C : Ctx w K mg) : ∃ fd, FunD K "__len__" "Word.__len__" (defArgs s_Word___len__) (defBody s_Word___len__) (defScope s_Word___len__) (d_Word___len__.dfl.map (He.Dv.v K)) [] (d_Word___len__.ad K) fd := (a_Word___len__ C).funD rfl
theorem f_Word___iter__ (C : Ctx w K mg) : ∃ fd, FunD K "__iter__" "Word.__iter__" (defArgs s_Word___iter__) (defBody s_Word___iter__) (defScope s_Word___iter__) (d_Word___iter__.dfl.map (He.Dv.v K)) [] (d_Word___iter__.ad K) fd := (a_Word___iter__ C).funD rfl
theorem f_Word___getitem__ (C : Ctx w K mg) : ∃ fd, FunD K "__getitem__" "Word.__getitem__" (defArgs s_Word___getitem__) (defBody s_Word___getitem__) (defScope s_Word___getitem__) (d_Word___getitem__.dfl.map (He.Dv.v K)) [] (d_Word___getitem__.ad K) fd := (a_Word___getitem__ C).funD rfl
theorem f_Word___lt__ (C : Ctx w K mg) : ∃ fd, FunD K "__lt__" "Word.__lt__" (defArgs s_Word___lt__) (defBody s_Word___lt__) (defScope s_Word___lt__) (d_Word___lt__.dfl.map (He.Dv.v K)) [] (d_Word___lt__.ad K) fd := (a_Word___lt__ C).funD rfl
theorem f_Word___le__ (C : Ctx w K mg) : ∃ fd, FunD K "__le__" "Word.__le__" (defArgs s_Word___le__) (defBody s_Word___le__) (defScope s_Word___le__) (d_Word___le__.dfl.map (He.Dv.v K)) [] (d_Word___le__.ad K) fd := (a_Word___le__ C).funD rfl
theorem f_Word___gt__ (C : Ctx w K mg) : ∃ fd, FunD K "__gt__" "Word.__gt__" (defArgs s_Word___gt__) (defBody s_Word___gt__) (defScope s_Word___gt__) (d_Word___gt__.dfl.map (He.Dv.v K)) [] (d_Word___gt__.ad K) fd := (a_Word___gt__ C).funD rfl
theorem f_Word___ge__ (C : Ctx w K mg) : ∃ fd, FunD K "__ge__" "Word.__ge__" (defArgs s_Word___ge__) (defBody s_Word___ge__) (defScope s_Word___ge__) (d_Word___ge__.dfl.map (He.Dv.v K)) [] (d_Word___ge__.ad K) fd := (a_Word___ge__ C).funD rfl
theorem f_Word___eq__ (C : Ctx w K mg) : ∃ fd, FunD K "__eq__" "Word.__eq__" (defArgs s_Word___eq__) (defBody s_Word___eq__) (defScope s_Word___eq__) (d_Word___eq__.dfl.map (He.Dv.v K)) [] (d_Word___eq__.ad K) fd := (a_Word___eq__ C).funD rfl
theorem f_Word___str__ (C : Ctx w K mg) : ∃ fd, FunD K "__str__" "Word.__str__" (defArgs s_Word___str__) (defBody s_Word___str__) (defScope s_Word___str__) (d_Word___str__.dfl.map (He.Dv.v K)) [] (d_Word___str__.ad K) fd := (a_Word___str__ C).funD rfl
theorem sh_BadNumber : Shape s_BadNumber ["part"] := shape1 rfl rfl ⟨_, rfl, rfl⟩ (by decide +kernel)
theorem t_BadNumber (C : Ctx w K mg) : SupTxt prg K (He.ga K "BadNumber") (He.ma K (He.ga K "BadNumber") "__init__") s_BadNumber ["part"] := supB_ok (d := d_BadNumber) (e_sup_BadNumber C) (a_BadNumber C) rfl rfl rfl rfl rfl rfl sh_BadNumber (by decide +kernel)
theorem o_BadNumber (C : Ctx w K mg) : SupOk prg w K (He.ga K "BadNumber") (He.ma K (He.ga K "BadNumber") "__init__") s_BadNumber ["part"] := supOk1 (t_BadNumber C) (by decide +kernel) (fun _ _ _ _ _ _ _ _ _ _ => rfl)
theorem sh_BadWord : Shape s_BadWord ["at"] := shape1 rfl rfl ⟨_, rfl, rfl⟩ (by decide +kernel)
theorem t_BadWord (C : Ctx w K mg) : SupTxt prg K (He.ga K "BadWord") (He.ma K (He.ga K "BadWord") "__init__") s_BadWord ["at"] := supB_ok (d := d_BadWord) (e_sup_BadWord C) (a_BadWord C) rfl rfl rfl rfl rfl rfl sh_BadWord (by decide +kernel)
theorem o_BadWord (C : Ctx w K mg) : SupOk prg w K (He.ga K "BadWord") (He.ma K (He.ga K "BadWord") "__init__") s_BadWord ["at"] := supOk1 (t_BadWord C) (by decide +kernel) (fun _ _ _ _ _ _ _ _ _ _ => rfl)
theorem sh_TooMany : Shape s_TooMany ["what", "most"] := shape2 rfl rfl ⟨_, rfl, rfl⟩ (by decide +kernel)
theorem t_TooMany (C : Ctx w K mg) : SupTxt prg K (He.ga K "TooMany") (He.ma K (He.ga K "TooMany") "__init__") s_TooMany ["what", "most"] := supB_ok (d := d_TooMany) (e_sup_TooMany C) (a_TooMany C) rfl rfl rfl rfl rfl rfl sh_TooMany (by decide +kernel)
theorem o_TooMany (C : Ctx w K mg) : SupOk prg w K (He.ga K "TooMany") (He.ma K (He.ga K "TooMany") "__init__") s_TooMany ["what", "most"] := supOk2 (t_TooMany C) (by decide +kernel) (by decide +kernel) (by decide +kernel) (fun _ _ _ _ _ _ _ _ _ _ _ => rfl)
theorem sh_BadText : Shape s_BadText ["item"] := shape1 rfl rfl ⟨_, rfl, rfl⟩ (by decide +kernel)
theorem t_BadText (C : Ctx w K mg) : SupTxt prg K (He.ga K "BadText") (He.ma K (He.ga K "BadText") "__init__") s_BadText ["item"] := supB_ok (d := d_BadText) (e_sup_BadText C) (a_BadText C) rfl rfl rfl rfl rfl rfl sh_BadText (by decide +kernel)
theorem o_BadText (C : Ctx w K mg) : SupOk prg w K (He.ga K "BadText") (He.ma K (He.ga K "BadText") "__init__") s_BadText ["item"] := supOk1 (t_BadText C) (by decide +kernel) (fun _ _ _ _ _ _ _ _ _ _ => rfl)
end
end K06

end
section
set_option maxHeartbeats 1000000
namespace K06
open PySem PySem.Spec PyProof.Rows L2 SBX SB
section
variable {w : World} {K : PySem.W.Frag} {mg : Str → Option Value} {base : Heap}
def N__law_draw : List Str := ["pen", "many", "digit", "spot", "cell", "great", "mixed"]
theorem sc__law_draw : FnScope N__law_draw ["pen", "many"] (defScope s__law_draw) := ⟨rfl, rfl, rfl, by decide +kernel, rfl, by decide +kernel, by decide +kernel⟩
def spDraw : Sp := fun vs H Q _ => ∃ F p c many n, vs = [.ref p, .int many] ∧ 0 < many ∧ many < 1073741824 ∧ n ≤ 1000000 ∧ Pen F H p c n ∧ ∀ r H', 0 ≤ r → r < many → Pen F H' p c (n + 1) → Q (.int r) H'
theorem k__law_draw (C : Ctx w K mg) : CallOk prg w K mg base 1 "_law_draw" ["pen", "many"] spDraw := by
  refine callOk (g__law_draw C) (f__law_draw C) sc__law_draw (fun _ _ _ _ _ _ us hl => match us, hl with | [_, _], _ => rfl) (fun vs H Q E h => ?_) (fun cdv A outer s H vs Q E hr h => ?_)
  · obtain ⟨F, p, c, many, n, rfl, _⟩ := h
    rfl
  · obtain ⟨F, p, c, many, n, rfl, m0, m1, hn, hP, k⟩ := h
    obtain ⟨⟨xs, spot, rest, hp, hc, hlen, h0, h1, h2⟩, hs, off⟩ := hP
    refine ⟨_, (pss_cons (ps_if (pt_cmpR op_gt (pe_ix ix_list (pv 0) pe_int (fun _ _ => rfl)) pe_int (nomark _))
  (pss_cons (ps_set (i := 2) sc__law_draw.nd rfl (Or.inl rfl) (pe_op op_mod (pe_callTy call_int1 (by rfl) (b_int C) (by decide +kernel) (pa_cons (pe_ix ix_list (pv 0) pe_int (fun _ _ => rfl)) pa_nil)) (pv 1)))
  (pss_cons (ps_asg (pe_op op_fdiv (pe_callTy call_int1 (by rfl) (b_int C) (by decide +kernel) (pa_cons (pe_ix ix_list (pv 0) pe_int (fun _ _ => rfl)) pa_nil)) (pv 1)) (pg_sub (pv 0) pe_int set_listV))
  (pss_one (ps_ret (pv 2)))))
  pss_nil)
  (pss_cons (ps_set (i := 3) sc__law_draw.nd rfl (Or.inl rfl) (pe_ix ix_list (pv 0) pe_int (fun _ _ => rfl)))
  (pss_cons (ps_asg (pe_op op_add (pv 3) pe_int) (pg_sub (pv 0) pe_int set_listV))
  (pss_cons (ps_set (i := 4) sc__law_draw.nd rfl (Or.inl rfl) (pe_op op_add (pe_op op_mul pe_int (pv 3)) pe_int))
  (pss_cons (ps_if (pt_cmpR (op_neD (hr.units)) (pe_ix ix_list (pv 0) pe_int (fun _ _ => rfl)) (pe_lstV pa_nil) (nomark _))
  (pss_one (ps_set (i := 4) sc__law_draw.nd rfl (Or.inl rfl) (pe_ix ix_list (pe_ix ix_list (pv 0) pe_int (fun _ _ => rfl)) (pe_op op_mod (pe_callTy call_int1 (by rfl) (b_int C) (by decide +kernel) (pa_cons (pv 3) pa_nil)) (pe_callB call_len (by rfl) (b_len C) PySem.boot_len (pa_cons (pe_ix ix_list (pv 0) pe_int (fun _ _ => rfl)) pa_nil))) (fun _ _ => rfl))))
  pss_nil)
  (pss_cons (ps_if (PW.pt (pw_and (pt_cmpR op_lt (pv 3) (pe_callB call_len (by rfl) (b_len C) PySem.boot_len (pa_cons (pe_ix ix_list (pv 0) pe_int (fun _ _ => rfl)) pa_nil)) (nomark _)) (pw_and1 (pt_cmpR op_ge (pe_callB call_abs (by rfl) (b_abs C) (by decide +kernel) (pa_cons (pv 4) pa_nil)) (pe_op op_pow pe_int pe_int) (nomark _)))))
  (pss_cons (ps_set (i := 5) sc__law_draw.nd rfl (Or.inl rfl) (pe_op op_add (pe_op op_mul pe_int (pe_op op_sub (pe_callB call_abs (by rfl) (b_abs C) (by decide +kernel) (pa_cons (pv 4) pa_nil)) (pe_op op_pow pe_int pe_int))) (pe_callTy call_int1 (by rfl) (b_int C) (by decide +kernel) (pa_cons (pe_cmpR op_lt (pv 4) pe_int (nomark _)) pa_nil))))
  (pss_cons (ps_asg (pe_op op_fdiv (pe_callTy call_int1 (by rfl) (b_int C) (by decide +kernel) (pa_cons (pv 5) pa_nil)) (pv 1)) (pg_sub (pv 0) pe_int set_listV))
  (pss_one (ps_ret (pe_op op_mod (pe_callTy call_int1 (by rfl) (b_int C) (by decide +kernel) (pa_cons (pv 5) pa_nil)) (pv 1))))))
  pss_nil)
  (pss_cons (ps_set (i := 6) sc__law_draw.nd rfl (Or.inl rfl) (pe_op op_mod (pe_callTy call_int1 (by rfl) (b_int C) (by decide +kernel) (pa_cons (pe_op op_pow (pe_op op_add (pe_op op_add (pe_op op_mod (pe_callTy call_int1 (by rfl) (b_int C) (by decide +kernel) (pa_cons (pv 4) pa_nil)) pe_int) (pe_op op_mul pe_int (pv 3))) pe_int) pe_int) pa_nil)) pe_int))
  (pss_cons (ps_set (i := 6) sc__law_draw.nd rfl (Or.inl rfl) (pe_op op_mod (pe_callTy call_int1 (by rfl) (b_int C) (by decide +kernel) (pa_cons (pe_op op_pow (pe_op op_add (pe_op op_add (pe_op op_mul (pv 6) (pe_op op_add (pe_op op_mul pe_int (pv 3)) pe_int)) (pe_op op_mul (pe_op op_mul pe_int (pv 3)) (pv 3))) pe_int) pe_int) pa_nil)) pe_int))
  (pss_one (ps_ret (pe_op op_mod (pe_callTy call_int1 (by rfl) (b_int C) (by decide +kernel) (pa_cons (pe_op op_fdiv (pv 6) pe_int) pa_nil)) (pv 1)))))))))))), ?_⟩
    refine ⟨_, rfl, p, _, _, _, rfl, rfl, SqL.of hp, rfl, _, _, rfl, rfl, _, rfl, ?_⟩
    refine iteD (fun hr0 => ?_) (fun hr0 => ?_)
    · -- a digit of what is left
      refine ⟨_, rfl, p, _, _, _, rfl, rfl, SqL.of hp, rfl, .inl ⟨_, rfl, _, rfl, _, _, rfl, rfl, m0, ?_⟩⟩
      refine ⟨_, rfl, p, _, _, _, rfl, rfl, SqL.of hp, rfl, .inl ⟨_, rfl, _, rfl, _, _, rfl, rfl, ⟨m0, m1⟩, _, rfl, p, _, _, _, [.ref c, .int spot, .int (rest / many)], rfl, rfl, hp, rfl, rfl, fun H1 w1 => ⟨_, rfl, ?_⟩⟩⟩
      exact k _ _ (Int.emod_nonneg _ (by omega)) (Int.emod_lt_of_pos _ m0) ⟨⟨xs, _, _, w1.at_, hc, hlen, h0, by omega, Int.ediv_nonneg h2 (by omega)⟩, w1.same hs off, off⟩
    · -- the next cell
      refine ⟨_, rfl, p, _, _, _, rfl, rfl, SqL.of hp, rfl, ?_⟩
      refine ⟨_, rfl, _, _, rfl, rfl, _, rfl, p, _, _, _, [.ref c, .int (spot + 1), .int rest], rfl, rfl, hp, rfl, rfl, fun H1 w1 => ?_⟩
      refine ⟨_, rfl, _, _, rfl, rfl, cmulL (by decide) (by decide), _, _, rfl, rfl, ?_⟩
      refine ⟨_, rfl, p, _, _, _, rfl, rfl, SqL.of w1.at_, rfl, Nat.zero_le _, fun l H2 n2 => ?_⟩
      have hs2 : Same F H2 := (w1.same hs off).trans n2.same
      have e2 : H2 p = some (.lst [.ref c, .int (spot + 1), .int rest]) := n2.same _ _ w1.at_
      refine rd_neNil (SqL.of (hs2 _ _ hc)) (SqL.of n2.at_) ⟨_, rfl, ?_⟩
      have m2 : (-18446744073709551616 : Int) < 2 * spot + 211 ∧ 2 * spot + 211 < 18446744073709551616 := ⟨by omega, by omega⟩
      refine iteN (fun hne => ?a) (fun hnil => ?b)
      case' a =>
        have hpos : (0 : Int) < xs.length := by
          have := List.length_pos_iff.mpr hne
          omega
        obtain ⟨z, hz⟩ := atI_ints (i := spot % (xs.length : Int)) hne (Int.emod_nonneg _ (by omega)) (Int.emod_lt_of_pos _ hpos)
        refine ⟨_, rfl, p, _, _, _, rfl, rfl, SqL.of e2, rfl, _, rfl, .inl ⟨_, rfl, _, rfl, p, _, _, _, rfl, rfl, SqL.of e2, rfl, _, xs.length, rfl, .inl ⟨_, SqL.of (hs2 _ _ hc), by simp⟩, _, _, rfl, rfl, hpos, c, _, _, _, rfl, rfl, SqL.of (hs2 _ _ hc), hz, ?_⟩⟩
      case' b =>
        obtain ⟨z, hz⟩ : ∃ z : Int, z = 77317 * spot + 2347 := ⟨_, rfl⟩
        simp only [← hz]
      all_goals
        refine ⟨_, rfl, _, rfl, p, _, _, _, rfl, rfl, SqL.of e2, rfl, _, xs.length, rfl, .inl ⟨_, SqL.of (hs2 _ _ hc), by simp⟩, _, _, rfl, rfl, _, rfl, ?_⟩
        by_cases hlt : spot < (xs.length : Int)
        · refine iteDT hlt ?_
          refine ⟨_, rfl, _, rfl, _, _, rfl, rfl, cpow (by decide) (by decide) (by decide) (by decide), _, _, rfl, rfl, _, rfl, ?_⟩
          refine iteD (fun hbig => ?_) (fun hsmall => ?_)
          · refine ⟨_, rfl, _, rfl, _, _, rfl, rfl, cpow (by decide) (by decide) (by decide) (by decide), _, _, rfl, rfl, _, _, rfl, rfl, cmulL (by decide) (by decide), _, rfl, _, _, rfl, rfl, .inr ⟨_, rfl, _, _, rfl, rfl, ?_⟩⟩
            refine ⟨_, rfl, .inl ⟨_, rfl, _, rfl, _, _, rfl, rfl, ⟨m0, m1⟩, _, rfl, p, _, _, _, [.ref c, .int (spot + 1), .int ((2 * ((if z < 0 then -z else z) - 10 ^ 18) + (if decide (z < 0) = true then 1 else 0)) / many)], rfl, rfl, e2, rfl, rfl, fun H3 w3 => ?_⟩⟩
            refine ⟨_, rfl, .inl ⟨_, rfl, _, rfl, _, _, rfl, rfl, m0, ?_⟩⟩
            have hg : 0 ≤ (2 * ((if z < 0 then -z else z) - 10 ^ 18) + (if decide (z < 0) = true then (1 : Int) else 0)) := by
              have hb : (10 : Int) ^ 18 ≤ (if z < 0 then -z else z) := hbig
              have hc : (0 : Int) ≤ (if decide (z < 0) = true then (1 : Int) else 0) := by split <;> decide
              omega
            exact k _ _ (Int.emod_nonneg _ (by omega)) (Int.emod_lt_of_pos _ m0) ⟨⟨xs, _, _, w3.at_, hc, hlen, by omega, by omega, Int.ediv_nonneg hg (by omega)⟩, w3.same hs2 off, off⟩
          · have hm1 := Int.emod_nonneg z (show (2147483579 : Int) ≠ 0 by decide)
            have hm2 := Int.emod_lt_of_pos z (show (0 : Int) < 2147483579 by decide)
            refine ⟨_, rfl, .inl ⟨_, rfl, _, _, rfl, rfl, (show (0 : Int) < 2147483579 by decide), _, rfl, _, _, rfl, rfl, cmulL (by decide) (by decide), _, _, rfl, rfl, _, _, rfl, rfl, _, _, rfl, rfl, cpow (by omega) (by omega) (by decide) (by decide), .inl ⟨_, rfl, _, _, rfl, rfl, (show (0 : Int) < 2147483549 by decide), ?_⟩⟩⟩
            have ha1 := Int.emod_nonneg ((z % 2147483579 + 46507 * spot + 1193) ^ (5 : Int).toNat) (show (2147483549 : Int) ≠ 0 by decide)
            have ha2 := Int.emod_lt_of_pos ((z % 2147483579 + 46507 * spot + 1193) ^ (5 : Int).toNat) (show (0 : Int) < 2147483549 by decide)
            obtain ⟨m, hm⟩ : ∃ m : Int, m = ((z % 2147483579 + 46507 * spot + 1193) ^ (5 : Int).toNat) % 2147483549 := ⟨_, rfl⟩
            rw [← hm] at ha1 ha2
            have hs6 : spot ≤ 1000000 := by omega
            have hb1 : 0 ≤ m * (2 * spot + 211) := Int.mul_nonneg ha1 (by omega)
            have hb2 : m * (2 * spot + 211) ≤ 2147483549 * 2000211 := Int.mul_le_mul (by omega) (by omega) (by omega) (by decide)
            have hb3 : 0 ≤ 631 * spot * spot := Int.mul_nonneg (by omega) h0
            have hb4 : 631 * spot * spot ≤ 631000000 * 1000000 := Int.mul_le_mul (by omega) hs6 h0 (by decide)
            rw [hm] at hb1 hb2
            refine ⟨_, rfl, _, rfl, _, _, rfl, rfl, cmulL (by decide) (by decide), _, _, rfl, rfl, _, _, rfl, rfl, cmulL (by omega) (by omega), _, rfl, _, _, rfl, rfl, cmulL (by decide) (by decide), _, rfl, _, _, rfl, rfl, cmulL (by omega) (by omega), _, _, rfl, rfl, _, _, rfl, rfl, _, _, rfl, rfl, cpow (by omega) (by omega) (by decide) (by decide), .inl ⟨_, rfl, _, _, rfl, rfl, (show (0 : Int) < 2147483629 by decide), ?_⟩⟩
            refine ⟨_, rfl, _, _, rfl, rfl, ⟨by decide, by decide⟩, .inl ⟨_, rfl, _, rfl, _, _, rfl, rfl, m0, ?_⟩⟩
            exact k _ _ (Int.emod_nonneg _ (by omega)) (Int.emod_lt_of_pos _ m0) ⟨⟨xs, _, _, e2, hc, hlen, by omega, by omega, h2⟩, hs2, off⟩
        · refine iteDF hlt (iteF ?_)
          have hm1 := Int.emod_nonneg z (show (2147483579 : Int) ≠ 0 by decide)
          have hm2 := Int.emod_lt_of_pos z (show (0 : Int) < 2147483579 by decide)
          refine ⟨_, rfl, .inl ⟨_, rfl, _, _, rfl, rfl, (show (0 : Int) < 2147483579 by decide), _, rfl, _, _, rfl, rfl, cmulL (by decide) (by decide), _, _, rfl, rfl, _, _, rfl, rfl, _, _, rfl, rfl, cpow (by omega) (by omega) (by decide) (by decide), .inl ⟨_, rfl, _, _, rfl, rfl, (show (0 : Int) < 2147483549 by decide), ?_⟩⟩⟩
          have ha1 := Int.emod_nonneg ((z % 2147483579 + 46507 * spot + 1193) ^ (5 : Int).toNat) (show (2147483549 : Int) ≠ 0 by decide)
          have ha2 := Int.emod_lt_of_pos ((z % 2147483579 + 46507 * spot + 1193) ^ (5 : Int).toNat) (show (0 : Int) < 2147483549 by decide)
          obtain ⟨m, hm⟩ : ∃ m : Int, m = ((z % 2147483579 + 46507 * spot + 1193) ^ (5 : Int).toNat) % 2147483549 := ⟨_, rfl⟩
          rw [← hm] at ha1 ha2
          have hs6 : spot ≤ 1000000 := by omega
          have hb1 : 0 ≤ m * (2 * spot + 211) := Int.mul_nonneg ha1 (by omega)
          have hb2 : m * (2 * spot + 211) ≤ 2147483549 * 2000211 := Int.mul_le_mul (by omega) (by omega) (by omega) (by decide)
          have hb3 : 0 ≤ 631 * spot * spot := Int.mul_nonneg (by omega) h0
          have hb4 : 631 * spot * spot ≤ 631000000 * 1000000 := Int.mul_le_mul (by omega) hs6 h0 (by decide)
          rw [hm] at hb1 hb2
          refine ⟨_, rfl, _, rfl, _, _, rfl, rfl, cmulL (by decide) (by decide), _, _, rfl, rfl, _, _, rfl, rfl, cmulL (by omega) (by omega), _, rfl, _, _, rfl, rfl, cmulL (by decide) (by decide), _, rfl, _, _, rfl, rfl, cmulL (by omega) (by omega), _, _, rfl, rfl, _, _, rfl, rfl, _, _, rfl, rfl, cpow (by omega) (by omega) (by decide) (by decide), .inl ⟨_, rfl, _, _, rfl, rfl, (show (0 : Int) < 2147483629 by decide), ?_⟩⟩
          refine ⟨_, rfl, _, _, rfl, rfl, ⟨by decide, by decide⟩, .inl ⟨_, rfl, _, rfl, _, _, rfl, rfl, m0, ?_⟩⟩
          exact k _ _ (Int.emod_nonneg _ (by omega)) (Int.emod_lt_of_pos _ m0) ⟨⟨xs, _, _, e2, hc, hlen, by omega, by omega, h2⟩, hs2, off⟩
def N__law_pick : List Str := ["pen", "some"]
theorem sc__law_pick : FnScope N__law_pick ["pen", "some"] (defScope s__law_pick) := ⟨rfl, rfl, rfl, by decide +kernel, rfl, by decide +kernel, by decide +kernel⟩
def spPick : Sp := fun vs H Q _ => ∃ F p c n x, vs = [.ref p, x] ∧ n ≤ 1000000 ∧ Pen F H p c n ∧ ((∃ l xs, x = .ref l ∧ F l = some (.lst xs) ∧ xs ≠ [] ∧ xs.length ≤ 1000000 ∧ ∀ v H', v ∈ xs → Pen F H' p c (n + 1) → Q v H') ∨
  (∃ l, x = T l ∧ l ≠ [] ∧ l.length ≤ 1000000 ∧ ∀ s H', s ∈ l → Pen F H' p c (n + 1) → Q (T [s]) H'))
theorem k__law_pick (C : Ctx w K mg) : CallOk prg w K mg base 2 "_law_pick" ["pen", "some"] spPick := by
  have k__law_draw := k__law_draw (w := w) (base := base) C
  refine callOk (g__law_pick C) (f__law_pick C) sc__law_pick (fun _ _ _ _ _ _ us hl => match us, hl with | [_, _], _ => rfl) (fun vs H Q E h => ?_) (fun cdv A outer s H vs Q E hr h => ?_)
  · obtain ⟨F, p, c, n, x, rfl, _⟩ := h
    rfl
  · obtain ⟨F, p, c, n, x, rfl, hn, hP, hx⟩ := h
    refine ⟨_, (pss_one (ps_ret (pe_ix ix_seq (pv 1) (pe_callD k__law_draw (hr.mono (by decide)) passL (pa_cons (pv 0) (pa_cons (pe_callB call_len (by rfl) (b_len C) PySem.boot_len (pa_cons (pv 1) pa_nil)) pa_nil))) (fun _ _ => rfl)))), ?_⟩
    rcases hx with ⟨l, xs, rfl, hl, hne, hlen, k⟩ | ⟨l, rfl, hne, hlen, k⟩
    · have hpos := List.length_pos_iff.mpr hne
      refine ⟨_, rfl, _, rfl, _, rfl, _, xs.length, rfl, .inl ⟨xs, SqL.of (hP.same _ _ hl), rfl⟩, F, p, c, _, n, rfl, by omega, by omega, hn, hP, fun r H' r0 r1 hP' => ?_⟩
      obtain ⟨j, rfl⟩ := Int.eq_ofNat_of_zero_le r0
      have hj : j < xs.length := by omega
      exact .inl ⟨l, xs, _, xs[j], rfl, rfl, SqL.of (hP'.same _ _ hl), atI_nat (by simp [hj]), k _ _ (List.getElem_mem hj) hP'⟩
    · have hpos := List.length_pos_iff.mpr hne
      have hz : (tx l).length ≤ sizeLine := by
        rw [sizeLine_eq]
        show l.toArray.size ≤ _
        rw [List.size_toArray]
        omega
      refine ⟨_, rfl, _, rfl, _, rfl, _, l.length, rfl, ⟨hz, by simp [Str.length]⟩, F, p, c, _, n, rfl, by omega, by omega, hn, hP, fun r H' r0 r1 hP' => ?_⟩
      obtain ⟨j, rfl⟩ := Int.eq_ofNat_of_zero_le r0
      have hj : j < l.length := by omega
      exact .inr (.inr ⟨tx l, _, l[j], rfl, rfl, hz, atI_nat (by simp [hj]), k _ _ (List.getElem_mem hj) hP'⟩)
def N__law_pen : List Str := ["script"]
theorem sc__law_pen : FnScope N__law_pen ["script"] (defScope s__law_pen) := ⟨rfl, rfl, rfl, by decide +kernel, rfl, by decide +kernel, by decide +kernel⟩
def spPen (K : PySem.W.Frag) : Sp := fun vs H Q _ => ∃ a ns, vs = [.ref a] ∧ SqL K H a (List.map V.int ns) ∧ ns.length ≤ 63 ∧ ∀ p c F H', Same H F → Pen F H' p c 0 → Q (.ref p) H'
theorem k__law_pen (C : Ctx w K mg) : CallOk prg w K mg base 1 "_law_pen" ["script"] (spPen K) := by
  refine callOk (g__law_pen C) (f__law_pen C) sc__law_pen (fun _ _ _ _ _ _ us hl => match us, hl with | [_], _ => rfl) (fun vs H Q E h => ?_) (fun cdv A outer s H vs Q E hr h => ?_)
  · obtain ⟨a, ns, rfl, _⟩ := h
    rfl
  · obtain ⟨a, ns, rfl, ha, hlen, k⟩ := h
    refine ⟨_, (pss_one (ps_ret (pe_lstV (pa_cons (pe_callTy call_list_ofV (by rfl) (b_list C) (by decide +kernel) (pa_cons (pe_slice sl_listV (pv 0) po_none (po_some pe_int)) pa_nil)) (pa_cons pe_int (pa_cons pe_int pa_nil)))))), ?_⟩
    have hcut : cutV (List.map V.int ns) none (some 63) = List.map V.int ns := by
      unfold cutV
      have e1 : HT.sIx (List.map V.int ns).length 0 none = 0 := rfl
      have e2 : HT.sIx (List.map V.int ns).length (List.map V.int ns).length (some 63) = (List.map V.int ns).length := by
        rw [List.length_map]
        simp [HT.sIx]
        omega
      rw [e1, e2, List.drop_zero, Nat.sub_zero, List.take_length]
    refine ⟨_, rfl, 63, rfl, a, _, rfl, ha, fun l1 H1 n1 => ⟨l1, _, rfl, .inl (SqL.of n1.at_), fun l2 H2 n2 => ⟨(by show 3 ≤ sizeLine; decide), fun p H3 n3 => ?_⟩⟩⟩
    rw [hcut] at n2
    exact k p l2 H2 H3 (n1.same.trans n2.same) ⟨⟨ns, 0, 0, n3.at_, n2.at_, hlen, by decide, by decide, by decide⟩, n3.same, n3.free⟩
end
end K06

end
section
set_option maxHeartbeats 1000000
namespace K06
open PySem PySem.Spec PyProof.Rows L2 SBX SB
section
variable {w : World} {K : PySem.W.Frag} {mg : Str → Option Value} {base : Heap}
theorem letters_cps : ("ABCDabcd" : Str).cps.toList = ABC := rfl
def N_need_letters : List Str := ["value", "at", "sign"]
theorem sc_need_letters : FnScope N_need_letters ["value"] (defScope s_need_letters) := ⟨rfl, rfl, rfl, by decide +kernel, rfl, by decide +kernel, by decide +kernel⟩
theorem k_need_letters (C : Ctx w K mg) : CallOk prg w K mg base 2 "need_letters" ["value"] (spNeed K firstOdd) := by
  refine callOk (g_need_letters C) (f_need_letters C) sc_need_letters (fun _ _ _ _ _ _ us hl => match us, hl with | [_], _ => rfl) (fun vs H Q E h => ?_) (fun cdv A outer s H vs Q E hr h => ?_)
  · obtain ⟨v, rfl, _⟩ := h
    rfl
  · obtain ⟨v, rfl, h⟩ := h
    have hr1 : Room (0 + 1) _ := hr
    refine ⟨_, (pss_cons (ps_if (pt_not (pt_val (pe_callB call_isZ (by rfl) (b_isinstance C) (by decide +kernel) (pa_cons (pv 0) (pa_cons (pe_bltn (v := .ty "str") rfl (b_str C) (by decide +kernel) rfl) pa_nil)))))
  (pss_one (ps_raise rfl (takes_of rfl rfl rfl rfl) (pmk_sup (o_BadWord C) (g_BadWord C) (b_super C) hr1 (by decide) (pa_cons pe_int pa_nil))))
  pss_nil)
  (pss_one (ps_for (passes_of rfl) rfl (pi_enumS (b_enumerate C) (pa_cons (pv 0) pa_nil)) (pg_tup rfl (pgs_cons (pg_name (i := 1) sc_need_letters.nd rfl (Or.inl rfl)) (pgs_cons (pg_name (i := 2) sc_need_letters.nd rfl (Or.inl rfl)) pgs_nil)))
  (pss_one (ps_if (pt_cmpR op_notIn_sign (pv 2) (pe_gs (c_LETTERS C)) (by rfl))
  (pss_one (ps_raise rfl (takes_of rfl rfl rfl rfl) (pmk_sup (o_BadWord C) (g_BadWord C) (b_super C) hr1 (by decide) (pa_cons (pv 1) pa_nil))))
  pss_nil))))), ?_⟩
    rcases h with ⟨l, rfl, hl, h⟩ | ⟨t, ty, kt, h⟩
    · refine ⟨_, rfl, _, _, _, .type "str", true, rfl, .ty _, ty_txt _, kit_str, _, rfl, iteF ?_⟩
      refine ⟨_, rfl, tx l, rfl, ?_⟩
      refine for_by (fun i σ H1 => Same H H1 ∧ (∃ a b, σ = [some (T l), a, b]) ∧ ∀ j, j < i → oddAt l j = false) (walk_enum l) ⟨Same.refl _, ⟨_, _, rfl⟩, fun j hj => by omega⟩ ?_ ?_
      · intro i x σ H1 H2 hi hp hx
        obtain ⟨s1, ⟨a, b, rfl⟩, hok⟩ := hp
        obtain ⟨t, c, rfl, n2, hc⟩ := hx
        refine ⟨t, _, rfl, SqT.of n2.at_, rfl, _, _, rfl, _, _, rfl, rfl, ?_⟩
        refine ⟨_, rfl, c, _, rfl, rfl, _, rfl, ?_⟩
        refine iteN (fun hbad => ?_) (fun hgood => ?_)
        · have hw : firstOdd l = some i := first_some hi (by rw [oddAt_of hc]; simp [isL, ABC, hbad]) hok
          rw [hw] at h
          exact ⟨_, rfl, rfl, fun d hd => (h.same (s1.trans n2.same)).go d hd⟩
        · refine ⟨s1.trans n2.same, ⟨_, _, rfl⟩, fun j hj => ?_⟩
          by_cases e : j = i
          · subst e
            rw [oddAt_of hc]
            simp [isL, ABC, hgood]
          · exact hok j (by omega)
      · intro σ H1 hp
        obtain ⟨s1, _, hok⟩ := hp
        have hw : firstOdd l = none := first_none hok
        rw [hw] at h
        exact h H1 s1
    · refine ⟨_, rfl, _, _, _, .type "str", false, rfl, .ty _, ty, kt, _, rfl, iteT ?_⟩
      exact ⟨rfl, fun d hd => h.go d hd⟩
def N_need_row : List Str := ["value", "ahead", "at", "sign"]
theorem sc_need_row : FnScope N_need_row ["value"] (defScope s_need_row) := ⟨rfl, rfl, rfl, by decide +kernel, rfl, by decide +kernel, by decide +kernel⟩
theorem k_need_row (C : Ctx w K mg) : CallOk prg w K mg base 2 "need_row" ["value"] (spNeed K firstBad) := by
  refine callOk (g_need_row C) (f_need_row C) sc_need_row (fun _ _ _ _ _ _ us hl => match us, hl with | [_], _ => rfl) (fun vs H Q E h => ?_) (fun cdv A outer s H vs Q E hr h => ?_)
  · obtain ⟨v, rfl, _⟩ := h
    rfl
  · obtain ⟨v, rfl, h⟩ := h
    have hr1 : Room (0 + 1) _ := hr
    refine ⟨_, (pss_cons (ps_if (pt_not (pt_val (pe_callB call_isZ (by rfl) (b_isinstance C) (by decide +kernel) (pa_cons (pv 0) (pa_cons (pe_bltn (v := .ty "str") rfl (b_str C) (by decide +kernel) rfl) pa_nil)))))
  (pss_one (ps_raise rfl (takes_of rfl rfl rfl rfl) (pmk_sup (o_BadWord C) (g_BadWord C) (b_super C) hr1 (by decide) (pa_cons pe_int pa_nil))))
  pss_nil)
  (pss_cons (ps_set (i := 1) sc_need_row.nd rfl (Or.inl rfl) pe_str)
  (pss_one (ps_for (passes_of rfl) rfl (pi_enumS (b_enumerate C) (pa_cons (pv 0) pa_nil)) (pg_tup rfl (pgs_cons (pg_name (i := 2) sc_need_row.nd rfl (Or.inl rfl)) (pgs_cons (pg_name (i := 3) sc_need_row.nd rfl (Or.inl rfl)) pgs_nil)))
  (pss_cons (ps_if (PW.pt (pw_or (pt_cmpR op_notIn_sign (pv 3) (pe_gs (c_LETTERS C)) (by rfl)) (pw_or1 (pt_cmpR op_eq (pv 3) (pe_m0 PySem.F.slot_str_swapcase PySem.F.type_str_swapcase mt_swap (pv 1)) (nomark _)))))
  (pss_one (ps_raise rfl (takes_of rfl rfl rfl rfl) (pmk_sup (o_BadWord C) (g_BadWord C) (b_super C) hr1 (by decide) (pa_cons (pv 2) pa_nil))))
  pss_nil)
  (pss_one (ps_set (i := 1) sc_need_row.nd rfl (Or.inl rfl) (pv 3)))))))), ?_⟩
    rcases h with ⟨l, rfl, hl, h⟩ | ⟨t, ty, kt, h⟩
    · refine ⟨_, rfl, _, _, _, .type "str", true, rfl, .ty _, ty_txt _, kit_str, _, rfl, iteF ?_⟩
      refine ⟨_, rfl, tx l, rfl, ?_⟩
      refine for_by (fun i σ H1 => Same H H1 ∧ (∃ a b, σ = [some (T l), some (T (prev l i)), a, b]) ∧ ∀ j, j < i → badAt l j = false) (walk_enum l) ⟨Same.refl _, ⟨_, _, rfl⟩, fun j hj => by omega⟩ ?_ ?_
      · intro i x σ H1 H2 hi hp hx
        obtain ⟨s1, ⟨a, b, rfl⟩, hok⟩ := hp
        obtain ⟨t, c, rfl, n2, hc⟩ := hx
        have hlen : (tx (prev l i)).length ≤ 5592405 := by
          show (prev l i).toArray.size ≤ _
          rw [List.size_toArray]
          rcases prev_L hok with e | ⟨d, e, _⟩ <;> rw [e] <;> simp
        have stop : badAt l i = true → Rz H2 (He.ga K "BadWord") [("at", .int (i : Nat))] E := fun hb => by
          have hw : firstBad l = some i := first_some hi hb hok
          rw [hw] at h
          exact Rz.same h (s1.trans n2.same)
        refine ⟨t, _, rfl, SqT.of n2.at_, rfl, _, _, rfl, _, _, rfl, rfl, ?_⟩
        refine ⟨_, rfl, c, _, rfl, rfl, _, rfl, ?_⟩
        refine iteN (fun hbad => ?_) (fun hgood => ?_)
        · exact iteT ⟨_, rfl, rfl, fun d hd => (stop (by rw [badAt_of hc]; simp [isL, ABC, hbad])).go d hd⟩
        · have hL : isL c = true := by simp [isL, ABC, hgood]
          refine ⟨_, rfl, _, rfl, ⟨_, rfl⟩, _, rfl, rfl, hlen, rfl, _, rfl, ?_⟩
          rw [swap_prev hok hL]
          refine iteD (fun heq => ?_) (fun hne => ?_)
          · exact ⟨_, rfl, rfl, fun d hd => (stop (by rw [badAt_of hc]; simp [heq])).go d hd⟩
          · refine ⟨_, rfl, s1.trans n2.same, ⟨_, _, by rw [prev_succ hc]; rfl⟩, fun j hj => ?_⟩
            by_cases e : j = i
            · subst e
              rw [badAt_of hc]
              simp [hL, hne]
            · exact hok j (by omega)
      · intro σ H1 hp
        obtain ⟨s1, _, hok⟩ := hp
        have hw : firstBad l = none := first_none hok
        rw [hw] at h
        exact h H1 s1
    · refine ⟨_, rfl, _, _, _, .type "str", false, rfl, .ty _, ty, kt, _, rfl, iteT ?_⟩
      exact ⟨rfl, fun d hd => h.go d hd⟩
def N_struck : List Str := ["letters", "found", "letter"]
theorem sc_struck : FnScope N_struck ["letters"] (defScope s_struck) := ⟨rfl, rfl, rfl, by decide +kernel, rfl, by decide +kernel, by decide +kernel⟩
theorem k_struck (C : Ctx w K mg) : CallOk prg w K mg base 1 "struck" ["letters"] spStruck := by
  refine callOk (g_struck C) (f_struck C) sc_struck (fun _ _ _ _ _ _ us hl => match us, hl with | [_], _ => rfl) (fun vs H Q E h => ?_) (fun cdv A outer s H vs Q E hr h => ?_)
  · obtain ⟨l, rfl, _⟩ := h
    rfl
  · obtain ⟨l, rfl, hL, hl, k⟩ := h
    refine ⟨_, (pss_cons (ps_set (i := 1) sc_struck.nd rfl (Or.inl rfl) (pe_lstV pa_nil))
  (pss_cons (ps_for (passes_of rfl) rfl (pi_str (pv 0)) (pg_name (i := 2) sc_struck.nd rfl (Or.inl rfl))
  (pss_one (ps_if (PW.pt (pw_and (pt_cmpR (op_neD (hr.units)) (pv 1) (pe_lstV pa_nil) (nomark _)) (pw_and1 (pt_cmpR op_eq (pe_ix ix_list (pv 1) (pe_un un_neg pe_int) (fun _ _ => rfl)) (pe_m0 PySem.F.slot_str_swapcase PySem.F.type_str_swapcase mt_swap (pv 2)) (nomark _)))))
  (pss_one (ps_expr (pe_bm0 PySem.F.plainAttrs_list PySem.F.slot_list_pop PySem.F.type_list_pop mt_popV (pv 1))))
  (pss_one (ps_expr (pe_bm PySem.F.plainAttrs_list PySem.F.slot_list_append PySem.F.type_list_append mt_appendV (pv 1) (pa_cons (pv 2) pa_nil)))))))
  (pss_one (ps_ret (pe_join pe_str (pv 1)))))), ?_⟩
    refine ⟨Nat.zero_le _, fun fl H1 n1 => ?_⟩
    refine ⟨_, rfl, tx l, rfl, ?_⟩
    have hpre : ∀ i, AllL (l.take i) := fun i c hc => hL c (List.mem_of_mem_take hc)
    refine for_by (fun i σ H2 => Same H H2 ∧ (∃ a, σ = [some (T l), some (.ref fl), a]) ∧ H2 fl = some (.lst (sglV (red (l.take i))))) (walk_str l) ⟨n1.same, ⟨_, rfl⟩, n1.at_⟩ ?_ ?_
    · intro i x σ H2 H3 hi hp hx
      obtain ⟨s2, ⟨a, rfl⟩, hf⟩ := hp
      obtain ⟨rfl, c, hc, rfl⟩ := hx
      have hcL : isL c = true := hL c (List.mem_of_getElem? hc)
      have htake : l.take (i + 1) = l.take i ++ [c] := by
        rw [List.take_succ, hc]; rfl
      have hlen : (red (l.take i)).length ≤ i := Nat.le_trans (red_length _) (by rw [List.length_take]; exact Nat.min_le_left _ _)
      have hoff : H fl = none := n1.free
      refine ⟨_, rfl, Nat.zero_le _, fun e1 H4 n4 => ?_⟩
      have hf4 := n4.same _ _ hf
      have app : red (l.take i) = [] ∨ (red (l.take i)).getLast? ≠ some (und c) → red (l.take (i + 1)) = red (l.take i) ++ [c] := fun hh => by
        rw [htake, red_snoc]
        unfold push
        rw [if_neg]
        rcases hh with e | e
        · rw [e]; exact fun z => nomatch z
        · exact e
      refine rd_neSgl (allL_cps (good_allL (red_good (hpre i)))) (ys := []) (fun _ z => by cases z) (SqL.of hf4) (SqL.of n4.at_) ⟨_, rfl, ?_⟩
      have hlt : (sglV (red (l.take i))).length < sizeLine := by
        rw [sglV_len, sizeLine_eq]
        omega
      refine iteN (fun hne => ?_) (fun hnil => iteF ?_)
      · obtain ⟨d, hd⟩ : ∃ d, (red (l.take i)).getLast? = some d := by
          cases e : red (l.take i) with
          | nil => exact absurd e hne
          | cons a r => exact ⟨_, rfl⟩
        have hsn := snoc_of hd
        have hv : sglV (red (l.take i)) = sglV (red (l.take i)).dropLast ++ [T [d]] := by rw [hsn, sglV_snoc]; simp
        refine ⟨_, rfl, 1, rfl, fl, _, _, T [d], rfl, rfl, SqL.of hf4, by rw [hv]; exact atI_last, ?_⟩
        refine ⟨_, rfl, ⟨_, rfl⟩, _, rfl, rfl, by rw [len_tx]; simp, ?_⟩
        rw [swap_L hcL]
        refine ⟨rfl, _, rfl, iteD (fun heq => ?_) (fun hne2 => ?_)⟩
        · have e2 : d = und c := by simpa using T_inj.mp heq
          refine ⟨_, rfl, .inl ⟨rfl, _, SqL.of hf4⟩, fl, _, T [d], rfl, rfl, by rw [← hv]; exact hf4, fun H5 w5 => ?_⟩
          refine ⟨w5.same (s2.trans n4.same) hoff, ⟨_, rfl⟩, ?_⟩
          rw [w5.at_, htake, red_snoc]
          unfold push
          rw [if_pos (by rw [hd, e2])]
        · have e2 : ¬ d = und c := fun z => hne2 (by rw [z])
          refine ⟨_, rfl, .inl ⟨rfl, _, SqL.of hf4⟩, _, rfl, fl, _, _, rfl, rfl, hf4, hlt, fun H5 w5 => ?_⟩
          refine ⟨w5.same (s2.trans n4.same) hoff, ⟨_, rfl⟩, ?_⟩
          rw [w5.at_, app (.inr (by rw [hd]; exact fun z => e2 (Option.some.inj z))), sglV_snoc]
      · refine ⟨_, rfl, .inl ⟨rfl, _, SqL.of hf4⟩, _, rfl, fl, _, _, rfl, rfl, hf4, hlt, fun H5 w5 => ?_⟩
        refine ⟨w5.same (s2.trans n4.same) hoff, ⟨_, rfl⟩, ?_⟩
        rw [w5.at_, app (.inl hnil), sglV_snoc]
    · intro σ H2 hp
      obtain ⟨s2, ⟨a, rfl⟩, hf⟩ := hp
      rw [List.take_length] at hf
      refine ⟨⟨_, rfl⟩, _, rfl, _, fl, sgl (red l), rfl, rfl, .inl (by rw [sgl_map]; exact SqL.of hf), ?_, ?_⟩
      · have e : ∀ m : List Nat, ((sgl m).map (·.length)).sum = m.length := fun m => by
          induction m with
          | nil => rfl
          | cons a r ih =>
            show (tx [a]).length + ((sgl r).map (·.length)).sum = r.length + 1
            rw [ih, len_tx]
            simp
            omega
        have h2 := red_length l
        rw [e]
        have e0 : ("" : Str).length = 0 := rfl
        rw [e0]
        omega
      · rw [join_sgl]
        exact k H2 s2
def N_Word___init__ : List Str := ["self", "letters"]
theorem sc_Word___init__ : FnScope N_Word___init__ ["self", "letters"] (defScope s_Word___init__) := ⟨rfl, rfl, rfl, by decide +kernel, rfl, by decide +kernel, by decide +kernel⟩
theorem k_Word (C : Ctx w K mg) : WordOk prg w K mg base 3 := by
  have k_need_row := k_need_row (w := w) (base := base) C
  obtain ⟨fd, F⟩ := f_Word___init__ C
  refine ⟨He.ma K (He.ga K "Word") "__init__", fd, mk_Word C, F.ok sc_Word___init__ (fun vs H Q E h => ?_) (fun cdv A outer s H vs Q E hr h => ?_), ?_, ?_, ?_⟩
  · obtain ⟨x, dx, v, F, rfl, _⟩ := h
    rfl
  · obtain ⟨x, dx, v, F0, rfl, hx, hs, hoff, h⟩ := h
    have hr1 : Room (0 + 1) _ := hr.mono (by decide)
    refine ⟨_, (pss_cons (ps_expr (pe_callD k_need_row (hr.mono (by decide)) passE (pa_cons (pv 1) pa_nil)))
  (pss_cons (ps_if (pt_cmpR op_gt (pe_callB call_len (by rfl) (b_len C) PySem.boot_len (pa_cons (pv 1) pa_nil)) (pe_gi (c_MOST_LETTERS C)) (nomark _))
  (pss_one (ps_raise rfl (takes_of rfl rfl rfl rfl) (pmk_sup (o_TooMany C) (g_TooMany C) (b_super C) hr1 (by decide) (pa_cons pe_str (pa_cons (pe_gi (c_MOST_LETTERS C)) pa_nil)))))
  pss_nil)
  (pss_cons (ps_fldV (pv 0) (pv 1))
  (pss_one (ps_fldV (pv 0) (pe_callB call_len (by rfl) (b_len C) PySem.boot_len (pa_cons (pv 1) pa_nil))))))), ?_⟩
    rcases h with ⟨l, rfl, hl, h⟩ | ⟨t, ty, kt, h⟩
    · refine ⟨_, rfl, T l, rfl, .inl ⟨l, rfl, hl, ?_⟩⟩
      cases e : firstBad l with
      | some w =>
        have e2 : wordRes l = .bad w := by unfold wordRes; rw [e]
        rw [e2] at h
        exact h
      | none =>
        intro H1 s1
        refine ⟨_, rfl, _, l.length, rfl, ⟨small_tx hl, (len_tx l).symm⟩, _, _, rfl, rfl, _, rfl, ?_⟩
        refine iteD (fun hbig => ?_) (fun hsmall => ?_)
        · have hb : ¬ l.length ≤ 4000 := by omega
          have e2 : wordRes l = .many := by unfold wordRes; rw [e]; exact if_neg hb
          rw [e2] at h
          exact ⟨rfl, fun d hd => (Rz.same h s1).go d hd⟩
        · have hb : l.length ≤ 4000 := by omega
          have e2 : wordRes l = .ok l := by unfold wordRes; rw [e]; exact if_pos hb
          rw [e2] at h
          refine ⟨_, rfl, _, rfl, x, _, dx, _, _, rfl, s1 _ _ hx, cl_Word C, na_Word_letters C, by decide, putF1 l, fun H2 w2 => ?_⟩
          refine ⟨_, rfl, _, l.length, rfl, ⟨small_tx hl, (len_tx l).symm⟩, _, rfl, x, _, dx, _, _, rfl, w2.at_, cl_Word C, na_Word_size C, by show 1 < 1000; decide, putF2 l, fun H3 w3 => ?_⟩
          exact h H3 (w3.same (w2.same (hs.trans s1) hoff) hoff) w3.at_ hb
    · exact ⟨_, rfl, v, rfl, .inr ⟨t, ty, kt, h⟩⟩
  · obtain ⟨ds, hv, hb⟩ := F.binds1 2 1 (ps := ["self", "letters"]) (fun z => nomatch z) rfl (fun T kV doc pm an cdv ct us its h1 h2 => match us, its, h1, h2 with
      | [_, _], [_], _, _ => ⟨_, rfl, rfl⟩)
    cases hv
    exact hb
  · exact F.binds1 1 0 (ps := ["self", "letters"]) (fun z => nomatch z) rfl (fun T kV doc pm an cdv ct us its h1 h2 => match us, its, h1, h2 with
      | [_], [_], _, _ => ⟨_, rfl, rfl⟩)
  · obtain ⟨its, hk⟩ := F.kbindsD (ps := ["self", "letters"]) 1 ["letters"] (fun {α} us its ws => us ++ ws) (fun z => nomatch z) (fun r1 _ r3 => r1.append r3) (fun T kV doc pm an cdv ct us its ws h1 h2 h3 => match us, its, ws, h1, h2, h3 with
      | [_], [_], [_], _, _, _ => ⟨_, rfl, rfl⟩)
    exact ⟨_, hk⟩
def N_Word_of : List Str := ["letters"]
theorem sc_Word_of : FnScope N_Word_of ["letters"] (defScope s_Word_of) := ⟨rfl, rfl, rfl, by decide +kernel, rfl, by decide +kernel, by decide +kernel⟩
theorem k_Word_of (C : Ctx w K mg) : StOk prg w K mg base 5 (sAd K (He.ga K "Word") "of") ["letters"] (spOf K) := by
  have k_need_letters := k_need_letters (w := w) (base := base) C
  have k_struck := k_struck (w := w) (base := base) C
  have k_Word := k_Word (w := w) (base := base) C
  obtain ⟨fd, F⟩ := f_Word_of C
  refine ⟨fd, F.ok sc_Word_of (fun vs H Q E h => ?_) (fun cdv A outer s H vs Q E hr h => ?_), F.kp, F.bindsN (fun _ _ _ _ _ _ us hl => match us, hl with | [_], _ => rfl), _, kbn1 F (fun _ _ _ _ _ _ _ => rfl)⟩
  · obtain ⟨v, rfl, _⟩ := h
    rfl
  · obtain ⟨v, rfl, h⟩ := h
    refine ⟨_, (pss_cons (ps_expr (pe_callD k_need_letters (hr.mono (by decide)) passE (pa_cons (pv 0) pa_nil)))
  (pss_one (ps_ret (pe_callRef (callW1X k_Word (hr.mono (by decide)) passE) (g_Word C) (mk_Word C).kp (pa_cons (pe_callD k_struck (hr.mono (by decide)) passL (pa_cons (pv 0) pa_nil)) pa_nil))))), ?_⟩
    rcases h with ⟨l, rfl, hl, h⟩ | ⟨t, ty, kt, h⟩
    · refine ⟨_, rfl, T l, rfl, .inl ⟨l, rfl, hl, ?_⟩⟩
      cases e : firstOdd l with
      | some w =>
        have e2 : ofRes l = .bad w := by unfold ofRes; rw [e]
        rw [e2] at h
        exact h
      | none =>
        intro H1 s1
        have hL := allL_of_none e
        refine ⟨_, rfl, l, rfl, hL, hl, fun H2 s2 => ⟨_, rfl, .inl ⟨red l, rfl, Nat.le_trans (red_length l) hl, ?_⟩⟩⟩
        have e2 : wordRes (red l) = ofRes l := by
          rw [wordRes_red hL]
          unfold ofRes
          rw [e]
        rw [e2]
        exact h.same (s1.trans s2)
    · exact ⟨_, rfl, v, rfl, .inr ⟨t, ty, kt, h⟩⟩
def N_Word___len__ : List Str := ["self"]
theorem sc_Word___len__ : FnScope N_Word___len__ ["self"] (defScope s_Word___len__) := ⟨rfl, rfl, rfl, by decide +kernel, rfl, by decide +kernel, by decide +kernel⟩
theorem k_Word___len__ (C : Ctx w K mg) : Special prg w K mg base 1 (He.ga K "Word") "__len__" ["self"] (spLenW K) := by
  obtain ⟨fd, F⟩ := f_Word___len__ C
  refine ⟨_, fd, me_Word___len__ C, F.ok sc_Word___len__ (fun vs H Q E h => ?_) (fun cdv A outer s H vs Q E hr h => ?_), F.bindsN (fun _ _ _ _ _ _ us hl => match us, hl with | [_], _ => rfl)⟩
  · obtain ⟨a, l, rfl, _⟩ := h
    rfl
  · obtain ⟨a, l, rfl, ⟨dx, ha, hlen⟩, k⟩ := h
    refine ⟨_, (pss_one (ps_ret (pe_callB call_len (by rfl) (b_len C) PySem.boot_len (pa_cons (pe_fld (pv 0) rfl) pa_nil)))), ?_⟩
    exact ⟨_, rfl, a, _, dx, _, _, rfl, ha, cl_Word C, na_Word_letters C, wf_letters l, _, l.length, rfl, ⟨small_tx (by omega), (len_tx l).symm⟩, k H (Same.refl H)⟩
def N_Word___str__ : List Str := ["self"]
theorem sc_Word___str__ : FnScope N_Word___str__ ["self"] (defScope s_Word___str__) := ⟨rfl, rfl, rfl, by decide +kernel, rfl, by decide +kernel, by decide +kernel⟩
theorem k_Word___str__ (C : Ctx w K mg) : Special prg w K mg base 1 (He.ga K "Word") "__str__" ["self"] (spStrW K) := by
  obtain ⟨fd, F⟩ := f_Word___str__ C
  refine ⟨_, fd, me_Word___str__ C, F.ok sc_Word___str__ (fun vs H Q E h => ?_) (fun cdv A outer s H vs Q E hr h => ?_), F.bindsN (fun _ _ _ _ _ _ us hl => match us, hl with | [_], _ => rfl)⟩
  · obtain ⟨a, l, rfl, _⟩ := h
    rfl
  · obtain ⟨a, l, rfl, ⟨dx, ha, hlen⟩, k⟩ := h
    refine ⟨_, (pss_one (ps_ret (pe_callTy SkE.call_str_str (by rfl) (b_str C) (by decide +kernel) (pa_cons (pe_ifExp (pt_cmpR op_gt (pe_fld (pv 0) rfl) pe_int (nomark _)) (pe_fld (pv 0) rfl) pe_str) pa_nil)))), ?_⟩
    refine ⟨_, rfl, a, _, dx, _, _, rfl, ha, cl_Word C, na_Word_size C, wf_size l, _, _, rfl, rfl, _, rfl, ?_⟩
    have hk : told l = if l = [] then [45] else l := rfl
    refine iteD (fun hpos => ?_) (fun hno => ?_)
    · have hne : l ≠ [] := fun z => by rw [z] at hpos; exact absurd hpos (by decide)
      rw [if_neg hne] at hk
      exact ⟨_, rfl, a, _, dx, _, _, rfl, ha, cl_Word C, na_Word_letters C, wf_letters l, tx l, rfl, by rw [hk] at k; exact k H (Same.refl H)⟩
    · have hne : l = [] := by
        cases l with
        | nil => rfl
        | cons a r => exact absurd (by show (0 : Int) < ((r.length + 1 : Nat) : Int); omega) hno
      rw [if_pos hne] at hk
      exact ⟨tx [45], rfl, by rw [hk] at k; exact k H (Same.refl H)⟩
theorem k_Word___iter__ (C : Ctx w K mg) : ItRaw prg w K mg base 1 (He.ga K "Word") (He.ma K (He.ga K "Word") "__iter__") "letters" :=
  itRaw_of (N := []) (f_Word___iter__ C) ⟨rfl, rfl, rfl, by decide +kernel, rfl, by decide +kernel, by decide +kernel⟩ (fun _ _ _ _ _ _ us hl => match us, hl with | [_], _ => rfl) rfl (cl_Word C) (na_Word_letters C) (b_iter C) rfl rfl
end
end K06

end
section
set_option maxHeartbeats 1000000
namespace K06
open PySem PySem.Spec PyProof.Rows L2 SBX SB
section
variable {w : World} {K : PySem.W.Frag} {mg : Str → Option Value} {base : Heap}
def N_is_letter : List Str := ["value"]
theorem sc_is_letter : FnScope N_is_letter ["value"] (defScope s_is_letter) := ⟨rfl, rfl, rfl, by decide +kernel, rfl, by decide +kernel, by decide +kernel⟩
theorem k_is_letter (C : Ctx w K mg) : CallOk prg w K mg base 1 "is_letter" ["value"] spIsLetter := by
  refine callOk (g_is_letter C) (f_is_letter C) sc_is_letter (fun _ _ _ _ _ _ us hl => match us, hl with | [_], _ => rfl) (fun vs H Q E h => ?_) (fun cdv A outer s H vs Q E hr h => ?_)
  · obtain ⟨c, rfl, _⟩ := h
    rfl
  · obtain ⟨c, rfl, k⟩ := h
    refine ⟨_, (pss_one (ps_ret (pe_and (pe_callB call_isZ (by rfl) (b_isinstance C) (by decide +kernel) (pa_cons (pv 0) (pa_cons (pe_bltn (v := .ty "str") rfl (b_str C) (by decide +kernel) rfl) pa_nil))) (pe_and (pe_cmpR op_eq (pe_callB call_len (by rfl) (b_len C) PySem.boot_len (pa_cons (pv 0) pa_nil)) pe_int (nomark _)) (pe_one (pe_cmpR op_in_sign (pv 0) (pe_gs (c_LETTERS C)) (by rfl))))))), ?_⟩
    refine ⟨_, rfl, _, _, _, .type "str", true, rfl, .ty _, ty_txt _, kit_str, _, rfl, iteT ?_⟩
    refine ⟨_, rfl, _, 1, rfl, ⟨small_tx (by simp), rfl⟩, rfl, _, rfl, iteDT rfl ?_⟩
    exact ⟨_, rfl, c, _, rfl, rfl, k H (Same.refl H)⟩
def N_is_row : List Str := ["text", "ahead", "sign"]
theorem sc_is_row : FnScope N_is_row ["text"] (defScope s_is_row) := ⟨rfl, rfl, rfl, by decide +kernel, rfl, by decide +kernel, by decide +kernel⟩
theorem k_is_row (C : Ctx w K mg) : CallOk prg w K mg base 2 "is_row" ["text"] spIsRow := by
  have k_is_letter := k_is_letter (w := w) (base := base) C
  refine callOk (g_is_row C) (f_is_row C) sc_is_row (fun _ _ _ _ _ _ us hl => match us, hl with | [_], _ => rfl) (fun vs H Q E h => ?_) (fun cdv A outer s H vs Q E hr h => ?_)
  · obtain ⟨l, rfl, _⟩ := h
    rfl
  · obtain ⟨l, rfl, hl, h⟩ := h
    refine ⟨_, (pss_cons (ps_set (i := 1) sc_is_row.nd rfl (Or.inl rfl) pe_str)
  (pss_cons (ps_for (passes_of rfl) rfl (pi_str (pv 0)) (pg_name (i := 2) sc_is_row.nd rfl (Or.inl rfl))
  (pss_cons (ps_if (PW.pt (pw_or (pt_not (pt_val (pe_callD k_is_letter (hr.mono (by decide)) passL (pa_cons (pv 2) pa_nil)))) (pw_or1 (pt_cmpR op_eq (pv 2) (pe_m0 PySem.F.slot_str_swapcase PySem.F.type_str_swapcase mt_swap (pv 1)) (nomark _)))))
  (pss_one (ps_ret pe_bl))
  pss_nil)
  (pss_one (ps_set (i := 1) sc_is_row.nd rfl (Or.inl rfl) (pv 2)))))
  (pss_one (ps_ret pe_bl)))), ?_⟩
    refine ⟨_, rfl, tx l, rfl, ?_⟩
    refine for_by (fun i σ H1 => Same H H1 ∧ (∃ a, σ = [some (T l), some (T (prev l i)), a]) ∧ ∀ j, j < i → badAt l j = false) (walk_str l) ⟨Same.refl _, ⟨_, rfl⟩, fun j hj => by omega⟩ ?_ ?_
    · intro i x σ H1 H2 hi hp hx
      obtain ⟨s1, ⟨a, rfl⟩, hok⟩ := hp
      obtain ⟨rfl, c, hc, rfl⟩ := hx
      have hlen : (tx (prev l i)).length ≤ 5592405 := by
        show (prev l i).toArray.size ≤ _
        rw [List.size_toArray]
        rcases prev_L hok with e | ⟨d, e, _⟩ <;> rw [e] <;> simp
      have stop : badAt l i = true → ∀ H3, Same H H3 → Q (.bl false) H3 := fun hb H3 s3 => by
        have hw : firstBad l = some i := first_some hi hb hok
        rw [hw] at h
        exact h H3 s3
      refine ⟨_, rfl, c, rfl, fun H3 s3 => ⟨_, rfl, ?_⟩⟩
      cases hL : isL c with
      | false =>
        refine iteT (stop (by rw [badAt_of hc, hL]; rfl) H3 (s1.trans s3))
      | true =>
        refine iteF ?_
        refine ⟨_, rfl, _, rfl, ⟨_, rfl⟩, _, rfl, rfl, hlen, rfl, _, rfl, ?_⟩
        rw [swap_prev hok hL]
        refine iteD (fun heq => ?_) (fun hne => ?_)
        · exact stop (by rw [badAt_of hc]; simp [heq]) H3 (s1.trans s3)
        · refine ⟨_, rfl, s1.trans s3, ⟨_, by rw [prev_succ hc]; rfl⟩, fun j hj => ?_⟩
          by_cases e : j = i
          · subst e
            rw [badAt_of hc]
            simp [hL, hne]
          · exact hok j (by omega)
    · intro σ H1 hp
      obtain ⟨s1, _, hok⟩ := hp
      have hw : firstBad l = none := first_none hok
      rw [hw] at h
      exact h H1 s1
def N_lone : List Str := ["items", "letters"]
theorem sc_lone : FnScope N_lone ["items", "letters"] (defScope s_lone) := ⟨rfl, rfl, rfl, by decide +kernel, rfl, by decide +kernel, by decide +kernel⟩
theorem k_lone (C : Ctx w K mg) : CallOk prg w K mg base 5 "lone" ["items", "letters"] (spLone K) := by
  have k_Word := k_Word (w := w) (base := base) C
  refine callOk (g_lone C) (f_lone C) sc_lone (fun _ _ _ _ _ _ us hl => match us, hl with | [_, _], _ => rfl) (fun vs H Q E h => ?_) (fun cdv A outer s H vs Q E hr h => ?_)
  · obtain ⟨a, xs, m, rfl, _⟩ := h
    rfl
  · obtain ⟨a, xs, m, rfl, hs, hm4, hmb, hne, hxl, h⟩ := h
    have hr1 : Room (0 + 1) _ := hr.mono (by decide)
    refine ⟨_, (pss_cons (ps_if (pt_cmpR op_gt (pe_callB call_len (by rfl) (b_len C) PySem.boot_len (pa_cons (pv 0) pa_nil)) pe_int (nomark _))
  (pss_one (ps_raise rfl (takes_of rfl rfl rfl rfl) (pmk_sup (o_BadText C) (g_BadText C) (b_super C) hr1 (by decide) (pa_cons pe_int pa_nil))))
  pss_nil)
  (pss_one (ps_ret (pe_callRef (callW1X k_Word (hr.mono (by decide)) passE) (g_Word C) (mk_Word C).kp (pa_cons (pv 1) pa_nil))))), ?_⟩
    have hpos := List.length_pos_iff.mpr hne
    refine ⟨_, rfl, _, xs.length, rfl, .inl ⟨xs, hs, rfl⟩, _, _, rfl, rfl, _, rfl, ?_⟩
    refine iteD (fun hbig => ?_) (fun hone => ?_)
    · have e : ¬ xs.length = 1 := by omega
      rw [if_neg e] at h
      exact ⟨rfl, fun d hd => Rz.go h d hd⟩
    · have e : xs.length = 1 := by omega
      rw [if_pos e] at h
      exact ⟨_, rfl, _, rfl, .inl ⟨m, rfl, by omega, ResR.ok_ (wordRes_ok hmb hm4) h⟩⟩
def N_Word_read : List Str := ["text", "items"]
theorem sc_Word_read : FnScope N_Word_read ["text"] (defScope s_Word_read) := ⟨rfl, rfl, rfl, by decide +kernel, rfl, by decide +kernel, by decide +kernel⟩
theorem k_Word_read (C : Ctx w K mg) : StOk prg w K mg base 6 (sAd K (He.ga K "Word") "read") ["text"] (spRead K) := by
  have k_is_row := k_is_row (w := w) (base := base) C
  have k_lone := k_lone (w := w) (base := base) C
  obtain ⟨fd, F⟩ := f_Word_read C
  refine ⟨fd, F.ok sc_Word_read (fun vs H Q E h => ?_) (fun cdv A outer s H vs Q E hr h => ?_), F.kp, F.bindsN (fun _ _ _ _ _ _ us hl => match us, hl with | [_], _ => rfl), _, kbn1 F (fun _ _ _ _ _ _ _ => rfl)⟩
  · obtain ⟨v, rfl, _⟩ := h
    rfl
  · obtain ⟨v, rfl, h⟩ := h
    have hr1 : Room (0 + 1) _ := hr.mono (by decide)
    refine ⟨_, (pss_cons (ps_if (pt_not (pt_val (pe_callB call_isZ (by rfl) (b_isinstance C) (by decide +kernel) (pa_cons (pv 0) (pa_cons (pe_bltn (v := .ty "str") rfl (b_str C) (by decide +kernel) rfl) pa_nil)))))
  (pss_one (ps_raise rfl (takes_of rfl rfl rfl rfl) (pmk_sup (o_BadText C) (g_BadText C) (b_super C) hr1 (by decide) (pa_cons pe_int pa_nil))))
  pss_nil)
  (pss_cons (ps_set (i := 1) sc_Word_read.nd rfl (Or.inl rfl) (pe_m1 PySem.F.slot_str_split PySem.F.type_str_split mt_splitB (pv 0) pe_str))
  (pss_cons (ps_if (pt_cmpR op_eq (pe_ix ix_list (pv 1) pe_int (fun _ _ => rfl)) pe_str (nomark _))
  (pss_one (ps_ret (pe_callD k_lone (hr.mono (by decide)) passE (pa_cons (pv 1) (pa_cons pe_str pa_nil)))))
  pss_nil)
  (pss_cons (ps_if (PW.pt (pw_or (pt_cmpR op_eq (pe_ix ix_list (pv 1) pe_int (fun _ _ => rfl)) pe_str (nomark _)) (pw_or (pt_not (pt_val (pe_callD k_is_row (hr.mono (by decide)) passL (pa_cons (pe_ix ix_list (pv 1) pe_int (fun _ _ => rfl)) pa_nil)))) (pw_or1 (pt_cmpR op_gt (pe_callB call_len (by rfl) (b_len C) PySem.boot_len (pa_cons (pe_ix ix_list (pv 1) pe_int (fun _ _ => rfl)) pa_nil)) (pe_gi (c_MOST_LETTERS C)) (nomark _))))))
  (pss_one (ps_raise rfl (takes_of rfl rfl rfl rfl) (pmk_sup (o_BadText C) (g_BadText C) (b_super C) hr1 (by decide) (pa_cons pe_int pa_nil))))
  pss_nil)
  (pss_one (ps_ret (pe_callD k_lone (hr.mono (by decide)) passE (pa_cons (pv 1) (pa_cons (pe_ix ix_list (pv 1) pe_int (fun _ _ => rfl)) pa_nil))))))))), ?_⟩
    rcases h with ⟨l, rfl, hl, h⟩ | ⟨t, ty, kt, h⟩
    · refine ⟨_, rfl, _, _, _, .type "str", true, rfl, .ty _, ty_txt _, kit_str, _, rfl, iteF ?_⟩
      refine ⟨_, rfl, ⟨_, rfl⟩, l, rfl, rfl, hl, fun p H1 n1 => ?_⟩
      obtain ⟨i, r, hi⟩ : ∃ i r, itm l = i :: r := by
        cases e : itm l with
        | nil => exact absurd e (itm_ne l)
        | cons i r => exact ⟨i, r, rfl⟩
      have hat : atI ((itm l).map T) ((0 : Nat) : Int) = some (T i) := atI_nat (by rw [hi]; rfl)
      have hxs := SqL.of (K := K) n1.at_
      have hil := itm_head hi
      have hlen := itm_len l
      have hone : ((itm l).map T).length = r.length + 1 := by rw [hi]; simp
      have s1 := n1.same
      refine ⟨_, rfl, p, _, _, _, rfl, rfl, hxs, hat, rfl, _, rfl, ?_⟩
      refine iteD (fun hd => ?_) (fun hnd => ?_)
      · have e : i = [45] := T_inj.mp (show T i = T [45] from hd)
        subst e
        refine ⟨_, rfl, p, _, [], rfl, hxs, by decide, by decide +kernel, by rw [hi]; simp, by rw [List.length_map]; omega, ?_⟩
        rw [rdRow_one hone, ← readRes_dash hi]
        exact h.same s1
      · have e : i ≠ [45] := fun z => hnd (by rw [z]; rfl)
        refine ⟨_, rfl, p, _, _, _, rfl, rfl, hxs, hat, rfl, _, rfl, ?_⟩
        refine iteD (fun h0 => ?_) (fun hn0 => ?_)
        · have e0 : i = [] := T_inj.mp (show T i = T [] from h0)
          rw [readRes_bad hi e (.inl e0)] at h
          exact ⟨rfl, fun d hd => (Rz.same h s1).go d hd⟩
        · have e0 : i ≠ [] := fun z => hn0 (by rw [z]; rfl)
          refine ⟨_, rfl, p, _, _, _, rfl, rfl, hxs, hat, i, rfl, by omega, fun H2 s2 => ?_⟩
          have s12 := s1.trans s2
          have hxs2 := SqL.of (K := K) (s2 _ _ n1.at_)
          refine ⟨_, rfl, iteN (fun hb => ?_) (fun hg => ?_)⟩
          · rw [readRes_bad hi e (.inr (.inl hb))] at h
            exact ⟨rfl, fun d hd => (Rz.same h s12).go d hd⟩
          · refine ⟨_, rfl, p, _, _, _, rfl, rfl, hxs2, hat, _, i.length, rfl, ⟨small_tx (by omega), (len_tx i).symm⟩, _, _, rfl, rfl, _, rfl, ?_⟩
            refine iteD (fun hbig => ?_) (fun hsmall => ?_)
            · rw [readRes_bad hi e (.inr (.inr (by omega)))] at h
              exact ⟨rfl, fun d hd => (Rz.same h s12).go d hd⟩
            · have h4 : i.length ≤ 4000 := by omega
              refine ⟨_, rfl, _, rfl, p, _, _, _, rfl, rfl, hxs2, hat, p, _, i, rfl, hxs2, h4, hg, by rw [hi]; simp, by rw [List.length_map]; omega, ?_⟩
              rw [rdRow_one hone, ← readRes_row hi e e0 hg h4]
              exact h.same s12
    · refine ⟨_, rfl, _, _, _, .type "str", false, rfl, .ty _, ty, kt, _, rfl, iteT ?_⟩
      exact ⟨rfl, fun d hd => h.go d hd⟩
def N_Word___eq__ : List Str := ["self", "other"]
theorem sc_Word___eq__ : FnScope N_Word___eq__ ["self", "other"] (defScope s_Word___eq__) := ⟨rfl, rfl, rfl, by decide +kernel, rfl, by decide +kernel, by decide +kernel⟩
theorem k_Word___eq__ (C : Ctx w K mg) : Special prg w K mg base 1 (He.ga K "Word") "__eq__" ["self", "other"] (spEqW K) := by
  obtain ⟨fd, F⟩ := f_Word___eq__ C
  refine ⟨_, fd, me_Word___eq__ C, F.ok sc_Word___eq__ (fun vs H Q E h => ?_) (fun cdv A outer s H vs Q E hr h => ?_), F.bindsN (fun _ _ _ _ _ _ us hl => match us, hl with | [_, _], _ => rfl)⟩
  · obtain ⟨a, b, l, m, rfl, _⟩ := h
    rfl
  · obtain ⟨a, b, l, m, rfl, ⟨dx, ha, hla⟩, ⟨dy, hb, hlb⟩, cl, cm, k⟩ := h
    refine ⟨_, (pss_cons (ps_if (pt_not (pt_val (pe_callB call_isZ (by rfl) (b_isinstance C) (by decide +kernel) (pa_cons (pv 1) (pa_cons (pe_glob (v := .ref (He.ga K "Word")) rfl (g_Word C) rfl) pa_nil)))))
  (pss_one ps_dead)
  pss_nil)
  (pss_one (ps_ret (pe_cmpR (op_eqD (hr.units)) (pe_tupV (pa_cons (pe_fld (pv 0) rfl) (pa_cons (pe_fld (pv 0) rfl) pa_nil))) (pe_tupV (pa_cons (pe_fld (pv 1) rfl) (pa_cons (pe_fld (pv 1) rfl) pa_nil))) (nomark _))))), ?_⟩
    refine ⟨_, rfl, _, _, _, .ref (He.ga K "Word"), true, rfl, .own _, (ty_Word C).ins (cl_Word C) hb, is_Word_Word C, _, rfl, iteF ?_⟩
    refine ⟨_, rfl, a, _, dx, _, _, rfl, ha, cl_Word C, na_Word_size C, wf_size l, _, rfl, a, _, dx, _, _, rfl, ha, cl_Word C, na_Word_letters C, wf_letters l, (by show 2 ≤ sizeLine; decide), fun p1 H1 n1 => ?_⟩
    have hb1 := n1.same _ _ hb
    refine ⟨_, rfl, b, _, dy, _, _, rfl, hb1, cl_Word C, na_Word_size C, wf_size m, _, rfl, b, _, dy, _, _, rfl, hb1, cl_Word C, na_Word_letters C, wf_letters m, (by show 2 ≤ sizeLine; decide), fun p2 H2 n2 => ?_⟩
    exact rd_eqPair (SqT.of (n2.same _ _ n1.at_)) (SqT.of n2.at_) cl cm (k H2 (n1.same.trans n2.same))
end
end K06

end
section
set_option maxHeartbeats 1000000
namespace K06
open PySem PySem.Spec PyProof.Rows L2 SBX SB LamX
section
def N__law_heard : List Str := ["ask", "caught", "error"]
theorem sc__law_heard : FnScope N__law_heard ["ask"] (defScope s__law_heard) := ⟨rfl, rfl, rfl, by decide +kernel, rfl, by decide +kernel, by decide +kernel⟩
theorem pe_heard {X : Cx} (C : Ctx X.w X.K X.mg) {T : List (Addr × Str)} {c P : Addr} {k : Nat} {params : Arguments} {body : Expr} {scope : Scope} {t : XK → TE} {p lpos pos : Pos} (TB : TabB X.base X.mg c P) (hcode : X.env.code = .ref c) (hmT : (P, X.env.qual ++ "<lambda>") ∈ T)
    (hu : ∀ p ∈ T, p.1 = P → p.2 = X.env.qual ++ "<lambda>") (hr : Room (k + 2) X.A) (L : LamS X.env.scope scope) (hbody : ∀ (A : Around) (outer : List Env) (s : Shared) (H : Hp) (E : XK) (f c' : Addr), Room k (A.deeper (lamEnv X scope s.heap.objs.size f c')) → Passes (L2.CX X.prog X.w) (lamCx X A outer s H E scope f c') E → PE (lamCx X A outer s H E scope f c') body (t E))
    (hg : Gl X "_law_heard" := by rfl) (hdef : defaultsOf params X.env = ([], []) := by rfl) (hbind : ∀ (q : Str) (cl : List (Str × Addr)) (pm cv ctv : Value), bindArgs (PySem.W.kla_fn "<lambda>" q params body scope cl pm cv ctv) ⟨[], []⟩ = pure [] := by intros; rfl) :
    PE X (.Call (.Name "_law_heard" p) [.Lambda params body scope lpos] [] pos) (tLam T (THeardN X.K (He.ga X.K "BallError")) t) := by
  obtain ⟨fd, F⟩ := f__law_heard C
  have hkp := F.kp
  have hb := F.bindsN (ps := ["ask"]) (fun _ _ _ _ _ _ us hl => match us, hl with | [_], _ => rfl)
  obtain ⟨oc, od, dV, kV, doc, pm, an, cdv, ct, osl, rfl, lk, hcd, hD, hK⟩ := F.ex
  exact pe_lamcall (TT := THeardN X.K (He.ga X.K "BallError")) (Ng := N__law_heard) (a := "ask") hg (g__law_heard C) hkp lk hcd hb sc__law_heard rfl (Or.inl rfl) (heard_gives (p15 := ⟨0, 0, 0, 0⟩) rfl (g_BallError C) rfl rfl rfl rfl) TB hcode hmT hu hr L hdef hbind (fun A outer s H E f c' hr => hbody A outer s H E f c' hr pass_lam)
def TT (K : PySem.W.Frag) : List (Addr × Str) := tf.map fun p => ((He.cT K p).2, p.1 ++ ".<locals>." ++ "<lambda>")
variable {w : World} {K : PySem.W.Frag} {mg : Str → Option Value} {base : Heap}
theorem tt_nd (C : Ctx w K mg) : ((TT K).map (·.1)).Nodup := by
  have h := of_decide_eq_true (e_tabs C)
  unfold TT
  rw [List.map_map]
  exact h
end
end K06

end
section
set_option maxHeartbeats 1000000
namespace K06
open PySem PySem.Spec PyProof.Rows L2 SBX SB
section
variable {w : World} {K : PySem.W.Frag} {mg : Str → Option Value} {base : Heap}
def N__law_undo : List Str := ["letter"]
theorem sc__law_undo : FnScope N__law_undo ["letter"] (defScope s__law_undo) := ⟨rfl, rfl, rfl, by decide +kernel, rfl, by decide +kernel, by decide +kernel⟩
def spUndo : Sp := fun vs H Q _ => ∃ s, vs = [T [s]] ∧ isL s = true ∧ ∀ H', Same H H' → Q (T [und s]) H'
theorem k__law_undo (C : Ctx w K mg) : CallOk prg w K mg base 1 "_law_undo" ["letter"] spUndo := by
  refine callOk (g__law_undo C) (f__law_undo C) sc__law_undo (fun _ _ _ _ _ _ us hl => match us, hl with | [_], _ => rfl) (fun vs H Q E h => ?_) (fun cdv A outer s H vs Q E hr h => ?_)
  · obtain ⟨s, rfl, _⟩ := h
    rfl
  · obtain ⟨c, rfl, hL, k⟩ := h
    refine ⟨_, (pss_one (ps_ret (pe_ix ix_str pe_str (pe_m1 PySem.F.slot_str_index PySem.F.type_str_index mt_sindex pe_str (pv 0)) (fun _ _ => rfl)))), ?_⟩
    exact ⟨⟨_, rfl⟩, _, rfl, _, _, idx c, [], rfl, rfl, occ_L hL, _, _, _, rfl, rfl, by rw [sizeLine_eq]; decide, at_L0 hL, k H (Same.refl H)⟩
def N__law_row : List Str := ["pen", "most", "found", "kind", "turn", "some", "letter"]
theorem sc__law_row : FnScope N__law_row ["pen", "most"] (defScope s__law_row) := ⟨rfl, rfl, rfl, by decide +kernel, rfl, by decide +kernel, by decide +kernel⟩
theorem k__law_row (C : Ctx w K mg) : CallOk prg w K mg base 3 "_law_row" ["pen", "most"] spRowD := by
  have k__law_pick := k__law_pick (w := w) (base := base) C
  have k__law_draw := k__law_draw (w := w) (base := base) C
  have k__law_undo := k__law_undo (w := w) (base := base) C
  refine callOk (g__law_row C) (f__law_row C) sc__law_row (fun _ _ _ _ _ _ us hl => match us, hl with | [_, _], _ => rfl) (fun vs H Q E h => ?_) (fun cdv A outer s H vs Q E hr h => ?_)
  · obtain ⟨F, p, c, n, m, rfl, _⟩ := h
    rfl
  · obtain ⟨F, p, c, n, m, rfl, hm, hn, hP, k⟩ := h
    refine ⟨_, (pss_cons (ps_asg (pe_tupV (pa_cons pe_str (pa_cons (pe_callD k__law_pick (hr.mono (by decide)) passL (pa_cons (pv 0) (pa_cons (pe_lstV (pa_cons pe_str (pa_cons pe_str (pa_cons pe_str (pa_cons pe_str (pa_cons pe_str pa_nil)))))) pa_nil))) pa_nil))) (pg_tup rfl (pgs_cons (pg_name (i := 2) sc__law_row.nd rfl (Or.inr rfl)) (pgs_cons (pg_name (i := 3) sc__law_row.nd rfl (Or.inl rfl)) pgs_nil))))
  (pss_cons (ps_for (passes_of rfl) rfl (pi_range1 rfl (b_range C) (pa_cons (pe_callD k__law_draw (hr.mono (by decide)) passL (pa_cons (pv 0) (pa_cons (pe_op op_add (pv 1) pe_int) pa_nil))) pa_nil)) (pg_name (i := 4) sc__law_row.nd rfl (Or.inl rfl))
  (pss_cons (ps_setLc (i := 5) (own := [("letter", 6)]) (g := gName 6)  rfl sc__law_row.nd rfl rfl (sw_true rfl rfl rfl (by decide +kernel)) (pi_str (pv 3)) (blkOk_by (N := N__law_row) (sc := defScope s__law_row) (by decide +kernel)) (fun _ _ _ _ _ => (pg_name (i := 6) sc__law_row.nd rfl (Or.inl rfl))) (fun _ _ _ _ _ => pts_one (PW.pt (pw_or (pt_cmpR op_eq (pv 2) pe_str (nomark _)) (pw_or1 (pt_cmpR op_ne (pv 6) (pe_callD k__law_undo (hr.mono (by decide)) passL (pa_cons (pe_ix ix_str (pv 2) (pe_un un_neg pe_int) (fun _ _ => rfl)) pa_nil)) (nomark _)))))) (fun _ _ _ _ _ => (pv 6)))
  (pss_one (ps_set (i := 2) sc__law_row.nd rfl (Or.inr rfl) (pe_op op_add_str (pv 2) (pe_callD k__law_pick (hr.mono (by decide)) passL (pa_cons (pv 0) (pa_cons (pv 5) pa_nil))))))))
  (pss_one (ps_ret (pv 2))))), ?_⟩
    refine ⟨_, rfl, (by show 5 ≤ sizeLine; decide), fun l1 H1 n1 => ?_⟩
    obtain ⟨P1, s1, e1⟩ := hP.nw n1
    refine ⟨_, p, c, n, _, rfl, by omega, P1, .inl ⟨l1, _, rfl, e1, by simp, by decide, fun v H2 hv P2 => ?_⟩⟩
    have P3 := hP.back P2 s1
    obtain ⟨u, hu, rfl⟩ : ∃ u : List Nat, kindB u = true ∧ v = T u := by
      simp at hv
      rcases hv with rfl | rfl | rfl | rfl | rfl
      · exact ⟨[65, 66, 67, 68, 97, 98, 99, 100], by decide +kernel, rfl⟩
      · exact ⟨[65, 97, 98], by decide +kernel, rfl⟩
      · exact ⟨[65, 66, 97, 98], by decide +kernel, rfl⟩
      · exact ⟨[67, 99, 100, 66], by decide +kernel, rfl⟩
      · exact ⟨[65, 68], by decide +kernel, rfl⟩
    have hu3 := kindB_ok hu
    refine ⟨(by show 2 ≤ sizeLine; decide), fun tp H3 n3 => ⟨tp, _, rfl, SqT.of n3.at_, rfl, _, _, rfl, _, _, rfl, rfl, ?_⟩⟩
    have P4 := P3.ext n3.same
    obtain ⟨PA, sA⟩ := P4.all
    refine ⟨_, rfl, _, rfl, _, _, rfl, rfl, _, p, c, _, n + 1, rfl, by omega, by omega, by omega, PA, fun d H5 hd0 hd1 P5 => ?_⟩
    have P6 := P4.back P5 sA
    obtain ⟨x, rfl⟩ := Int.eq_ofNat_of_zero_le hd0
    have hx : x ≤ m := by omega
    refine ⟨(x : Int), rfl, by omega, by omega, ?_⟩
    refine for_by (fun i σ H => Pen F H p c (n + 2 + i) ∧ ∃ l a b, σ = [some (.ref p), some (.int (m : Nat)), some (T l), some (T u), a, b, none] ∧ Good l ∧ l.length ≤ i) (walk_range0 x) ⟨P6, [], none, none, rfl, good_nil, Nat.le_refl _⟩ ?_ ?_
    · intro i v σ H7 H8 hi hp hx'
      obtain ⟨P7, l, a, b, rfl, hg, hll⟩ := hp
      obtain ⟨eH, rfl⟩ := hx'
      rw [eH]
      refine ⟨_, rfl, tx u, rfl, fun D hD => ?_⟩
      refine lc_by hD (fun j acc H => Same H7 H ∧ acc = sglV ((u.take j).filter (fitB l))) (walk_str u) (fun H n => ⟨n.same, rfl⟩) ?_ ?_
      · intro j v acc Ha Hb hj hp hd hlen hx
        obtain ⟨sa, rfl⟩ := hp
        obtain ⟨rfl, cc, hcc, rfl⟩ := hx
        refine ⟨rfl, ?_⟩
        refine ⟨_, rfl, rfl, _, rfl, ?_⟩
        refine iteD (fun he => yesB ?_) (fun hne => ?_)
        · have e : l = [] := T_inj.mp (show T l = T [] from he)
          refine ⟨_, rfl, lc_put hd hlen (by omega) fun H9 w9 => ⟨w9.same sa hD, take_yes hcc ?_⟩⟩
          unfold fitB
          rw [e]
          rfl
        · have e : l ≠ [] := fun z => hne (by rw [z]; rfl)
          obtain ⟨d, hd'⟩ : ∃ d, l.getLast? = some d := by
            cases q : l.getLast? with
            | none => exact absurd (List.getLast?_eq_none_iff.mp q) e
            | some d => exact ⟨d, rfl⟩
          have hdL : isL d = true := good_allL hg d (List.mem_of_getLast? hd')
          have hcL : isL cc = true := hu3.2.1 cc (List.mem_of_getElem? hcc)
          refine ⟨_, rfl, _, rfl, 1, rfl, tx l, _, d, rfl, rfl, small_tx (by omega), atI_lastN hd', d, rfl, hdL, fun H9 s9 => ⟨rfl, _, rfl, ?_⟩⟩
          refine iteN (fun hn => ?_) (fun hy => ?_)
          · have hn2 : ¬ cc = und d := fun z => hn (by rw [z])
            have hf : fitB l cc = true := by
              unfold fitB
              have : ¬ d = und cc := fun z => hn2 (by rw [z, und_und hcL])
              simp [hd', this]
            exact ⟨_, rfl, lc_put (s9 _ _ hd) hlen (by omega) fun H10 w10 => ⟨w10.same (sa.trans s9) hD, take_yes hcc hf⟩⟩
          · have hy2 : cc = und d := by
              have := T_inj.mp (show T [cc] = T [und d] from hy)
              simpa using this
            have hf : fitB l cc = false := by
              unfold fitB
              have : d = und cc := by rw [hy2, und_und hdL]
              simp [hd', ← this, e]
            exact lc_skip (s9 _ _ hd) hlen ⟨sa.trans s9, take_no hcc hf⟩
      · intro acc Ha hp hd hlen
        obtain ⟨sa, rfl⟩ := hp
        rw [List.take_length] at hd
        have P8 := P7.ext sa
        obtain ⟨PB, sB⟩ := P8.all
        obtain ⟨op, hop⟩ := P7.at_
        have hDp : D ≠ p := (ne_of_none hop hD).symm
        refine ⟨_, rfl, _, rfl, _, rfl, _, p, c, n + 2 + i, _, rfl, by omega, PB, .inl ⟨D, _, rfl, offP_at hd hDp, fun z => ?_, by rw [sglV_len]; exact Nat.le_trans (List.length_filter_le _ _) (by omega), fun v H9 hv P9 => ?_⟩⟩
        · have := fit_some hg hu
          exact this (by simpa [sglV] using z)
        · obtain ⟨cc, hcc, rfl⟩ : ∃ cc, cc ∈ u.filter (fitB l) ∧ v = T [cc] := by
            obtain ⟨cc, hcc, e⟩ := List.mem_map.mp hv
            exact ⟨cc, hcc, e.symm⟩
          obtain ⟨hcu, hcf⟩ := List.mem_filter.mp hcc
          have P10 := P8.back P9 sB
          refine ⟨_, _, rfl, rfl, app_fits (by simp; omega), ?_⟩
          rw [tx_app]
          exact ⟨P10, l ++ [cc], _, _, rfl, good_put hg (hu3.2.1 cc hcu) hcf, by simp; omega⟩
    · intro σ H7 hp
      obtain ⟨P7, l, a, b, rfl, hg, hll⟩ := hp
      exact ⟨_, rfl, k l H7 (by omega) hg (P7.mono (by omega))⟩
def N__law_due : List Str := ["text", "items", "row", "sign", "at"]
theorem sc__law_due : FnScope N__law_due ["text"] (defScope s__law_due) := ⟨rfl, rfl, rfl, by decide +kernel, rfl, by decide +kernel, by decide +kernel⟩
theorem k__law_due (C : Ctx w K mg) : CallOk prg w K mg base 2 "_law_due" ["text"] spDue := by
  have k__law_undo := k__law_undo (w := w) (base := base) C
  refine callOk (g__law_due C) (f__law_due C) sc__law_due (fun _ _ _ _ _ _ us hl => match us, hl with | [_], _ => rfl) (fun vs H Q E h => ?_) (fun cdv A outer s H vs Q E hr h => ?_)
  · obtain ⟨l, rfl, _⟩ := h
    rfl
  · obtain ⟨l, rfl, hl, k⟩ := h
    refine ⟨_, (pss_cons (ps_set (i := 1) sc__law_due.nd rfl (Or.inl rfl) (pe_m1 PySem.F.slot_str_split PySem.F.type_str_split mt_splitB (pv 0) pe_str))
  (pss_cons (ps_set (i := 2) sc__law_due.nd rfl (Or.inr rfl) (pe_ifExp (pt_cmpR op_ne (pe_ix ix_list (pv 1) pe_int (fun _ _ => rfl)) pe_str (nomark _)) (pe_ix ix_list (pv 1) pe_int (fun _ _ => rfl)) pe_str))
  (pss_cons (ps_if (PW.pt (pw_or (pt_cmpR op_eq (pe_ix ix_list (pv 1) pe_int (fun _ _ => rfl)) pe_str (nomark _)) (pw_or1 (pt_cmpR (op_neD (hr.units)) (pe_lc (own := [("sign", 3)]) (g := gName 3)  rfl sc__law_due.nd (pi_str (pv 2)) (blkOk_by (N := N__law_due) (sc := defScope s__law_due) (by decide +kernel)) (fun _ _ _ _ _ => (pg_name (i := 3) sc__law_due.nd rfl (Or.inl rfl))) (fun _ _ _ _ _ => pts_one (pt_cmpR op_notIn_sign (pv 3) pe_str (by rfl))) (fun _ _ _ _ _ => pe_int)) (pe_lstV pa_nil) (nomark _)))))
  (pss_one (ps_ret pe_int))
  pss_nil)
  (pss_cons (ps_if (pt_cmpR (op_neD (hr.units)) (pe_lc (own := [("at", 4)]) (g := gName 4)  rfl sc__law_due.nd (pi_range2 rfl (b_range C) (pa_cons pe_int (pa_cons (pe_callB call_len (by rfl) (b_len C) PySem.boot_len (pa_cons (pv 2) pa_nil)) pa_nil))) (blkOk_by (N := N__law_due) (sc := defScope s__law_due) (by decide +kernel)) (fun _ _ _ _ _ => (pg_name (i := 4) sc__law_due.nd rfl (Or.inl rfl))) (fun _ _ _ _ _ => pts_one (pt_cmpR op_eq (pe_ix ix_str (pv 2) (pv 4) (fun _ _ => rfl)) (pe_callD k__law_undo (hr.mono (by decide)) passL (pa_cons (pe_ix ix_str (pv 2) (pe_op op_sub (pv 4) pe_int) (fun _ _ => rfl)) pa_nil)) (nomark _))) (fun _ _ _ _ _ => pe_int)) (pe_lstV pa_nil) (nomark _))
  (pss_one (ps_ret pe_int))
  pss_nil)
  (pss_one (ps_ret (pe_ifExp (pt_cmpR op_eq (pe_callB call_len (by rfl) (b_len C) PySem.boot_len (pa_cons (pv 1) pa_nil)) pe_int (nomark _)) (pv 2) pe_int))))))), ?_⟩
    refine ⟨_, rfl, ⟨_, rfl⟩, l, rfl, rfl, by omega, fun p H1 n1 => ?_⟩
    obtain ⟨i, r, hi⟩ : ∃ i r, itm l = i :: r := by
      cases e : itm l with
      | nil => exact absurd e (itm_ne l)
      | cons i r => exact ⟨i, r, rfl⟩
    have hat : atI ((itm l).map T) ((0 : Nat) : Int) = some (T i) := atI_nat (by rw [hi]; rfl)
    have hxs := SqL.of (K := K) n1.at_
    have hil := itm_head hi
    have hone : ((itm l).map T).length = r.length + 1 := by rw [hi]; simp
    obtain ⟨m, hm⟩ : ∃ m, m = rowOf i := ⟨_, rfl⟩
    have hml : m.length ≤ 4000 := by
      rw [hm]
      unfold rowOf
      split
      · exact Nat.zero_le _
      · omega
    refine ⟨_, rfl, p, _, _, _, rfl, rfl, hxs, hat, rfl, _, rfl, ?_⟩
    by_cases h45 : i = [45]
    case' pos =>
      have hm0 : m = [] := by rw [hm, h45]; rfl
      refine iteNS (by rw [h45]; rfl) ?_
      refine tC_eq (y := T m) (by rw [hm0]; rfl) ?_
    case' neg =>
      have hmi : m = i := by rw [hm]; exact if_neg h45
      refine iteNT (fun z => h45 (T_inj.mp (show T i = T [45] from z))) ?_
      refine ⟨_, rfl, p, _, _, _, rfl, rfl, hxs, hat, ?_⟩
      show gName 2 (T i) _ _ _
      rw [← hmi]
    all_goals
      refine ⟨_, rfl, p, _, _, _, rfl, rfl, hxs, hat, rfl, _, rfl, ?_⟩
      refine iteD (fun he => ?_) (fun hne => ?_)
      · rw [due_none hi (T_inj.mp (show T i = T [] from he))] at k
        exact yesB (k H1 n1.same)
      have hne' : i ≠ [] := fun z => hne (by rw [z]; rfl)
      refine ⟨_, rfl, tx m, rfl, fun D hD => ?_⟩
      refine lc_by hD (fun j acc H => Same H1 H ∧ acc = (ones (oddAt m) j).map V.int) (walk_str m) (fun H n => ⟨n.same, rfl⟩) ?_ ?_
      · intro j v acc Ha Hb hj hp hd hlen hx
        obtain ⟨sa, rfl⟩ := hp
        obtain ⟨rfl, cc, hcc, rfl⟩ := hx
        refine ⟨rfl, _, rfl, cc, _, rfl, rfl, _, rfl, ?_⟩
        refine iteN (fun hb => ?_) (fun hg => ?_)
        · exact lc_put hd hlen (by omega) fun H9 w9 => ⟨w9.same sa hD, ones_yes (by rw [oddAt_of hcc]; simp [isL, ABC, hb])⟩
        · exact lc_skip hd hlen ⟨sa, ones_no (by rw [oddAt_of hcc]; simp [isL, ABC, hg])⟩
      intro acc Ha hp hd hlen
      obtain ⟨sa, rfl⟩ := hp
      refine ⟨Nat.zero_le _, fun e1 Hb nb => ?_⟩
      have sb := n1.same.trans (sa.trans nb.same)
      refine rd_neNil (SqL.of (nb.same _ _ hd)) (SqL.of nb.at_) ⟨_, rfl, ?_⟩
      refine iteN (fun hodd => ?_) (fun hno => ?_)
      · obtain ⟨j, hj, hb⟩ := ones_some hodd
        rw [due_bad hi (by rw [← hm]; exact bad_of_odd hj hb)] at k
        exact k Hb sb
      have h1 := ones_nil hno
      refine ⟨_, rfl, _, m.length, rfl, ⟨small_tx (by omega), (len_tx m).symm⟩, 1, (m.length : Int), rfl, ⟨by decide, by decide, by omega, by omega⟩, fun D2 hD2 => ?_⟩
      refine lc_by hD2 (fun j acc H => Same Hb H ∧ acc = (ones (fun j => badAt m (j + 1)) j).map V.int) (walk_range 1 _) (fun H n => ⟨n.same, rfl⟩) ?_ ?_
      · intro j v acc Hc Hd hj hp hd2 hlen2 hx
        obtain ⟨sc, rfl⟩ := hp
        obtain ⟨rfl, rfl⟩ := hx
        have hj' : j + 1 < m.length := by omega
        obtain ⟨c1, hc1⟩ : ∃ c, m[j + 1]? = some c := ⟨m[j + 1], by simp [hj']⟩
        obtain ⟨c0, hc0⟩ : ∃ c, m[j]? = some c := ⟨m[j]'(by omega), by simp⟩
        have hL0 : isL c0 = true := by
          have := h1 j (by omega)
          rw [oddAt_of hc0] at this
          simpa using this
        have hL1 : isL c1 = true := by
          have := h1 (j + 1) hj'
          rw [oddAt_of hc1] at this
          simpa using this
        have i1 : atI (tx m).cps.toList ((1 : Int) + (j : Nat)) = some c1 := by
          have e : (1 : Int) + (j : Nat) = ((j + 1 : Nat) : Int) := by omega
          rw [e]
          exact atI_txt hc1
        have i0 : atI (tx m).cps.toList ((1 : Int) + (j : Nat) - 1) = some c0 := by
          have e : (1 : Int) + (j : Nat) - 1 = ((j : Nat) : Int) := by omega
          rw [e]
          exact atI_txt hc0
        have e1 := badAt_law hc1 hc0 hL1 hL0
        refine ⟨rfl, _, rfl, _, rfl, tx m, _, c1, rfl, rfl, small_tx (by omega), i1, _, rfl, _, rfl, _, _, rfl, rfl, tx m, _, c0, rfl, rfl, small_tx (by omega), i0, c0, rfl, hL0, fun H9 s9 => ⟨rfl, _, rfl, ?_⟩⟩
        refine iteD (fun heq => ?_) (fun hne2 => ?_)
        · have e2 : c1 = und c0 := by
            have := T_inj.mp (show T [c1] = T [und c0] from heq)
            simpa using this
          exact lc_put (s9 _ _ hd2) hlen2 (by omega) fun H10 w10 => ⟨w10.same (sc.trans s9) hD2, ones_yes (by rw [e1]; exact decide_eq_true e2)⟩
        · have e2 : ¬ c1 = und c0 := fun z => hne2 (by rw [z])
          exact lc_skip (s9 _ _ hd2) hlen2 ⟨sc.trans s9, ones_no (by rw [e1]; exact decide_eq_false e2)⟩
      intro acc Hc hp hd2 hlen2
      obtain ⟨sc, rfl⟩ := hp
      refine ⟨Nat.zero_le _, fun e2 He ne => ?_⟩
      have se := sb.trans (sc.trans ne.same)
      refine rd_neNil (SqL.of (ne.same _ _ hd2)) (SqL.of ne.at_) ⟨_, rfl, ?_⟩
      refine iteN (fun hadj => ?_) (fun hno2 => ?_)
      · obtain ⟨j, hj, hb⟩ := ones_some hadj
        rw [due_bad hi (by rw [← hm]; exact bad_of_adj (j := j + 1) (by omega) hb)] at k
        exact k He se
      have h2 := ones_nil hno2
      have hgood : firstBad m = none := good_parts h1 fun j hj => h2 j (by omega)
      rw [due_ok hi hl hne' (by rw [← hm]; exact hgood), ← hm] at k
      have hx3 : He p = some (.lst ((itm l).map T)) := (((sa.trans nb.same).trans sc).trans ne.same) _ _ n1.at_
      refine ⟨_, rfl, _, r.length + 1, rfl, .inl ⟨_, SqL.of hx3, hone.symm⟩, rfl, _, rfl, ?_⟩
      refine iteD (fun h1' => ?_) (fun h2' => ?_)
      · have hr0 : r = [] := by
          have z : (((r.length + 1 : Nat) : Int)) = 1 := by injection h1'
          exact List.length_eq_zero_iff.mp (by omega)
        have e3 : rdRow m r = .ok m := if_pos hr0
        rw [e3] at k
        exact ⟨_, rfl, k He se⟩
      · have hr0 : r ≠ [] := fun z => h2' (by rw [z]; rfl)
        have e3 : rdRow m r = .bad 1 := if_neg hr0
        rw [e3] at k
        exact k He se
def N__law_spoiled : List Str := ["pen", "text", "at", "sign", "way"]
theorem sc__law_spoiled : FnScope N__law_spoiled ["pen", "text"] (defScope s__law_spoiled) := ⟨rfl, rfl, rfl, by decide +kernel, rfl, by decide +kernel, by decide +kernel⟩
theorem k__law_spoiled (C : Ctx w K mg) : CallOk prg w K mg base 3 "_law_spoiled" ["pen", "text"] spSpoiled := by
  have k__law_pick := k__law_pick (w := w) (base := base) C
  have k__law_draw := k__law_draw (w := w) (base := base) C
  refine callOk (g__law_spoiled C) (f__law_spoiled C) sc__law_spoiled (fun _ _ _ _ _ _ us hl => match us, hl with | [_, _], _ => rfl) (fun vs H Q E h => ?_) (fun cdv A outer s H vs Q E hr h => ?_)
  · obtain ⟨F, p, c, n, l, rfl, _⟩ := h
    rfl
  · obtain ⟨F, p, c, n, l, rfl, hl, hn, hP, k⟩ := h
    refine ⟨_, (pss_cons (ps_par (i := 2) (j := 3) rfl sc__law_spoiled.nd rfl rfl (by decide) rfl rfl (pa_cons (pe_callD k__law_draw (hr.mono (by decide)) passL (pa_cons (pv 0) (pa_cons (pe_op op_add (pe_callB call_len (by rfl) (b_len C) PySem.boot_len (pa_cons (pv 1) pa_nil)) pe_int) pa_nil))) (pa_cons (pe_callD k__law_pick (hr.mono (by decide)) passL (pa_cons (pv 0) (pa_cons (pe_lstV (pa_cons pe_str (pa_cons pe_str (pa_cons pe_str (pa_cons pe_str (pa_cons pe_str (pa_cons pe_str (pa_cons pe_str (pa_cons pe_str (pa_cons pe_str (pa_cons pe_str (pa_cons pe_str (pa_cons pe_str (pa_cons pe_str pa_nil)))))))))))))) pa_nil))) pa_nil)) (by rfl))
  (pss_cons (ps_set (i := 4) sc__law_spoiled.nd rfl (Or.inl rfl) (pe_callD k__law_draw (hr.mono (by decide)) passL (pa_cons (pv 0) (pa_cons pe_int pa_nil))))
  (pss_cons (ps_if (pt_cmpR op_eq (pv 4) pe_int (nomark _))
  (pss_one (ps_ret (pe_op op_add_str (pe_op op_add_str (pe_slice sl_str (pv 1) po_none (po_some (pv 2))) (pv 3)) (pe_slice sl_str (pv 1) (po_some (pv 2)) po_none))))
  pss_nil)
  (pss_cons (ps_if (pt_cmpR op_eq (pv 4) pe_int (nomark _))
  (pss_one (ps_ret (pe_op op_add_str (pe_op op_add_str (pe_slice sl_str (pv 1) po_none (po_some (pv 2))) (pv 3)) (pe_slice sl_str (pv 1) (po_some (pe_op op_add (pv 2) pe_int)) po_none))))
  pss_nil)
  (pss_cons (ps_if (pt_cmpR op_eq (pv 4) pe_int (nomark _))
  (pss_one (ps_ret (pe_op op_add_str (pe_slice sl_str (pv 1) po_none (po_some (pv 2))) (pe_slice sl_str (pv 1) (po_some (pe_op op_add (pv 2) pe_int)) po_none))))
  pss_nil)
  (pss_one (ps_ret (pe_ifExp (pt_cmpR op_eq (pv 4) pe_int (nomark _)) (pe_op op_add_str (pe_op op_add_str (pv 1) pe_str) (pe_callD k__law_pick (hr.mono (by decide)) passL (pa_cons (pv 0) (pa_cons (pe_lstV (pa_cons pe_str (pa_cons pe_str (pa_cons pe_str (pa_cons pe_str pa_nil))))) pa_nil)))) (pe_op op_add_str (pv 3) (pv 1)))))))))), ?_⟩
    have hsl := small_tx (l := l) (by omega)
    obtain ⟨PA, sA⟩ := hP.all
    refine ⟨_, rfl, _, rfl, _, l.length, rfl, ⟨hsl, (len_tx l).symm⟩, _, _, rfl, rfl, _, p, c, _, n, rfl, by omega, by omega, by omega, PA, fun d H1 hd0 hd1 P1 => ?_⟩
    have P2 := hP.back P1 sA
    obtain ⟨a, rfl⟩ := Int.eq_ofNat_of_zero_le hd0
    have ha : a ≤ l.length := by omega
    refine ⟨_, rfl, (by show 13 ≤ sizeLine; decide), fun l1 H3 n3 => ?_⟩
    obtain ⟨P4, s4, e4⟩ := P2.nw n3
    refine ⟨_, p, c, n + 1, _, rfl, by omega, P4, .inl ⟨l1, _, rfl, e4, by simp, by decide, fun v H5 hv P5 => ?_⟩⟩
    have P6 := P2.back P5 s4
    obtain ⟨g, hg, rfl⟩ : ∃ g : List Nat, g.length ≤ 2 ∧ v = T g := by
      simp at hv
      rcases hv with rfl | rfl | rfl | rfl | rfl | rfl | rfl | rfl | rfl | rfl | rfl | rfl | rfl
      · exact ⟨[65], by decide, rfl⟩
      · exact ⟨[97], by decide, rfl⟩
      · exact ⟨[66], by decide, rfl⟩
      · exact ⟨[100], by decide, rfl⟩
      · exact ⟨[32], by decide, rfl⟩
      · exact ⟨[45], by decide, rfl⟩
      · exact ⟨[69], by decide, rfl⟩
      · exact ⟨[49], by decide, rfl⟩
      · exact ⟨[32, 32], by decide, rfl⟩
      · exact ⟨[46], by decide, rfl⟩
      · exact ⟨[45, 32], by decide, rfl⟩
      · exact ⟨[10], by decide, rfl⟩
      · exact ⟨[9], by decide, rfl⟩
    refine ⟨_, _, rfl, ?_⟩
    have c1 : cutS (tx l) none (some (a : Int)) = tx (l.take a) := cutS_to l a ha
    have c2 : cutS (tx l) (some (a : Int)) none = tx (l.drop a) := cutS_from' l a
    have c3 : cutS (tx l) (some ((a : Int) + 1)) none = tx (l.drop (a + 1)) := cutS_from' l (a + 1)
    obtain ⟨PB, sB⟩ := P6.all
    refine ⟨_, rfl, _, p, c, _, n + 2, rfl, by decide, by decide, by omega, PB, fun y H7 hy0 hy1 P7 => ?_⟩
    have P8 := P6.back P7 sB
    refine ⟨_, rfl, rfl, _, rfl, ?_⟩
    refine iteD (fun h0 => ?_) (fun h0 => ?_)
    · refine ⟨_, rfl, _, rfl, _, rfl, tx l, rfl, hsl, ?_⟩
      rw [c1]
      refine ⟨_, rfl, _, _, rfl, rfl, app_fits (by rw [List.length_take]; omega), ?_⟩
      rw [tx_app]
      refine ⟨_, rfl, _, rfl, _, rfl, tx l, rfl, hsl, ?_⟩
      rw [c2]
      refine ⟨_, _, rfl, rfl, app_fits (by rw [List.length_append, List.length_take, List.length_drop]; omega), ?_⟩
      rw [tx_app]
      exact k _ H7 (by rw [List.length_append, List.length_append, List.length_take, List.length_drop]; omega) (P8.mono (by omega))
    refine ⟨_, rfl, rfl, _, rfl, ?_⟩
    refine iteD (fun h1 => ?_) (fun h1 => ?_)
    · refine ⟨_, rfl, _, rfl, _, rfl, tx l, rfl, hsl, ?_⟩
      rw [c1]
      refine ⟨_, rfl, _, _, rfl, rfl, app_fits (by rw [List.length_take]; omega), ?_⟩
      rw [tx_app]
      refine ⟨_, rfl, _, rfl, _, _, rfl, rfl, _, rfl, tx l, rfl, hsl, ?_⟩
      rw [c3]
      refine ⟨_, _, rfl, rfl, app_fits (by rw [List.length_append, List.length_take, List.length_drop]; omega), ?_⟩
      rw [tx_app]
      exact k _ H7 (by rw [List.length_append, List.length_append, List.length_take, List.length_drop]; omega) (P8.mono (by omega))
    refine ⟨_, rfl, rfl, _, rfl, ?_⟩
    refine iteD (fun h2 => ?_) (fun h2 => ?_)
    · refine ⟨_, rfl, _, rfl, _, rfl, tx l, rfl, hsl, ?_⟩
      rw [c1]
      refine ⟨_, rfl, _, rfl, _, _, rfl, rfl, _, rfl, tx l, rfl, hsl, ?_⟩
      rw [c3]
      refine ⟨_, _, rfl, rfl, app_fits (by rw [List.length_take, List.length_drop]; omega), ?_⟩
      rw [tx_app]
      exact k _ H7 (by rw [List.length_append, List.length_take, List.length_drop]; omega) (P8.mono (by omega))
    refine ⟨_, rfl, rfl, _, rfl, ?_⟩
    refine iteD (fun h3 => ?_) (fun h3 => ?_)
    · refine ⟨_, rfl, _, _, rfl, rfl, app_fits (b := [32]) (by simp; omega), ?_⟩
      have hda : tx l ++ (" " : Str) = tx (l ++ [32]) := tx_app _ [32]
      rw [hda]
      refine ⟨_, rfl, (by show 4 ≤ sizeLine; decide), fun l2 H9 n9 => ?_⟩
      obtain ⟨P10, s10, e10⟩ := P8.nw n9
      refine ⟨_, p, c, n + 3, _, rfl, by omega, P10, .inl ⟨l2, _, rfl, e10, by simp, by decide, fun v H11 hv P11 => ?_⟩⟩
      have P12 := P8.back P11 s10
      obtain ⟨q, hq, rfl⟩ : ∃ q : List Nat, q.length ≤ 1 ∧ v = T q := by
        simp at hv
        rcases hv with rfl | rfl | rfl | rfl
        · exact ⟨[45], by decide, rfl⟩
        · exact ⟨[65], by decide, rfl⟩
        · exact ⟨[], by decide, rfl⟩
        · exact ⟨[69], by decide, rfl⟩
      refine ⟨_, _, rfl, rfl, app_fits (by rw [List.length_append]; simp; omega), ?_⟩
      rw [tx_app]
      exact k _ H11 (by rw [List.length_append, List.length_append]; simp; omega) P12
    · refine ⟨_, rfl, _, rfl, _, _, rfl, rfl, app_fits (by omega), ?_⟩
      rw [tx_app]
      exact k _ H7 (by rw [List.length_append]; omega) (P8.mono (by omega))
end
end K06

end
section
set_option maxHeartbeats 1000000
namespace K06
open PySem PySem.Spec PyProof.Rows L2 SBX SB LamX
section
variable {w : World} {K : PySem.W.Frag} {mg : Str → Option Value} {base : Heap}
def N__law_text_right : List Str := ["text", "due", "caught", "word"]
theorem sc__law_text_right : FnScope N__law_text_right ["text"] (defScope s__law_text_right) := ⟨rfl, rfl, rfl, by decide +kernel, rfl, by decide +kernel, by decide +kernel⟩
def spTextRight (K : PySem.W.Frag) : Sp := fun vs H Q _ => ∃ l, vs = [T l] ∧ l.length ≤ 4000 ∧ Tabs (TT K) H ∧ ∀ H', ExtN H H' → Tabs (TT K) H' → Q (.bl true) H'
theorem k__law_text_right (C : Ctx w K mg) (TB : TabB base mg (He.cT K ("_law_text_right", none)).1 (He.cT K ("_law_text_right", none)).2) : CallOk prg w K mg base 9 "_law_text_right" ["text"] (spTextRight K) := by
  have k__law_due := k__law_due (w := w) (base := base) C
  have k_Word_read := k_Word_read (w := w) (base := base) C
  have k_Word___str__ := k_Word___str__ (w := w) (base := base) C
  have HM : (((He.cT K ("_law_text_right", none)).2, ("_law_text_right" : Str) ++ (".<locals>." : Str) ++ ("<lambda>" : Str)) : Addr × Str) ∈ TT K := List.mem_map.mpr ⟨(("_law_text_right" : Str), none), by simp [tf], rfl⟩
  have HU := hu_of (tt_nd C) HM
  refine callOkL (g__law_text_right C) (f__law_text_right C) sc__law_text_right (fun _ _ _ _ _ _ us hl => match us, hl with | [_], _ => rfl) (fun vs H Q E h => ?_) (fun A outer s H vs Q E hr h => ?_)
  · obtain ⟨l, rfl, _⟩ := h
    rfl
  · obtain ⟨l, rfl, hl, hT, k⟩ := h
    refine ⟨_, (pss_cons (ps_par (i := 1) (j := 2) rfl sc__law_text_right.nd rfl rfl (by decide) rfl rfl (pa_cons (pe_callD k__law_due (hr.mono (by decide)) passL (pa_cons (pv 0) pa_nil)) (pa_cons (pe_heard (k := 6) C TB rfl HM HU (hr.mono (by decide)) (show LamS (defScope s__law_text_right) _ from lamS_by (by decide +kernel)) (fun A outer s H E f c' hr hx => (pe_smethR (pe_glob (v := .ref (He.ga K "Word")) rfl (g_Word C) rfl) (st_Word_read C) (callStX k_Word_read (hr.mono (by decide)) hx) k_Word_read.kp (pa_cons (pv 0) pa_nil)))) pa_nil)) (by rfl))
  (pss_cons (ps_if (pt_val (pe_callB call_isZ (by rfl) (b_isinstance C) (by decide +kernel) (pa_cons (pv 1) (pa_cons (pe_bltn (v := .ty "int") rfl (b_int C) (by decide +kernel) rfl) pa_nil))))
  (pss_one (ps_ret (pe_and (pe_callB call_isZ (by rfl) (b_isinstance C) (by decide +kernel) (pa_cons (pv 2) (pa_cons (pe_glob (v := .ref (He.ga K "BadText")) rfl (g_BadText C) rfl) pa_nil))) (pe_and (pe_cmpR op_eq (pe_xh (pv 2)) (pv 1) (nomark _)) (pe_and (pe_cmpR op_notFalse (pe_xh (pv 2)) pe_bl (nomark _)) (pe_one (pe_cmpR op_notFalse (pe_xh (pv 2)) pe_bl (nomark _))))))))
  pss_nil)
  (pss_cons (ps_if (pt_cmpR op_notN (pv 2) pe_non (nomark _))
  (pss_one (ps_ret pe_bl))
  pss_nil)
  (pss_cons (ps_set (i := 3) sc__law_text_right.nd rfl (Or.inl rfl) (pe_smethRK (pe_glob (v := .ref (He.ga K "Word")) rfl (g_Word C) rfl) (st_Word_read C) (callStKX k_Word_read (hr.mono (by decide)) passE) k_Word_read.kp (pk_cons (pv 0) pk_nil)))
  (pss_one (ps_ret (pe_and (pe_callB call_isZ (by rfl) (b_isinstance C) (by decide +kernel) (pa_cons (pv 3) (pa_cons (pe_glob (v := .ref (He.ga K "Word")) rfl (g_Word C) rfl) pa_nil))) (pe_and (pe_cmpR op_eq (pe_fld (pv 3) rfl) (pv 1) (nomark _)) (pe_one (pe_cmpR op_eq (pe_callTy (call_strO k_Word___str__ (hr.mono (by decide)) passL) (by rfl) (b_str C) (by decide +kernel) (pa_cons (pv 3) pa_nil)) (pv 0) (nomark _))))))))))), ?_⟩
    have hno : PySem.W.findIn K (.ref (He.ga K "BadText")) "item" = some none := (o_BadText (w := w) C).T.noN "item" List.mem_cons_self
    refine ⟨_, rfl, l, rfl, hl, fun H1 s1 => ⟨hT.ext s1, fun H2 e2 t2 => ?_⟩⟩
    cases hr : readRes l with
    | bad v =>
      refine ⟨_, rfl, _, rfl, .inl ⟨l, rfl, by omega, RdR.bad_ hr ?_⟩⟩
      refine heard_rz (K := K) (CS := He.ga K "BallError") (xm_BadText_BallError C) (fun a H3 s3 x3 => ?_)
      obtain ⟨d, ha, hd⟩ := x3
      refine ⟨_, _, rfl, ?_⟩
      refine ⟨_, rfl, _, _, _, .type "int", true, rfl, .ty _, .base (.base (.int _)), kit_ty (by decide +kernel), _, rfl, iteT ?_⟩
      refine ⟨_, rfl, _, _, .ref (He.ga K "BadText"), _, true, rfl, .own _, ExcAt.ty ha hd (xc_BadText C), is_BadText_BadText C, _, rfl, iteT ?_⟩
      refine ⟨_, rfl, a, _, d, _, _, rfl, ha, xf_BadText C, hno, hd, lk_self, _, rfl, rfl, _, rfl, iteDT rfl ?_⟩
      refine ⟨_, rfl, a, _, d, _, _, rfl, ha, xf_BadText C, hno, hd, lk_self, _, _, rfl, rfl, _, rfl, iteT ?_⟩
      refine ⟨_, rfl, a, _, d, _, _, rfl, ha, xf_BadText C, hno, hd, lk_self, _, _, rfl, rfl, ?_⟩
      exact k H3 ((ExtN.ofSame s1).trans (e2.trans (ExtN.ofSame s3))) (t2.ext s3)
    | ok m =>
      obtain ⟨ht, hmb, hm4⟩ := readRes_ok hr
      refine ⟨_, rfl, _, rfl, .inl ⟨l, rfl, by omega, RdR.ok_ hr (fun a H3 s3 n3 w3 => ⟨_, rfl, _, _, rfl, ?_⟩)⟩⟩
      refine ⟨_, rfl, _, _, _, .type "int", false, rfl, .ty _, ty_txt _, kit_ty (by decide +kernel), _, rfl, iteF ?_⟩
      refine ⟨_, rfl, rfl, _, rfl, iteNS rfl ?_⟩
      refine ⟨_, rfl, rfl, rfl, _, rfl, .inl ⟨l, rfl, by omega, RdR.ok_ hr (fun a2 H4 s4 n4 w4 => ?_)⟩⟩
      obtain ⟨dx, ha4, _⟩ := id w4
      refine ⟨_, rfl, _, _, .ref (He.ga K "Word"), _, true, rfl, .own _, (ty_Word C).ins (cl_Word C) ha4, is_Word_Word C, _, rfl, iteT ?_⟩
      refine ⟨_, rfl, a2, _, dx, _, _, rfl, ha4, cl_Word C, na_Word_letters C, wf_letters m, _, rfl, rfl, _, rfl, iteDT rfl ?_⟩
      refine ⟨_, rfl, a2, dx, _, rfl, ha4, a2, m, rfl, w4, fun H5 s5 => ⟨_, rfl, _, rfl, ?_⟩⟩
      have s35 := (s3.trans s4).trans s5
      have := k H5 ((ExtN.ofSame s1).trans (e2.trans (ExtN.ofSame s35))) (t2.ext s35)
      rw [ht]
      refine ⟨rfl, ?_⟩
      show Q (.bl (decide (T l = T l))) H5
      rw [decide_eq_true rfl]
      exact this
def N__law_long_right : List Str := ["text", "caught"]
theorem sc__law_long_right : FnScope N__law_long_right ["text"] (defScope s__law_long_right) := ⟨rfl, rfl, rfl, by decide +kernel, rfl, by decide +kernel, by decide +kernel⟩
def spLong (K : PySem.W.Frag) : Sp := fun vs H Q _ => ∃ l, vs = [T l] ∧ l.length ≤ 4001 ∧ l ≠ [] ∧ SB.Good l ∧ Tabs (TT K) H ∧ ∀ H', ExtN H H' → Tabs (TT K) H' → Q (.bl true) H'
theorem k__law_long_right (C : Ctx w K mg) (TB : TabB base mg (He.cT K ("_law_long_right", none)).1 (He.cT K ("_law_long_right", none)).2) : CallOk prg w K mg base 9 "_law_long_right" ["text"] (spLong K) := by
  have k_Word_read := k_Word_read (w := w) (base := base) C
  have HM : (((He.cT K ("_law_long_right", none)).2, ("_law_long_right" : Str) ++ (".<locals>." : Str) ++ ("<lambda>" : Str)) : Addr × Str) ∈ TT K := List.mem_map.mpr ⟨(("_law_long_right" : Str), none), by simp [tf], rfl⟩
  have HU := hu_of (tt_nd C) HM
  refine callOkL (g__law_long_right C) (f__law_long_right C) sc__law_long_right (fun _ _ _ _ _ _ us hl => match us, hl with | [_], _ => rfl) (fun vs H Q E h => ?_) (fun A outer s H vs Q E hr h => ?_)
  · obtain ⟨l, rfl, _⟩ := h
    rfl
  · obtain ⟨l, rfl, hl, hne, hG, hT, k⟩ := h
    refine ⟨_, (pss_cons (ps_set (i := 1) sc__law_long_right.nd rfl (Or.inl rfl) (pe_heard (k := 6) C TB rfl HM HU (hr.mono (by decide)) (show LamS (defScope s__law_long_right) _ from lamS_by (by decide +kernel)) (fun A outer s H E f c' hr hx => (pe_smethR (pe_glob (v := .ref (He.ga K "Word")) rfl (g_Word C) rfl) (st_Word_read C) (callStX k_Word_read (hr.mono (by decide)) hx) k_Word_read.kp (pa_cons (pv 0) pa_nil)))))
  (pss_cons (ps_if (pt_cmpR op_gt (pe_callB call_len (by rfl) (b_len C) PySem.boot_len (pa_cons (pv 0) pa_nil)) pe_int (nomark _))
  (pss_one (ps_ret (pe_and (pe_callB call_isZ (by rfl) (b_isinstance C) (by decide +kernel) (pa_cons (pv 1) (pa_cons (pe_glob (v := .ref (He.ga K "BadText")) rfl (g_BadText C) rfl) pa_nil))) (pe_one (pe_cmpR op_eq (pe_xh (pv 1)) pe_int (nomark _))))))
  pss_nil)
  (pss_one (ps_ret (pe_and (pe_cmpR op_isN (pv 1) pe_non (nomark _)) (pe_one (pe_cmpR op_eq (pe_fld (pe_smethR (pe_glob (v := .ref (He.ga K "Word")) rfl (g_Word C) rfl) (st_Word_read C) (callStX k_Word_read (hr.mono (by decide)) passE) k_Word_read.kp (pa_cons (pv 0) pa_nil)) rfl) (pv 0) (nomark _)))))))), ?_⟩
    have hno : PySem.W.findIn K (.ref (He.ga K "BadText")) "item" = some none := (o_BadText (w := w) C).T.noN "item" List.mem_cons_self
    have hit : itm l = l :: [] := itm_plain (good_no32 hG)
    refine ⟨hT, fun H2 e2 t2 => ?_⟩
    by_cases h4 : 4000 < l.length
    · have hr := readRes_bad hit (good_no45 hG) (.inr (.inr h4))
      refine ⟨_, rfl, _, rfl, .inl ⟨l, rfl, by omega, RdR.bad_ hr ?_⟩⟩
      refine heard_rz (K := K) (CS := He.ga K "BallError") (xm_BadText_BallError C) (fun a H3 s3 x3 => ?_)
      obtain ⟨d, ha, hd⟩ := x3
      refine ⟨_, rfl, _, l.length, rfl, ⟨small_tx (by omega), (len_tx l).symm⟩, _, _, rfl, rfl, _, rfl, ?_⟩
      refine iteDT (show (4000 : Int) < (l.length : Nat) by omega) ?_
      refine ⟨_, rfl, _, _, .ref (He.ga K "BadText"), _, true, rfl, .own _, ExcAt.ty ha hd (xc_BadText C), is_BadText_BadText C, _, rfl, iteT ?_⟩
      refine ⟨_, rfl, a, _, d, _, _, rfl, ha, xf_BadText C, hno, hd, lk_self, rfl, ?_⟩
      exact k H3 (e2.trans (ExtN.ofSame s3)) (t2.ext s3)
    · have hr : readRes l = .ok l := (readRes_row hit (good_no45 hG) hne (firstBad_good hG) (by omega)).trans (if_pos rfl)
      refine ⟨_, rfl, _, rfl, .inl ⟨l, rfl, by omega, RdR.ok_ hr (fun a H3 s3 n3 w3 => ⟨_, rfl, ?_⟩)⟩⟩
      refine ⟨_, rfl, _, l.length, rfl, ⟨small_tx (by omega), (len_tx l).symm⟩, _, _, rfl, rfl, _, rfl, ?_⟩
      refine iteDF (show ¬ (4000 : Int) < (l.length : Nat) by omega) ?_
      refine ⟨_, rfl, rfl, _, rfl, iteDT rfl ?_⟩
      refine ⟨_, rfl, _, rfl, .inl ⟨l, rfl, by omega, RdR.ok_ hr (fun a2 H4 s4 n4 w4 => ?_)⟩⟩
      obtain ⟨dx, ha4, _⟩ := id w4
      refine ⟨a2, _, dx, _, _, rfl, ha4, cl_Word C, na_Word_letters C, wf_letters l, _, rfl, ?_⟩
      refine ⟨rfl, ?_⟩
      show Q (.bl (decide (T l = T l))) H4
      rw [decide_eq_true rfl]
      exact k H4 (e2.trans (ExtN.ofSame (s3.trans s4))) (t2.ext (s3.trans s4))
end
end K06

end
section
set_option maxHeartbeats 1000000
namespace K06
open PySem PySem.Spec PyProof.Rows L2 SBX SB LamX
section
variable {w : World} {K : PySem.W.Frag} {mg : Str → Option Value} {base : Heap}
def N_law : List Str := ["script", "pen", "turn", "row", "word", "odd", "caught", "many"]
theorem sc_law : FnScope N_law ["script"] (defScope s_law) := ⟨rfl, rfl, rfl, by decide +kernel, rfl, by decide +kernel, by decide +kernel⟩
def spLaw (K : PySem.W.Frag) : Sp := fun vs H Q _ => ∃ a ns, vs = [.ref a] ∧ SqL K H a (List.map V.int ns) ∧ ns.length ≤ 63 ∧ Tabs (TT K) H ∧ ∀ H', Q (.bl true) H'
theorem ok_law (C : Ctx w K mg) (TBs : ∀ p ∈ tf, TabB base mg (He.cT K p).1 (He.cT K p).2) {fd : FuncData} (FL : FunD K "law" "law" (defArgs s_law) (defBody s_law) (defScope s_law) [] [] (He.ga K "law") fd) : FnOk prg w K mg base (L2.CX prg w) 10 (He.ga K "law") fd ["script"] (spLaw K) := by
  have k__law_pen := k__law_pen (w := w) (base := base) C
  have k__law_row := k__law_row (w := w) (base := base) C
  have k__law_pick := k__law_pick (w := w) (base := base) C
  have k__law_draw := k__law_draw (w := w) (base := base) C
  have k__law_spoiled := k__law_spoiled (w := w) (base := base) C
  have k__law_text_right := k__law_text_right (w := w) (base := base) C (TBs _ (by simp [tf]))
  have k__law_long_right := k__law_long_right (w := w) (base := base) C (TBs _ (by simp [tf]))
  have k_Word := k_Word (w := w) (base := base) C
  have k_Word_read := k_Word_read (w := w) (base := base) C
  have k_Word___str__ := k_Word___str__ (w := w) (base := base) C
  have k_Word___eq__ := k_Word___eq__ (w := w) (base := base) C
  have TB : TabB base mg (He.cT K ("law", none)).1 (He.cT K ("law", none)).2 := TBs _ (by simp [tf])
  have HM : (((He.cT K ("law", none)).2, ("law" : Str) ++ (".<locals>." : Str) ++ ("<lambda>" : Str)) : Addr × Str) ∈ TT K := List.mem_map.mpr ⟨(("law" : Str), none), by simp [tf], rfl⟩
  have HU := hu_of (tt_nd C) HM
  refine fnOkL FL sc_law (fun vs H Q E h => ?_) (fun A outer s H vs Q E hr h => ?_)
  · obtain ⟨a, ns, rfl, _⟩ := h
    rfl
  · obtain ⟨a, ns, rfl, ha, hlen, hT, k⟩ := h
    refine ⟨_, (pss_cons (ps_set (i := 1) sc_law.nd rfl (Or.inr rfl) (pe_callD k__law_pen (hr.mono (by decide)) passL (pa_cons (pv 0) pa_nil)))
  (pss_cons (ps_for (passes_of rfl) rfl (pi_range1 rfl (b_range C) (pa_cons pe_int pa_nil)) (pg_name (i := 2) sc_law.nd rfl (Or.inl rfl))
  (pss_cons (ps_set (i := 3) sc_law.nd rfl (Or.inl rfl) (pe_callD k__law_row (hr.mono (by decide)) passL (pa_cons (pv 1) (pa_cons pe_int pa_nil))))
  (pss_cons (ps_set (i := 4) sc_law.nd rfl (Or.inl rfl) (pe_callRef (callW1X k_Word (hr.mono (by decide)) passE) (g_Word C) (mk_Word C).kp (pa_cons (pv 3) pa_nil)))
  (pss_cons (ps_if (PW.pt (pw_or (pt_cmpR op_ne (pe_callTy (call_strO k_Word___str__ (hr.mono (by decide)) passL) (by rfl) (b_str C) (by decide +kernel) (pa_cons (pv 4) pa_nil)) (pe_ifExp (pt_cmpR op_ne (pv 3) pe_str (nomark _)) (pv 3) pe_str) (nomark _)) (pw_or1 (pt_cmpR (op_neC k_Word___eq__ (ty_Word C) (ne_Word C) (hr.mono (by decide)) passL) (pe_smethR (pe_glob (v := .ref (He.ga K "Word")) rfl (g_Word C) rfl) (st_Word_read C) (callStX k_Word_read (hr.mono (by decide)) passE) k_Word_read.kp (pa_cons (pe_callTy (call_strO k_Word___str__ (hr.mono (by decide)) passL) (by rfl) (b_str C) (by decide +kernel) (pa_cons (pv 4) pa_nil)) pa_nil)) (pv 4) (nomark _)))))
  (pss_one (ps_ret pe_bl))
  pss_nil)
  (pss_one (ps_if (PW.pt (pw_or (pt_not (pt_val (pe_callD k__law_text_right (hr.mono (by decide)) passL (pa_cons (pe_callD k__law_spoiled (hr.mono (by decide)) passL (pa_cons (pv 1) (pa_cons (pe_callTy (call_strO k_Word___str__ (hr.mono (by decide)) passL) (by rfl) (b_str C) (by decide +kernel) (pa_cons (pv 4) pa_nil)) pa_nil))) pa_nil)))) (pw_or1 (pt_not (pt_val (pe_callD k__law_text_right (hr.mono (by decide)) passL (pa_cons (pe_callTy (call_strO k_Word___str__ (hr.mono (by decide)) passL) (by rfl) (b_str C) (by decide +kernel) (pa_cons (pv 4) pa_nil)) pa_nil)))))))
  (pss_one (ps_ret pe_bl))
  pss_nil))))))
  (pss_cons (ps_set (i := 5) sc_law.nd rfl (Or.inr rfl) (pe_callD k__law_pick (hr.mono (by decide)) passL (pa_cons (pv 1) (pa_cons (pe_lstV (pa_cons pe_non (pa_cons pe_int (pa_cons pe_bl (pa_cons (pe_lstV (pa_cons pe_str pa_nil)) (pa_cons (pe_tupV (pa_cons pe_str pa_nil)) (pa_cons (pe_callRef (callW1X k_Word (hr.mono (by decide)) passE) (g_Word C) (mk_Word C).kp (pa_cons pe_str pa_nil)) (pa_cons pe_dnewK (pa_cons pe_int pa_nil))))))))) pa_nil))))
  (pss_cons (ps_set (i := 6) sc_law.nd rfl (Or.inl rfl) (pe_heard (k := 6) C TB rfl HM HU (hr.mono (by decide)) (show LamS (defScope s_law) _ from lamS_by (by decide +kernel)) (fun A outer s H E f c' hr hx => (pe_smethR (pe_glob (v := .ref (He.ga K "Word")) rfl (g_Word C) rfl) (st_Word_read C) (callStX k_Word_read (hr.mono (by decide)) hx) k_Word_read.kp (pa_cons (pv 5) pa_nil)))))
  (pss_cons (ps_if (PW.pt (pw_or (pt_not (pt_val (pe_callB call_isZ (by rfl) (b_isinstance C) (by decide +kernel) (pa_cons (pv 6) (pa_cons (pe_glob (v := .ref (He.ga K "BadText")) rfl (g_BadText C) rfl) pa_nil))))) (pw_or (pt_cmpR op_ne (pe_xh (pv 6)) pe_int (nomark _)) (pw_or1 (pt_cmpR op_isFalse (pe_xh (pv 6)) pe_bl (nomark _))))))
  (pss_one (ps_ret pe_bl))
  pss_nil)
  (pss_cons (ps_if (pt_cmpR op_eq (pe_callD k__law_draw (hr.mono (by decide)) passL (pa_cons (pv 1) (pa_cons pe_int pa_nil))) pe_int (nomark _))
  (pss_cons (ps_set (i := 7) sc_law.nd rfl (Or.inl rfl) (pe_op op_add pe_int (pe_callD k__law_draw (hr.mono (by decide)) passL (pa_cons (pv 1) (pa_cons pe_int pa_nil)))))
  (pss_one (ps_if (pt_not (pt_val (pe_callD k__law_long_right (hr.mono (by decide)) passL (pa_cons (pe_slice sl_str (pe_op op_mulText (pe_callD k__law_pick (hr.mono (by decide)) passL (pa_cons (pv 1) (pa_cons (pe_lstV (pa_cons pe_str (pa_cons pe_str (pa_cons pe_str pa_nil)))) pa_nil))) (pv 7)) po_none (po_some (pv 7))) pa_nil))))
  (pss_one (ps_ret pe_bl))
  pss_nil)))
  pss_nil)
  (pss_cons (ps_set (i := 6) sc_law.nd rfl (Or.inl rfl) (pe_heard (k := 6) C TB rfl HM HU (hr.mono (by decide)) (show LamS (defScope s_law) _ from lamS_by (by decide +kernel)) (fun A outer s H E f c' hr hx => (pe_callRef (callW1X k_Word (hr.mono (by decide)) hx) (g_Word C) (mk_Word C).kp (pa_cons (pe_callD k__law_pick (hr.mono (by decide)) passL (pa_cons (pv 1) (pa_cons (pe_lstV (pa_cons pe_str (pa_cons pe_str (pa_cons pe_str pa_nil)))) pa_nil))) pa_nil)))))
  (pss_one (ps_ret (pe_and (pe_callB call_isZ (by rfl) (b_isinstance C) (by decide +kernel) (pa_cons (pv 6) (pa_cons (pe_glob (v := .ref (He.ga K "BadWord")) rfl (g_BadWord C) rfl) pa_nil))) (pe_and (pe_cmpR op_eq (pe_xh (pv 6)) pe_int (nomark _)) (pe_and (pe_callD k__law_text_right (hr.mono (by decide)) passL (pa_cons pe_str pa_nil)) (pe_one (pe_callD k__law_text_right (hr.mono (by decide)) passL (pa_cons pe_str pa_nil))))))))))))))), ?_⟩
    refine ⟨_, rfl, a, ns, rfl, ha, hlen, fun p c F0 H1 s1 P1 => ?_⟩
    have t1 : Tabs (TT K) H1 := hT.ext (s1.trans P1.same)
    have P1' := P1.noT
    obtain ⟨F, hF⟩ : ∃ F, F = noT F0 := ⟨_, rfl⟩
    rw [← hF] at P1'
    have hNT : NoT F := by rw [hF]; exact noT_noT F0
    clear hF P1 s1 hT
    refine ⟨9, rfl, by decide, by decide, ?_⟩
    refine for_by (fun i σ H => (∃ u v w, σ = [some (.ref a), some (.ref p), u, v, w, none, none, none]) ∧ Pen F H p c (14 * i) ∧ Tabs (TT K) H) (walk_range0 9) ⟨⟨none, none, none, rfl⟩, P1', t1⟩ ?_ ?_
    · intro i x σ H3 H4 hi hp hx
      obtain ⟨⟨u, v, w', rfl⟩, P3, t3⟩ := hp
      obtain ⟨eH, rfl⟩ := hx
      rw [eH]
      obtain ⟨PA, sA⟩ := P3.all
      refine ⟨_, rfl, _, p, c, 14 * i, 8, rfl, by decide, by omega, PA, fun l H5 hl hg P5 => ?_⟩
      have t5 : Tabs (TT K) H5 := Tabs.pen P3 t3 P5.same
      have P5' := P3.back P5 sA
      have h4 : l.length ≤ 4000 := by omega
      have cl := allL_cps (good_allL hg)
      refine ⟨_, rfl, _, rfl, .inl ⟨l, rfl, by omega, ResR.ok_ (wordRes_ok (firstBad_good hg) h4) (fun aw H6 s6 n6 w6 => ?_)⟩⟩
      obtain ⟨op, hop⟩ := P5'.at_
      have hap : aw ≠ p := (ne_of_none hop n6).symm
      obtain ⟨dx, ha6, _⟩ := id w6
      refine ⟨_, rfl, aw, dx, _, rfl, ha6, aw, l, rfl, w6, fun H7 s7 => ⟨_, rfl, ?_⟩⟩
      have w7 := w6.same s7
      have s57 := s6.trans s7
      clear s6 s7 w6 ha6 op hop
      by_cases hl0 : l = []
      case' pos =>
        have e0 : told l = [45] := if_pos hl0
        refine ⟨_, rfl, rfl, _, rfl, iteNS (by rw [hl0]; rfl) ?_⟩
        refine ⟨rfl, _, rfl, iteNS (by rw [e0]; rfl) ?_⟩
      case' neg =>
        have e0 : told l = l := if_neg hl0
        refine ⟨_, rfl, rfl, _, rfl, iteNT (fun z => hl0 (T_inj.mp (show T l = T [] from z))) ?_⟩
        refine ⟨_, rfl, rfl, _, rfl, iteNS (by rw [e0]) ?_⟩
      all_goals
        obtain ⟨dx7, ha7, _⟩ := id w7
        have htl : (told l).length ≤ 10 := by
          rw [e0]
          first
            | decide
            | omega
        refine ⟨_, rfl, aw, dx7, _, rfl, ha7, aw, l, rfl, w7, fun H8 s8 => ⟨_, rfl, _, rfl, .inl ⟨told l, rfl, by omega, RdR.ok_ (readRes_told hg h4) (fun a2 H9 s9 n9 w9 => ?_)⟩⟩⟩
        have wb9 := (w7.same s8).same s9
        obtain ⟨dy, ha9, _⟩ := id w9
        obtain ⟨dz, hb9, _⟩ := id wb9
        refine ⟨_, rfl, a2, dy, _, aw, dz, _, rfl, rfl, ha9, hb9, a2, aw, l, l, rfl, w9, wb9, cl, cl, fun H10 s10 => ⟨_, rfl, _, rfl, iteNS rfl ?_⟩⟩
        have w10 := wb9.same s10
        have s510 := ((s57.trans s8).trans s9).trans s10
        have P10 := P5'.ext s510
        have t10 : Tabs (TT K) H10 := t5.ext s510
        clear s8 s9 s10 w9 wb9 ha9 hb9 ha7 w7
        obtain ⟨dw, ha10, _⟩ := id w10
        refine ⟨_, rfl, _, rfl, aw, dw, _, rfl, ha10, aw, l, rfl, w10, fun H11 s11 => ?_⟩
        have P11 := P10.ext s11
        have t11 : Tabs (TT K) H11 := t10.ext s11
        have w11 := w10.same s11
        obtain ⟨PB, sB⟩ := P11.all
        refine ⟨_, rfl, _, p, c, _, told l, rfl, by omega, by omega, PB, fun m H12 hm P12 => ?_⟩
        have P12' := P11.back P12 sB
        have t12 : Tabs (TT K) H12 := Tabs.pen P11 t11 P12.same
        have w12 : WordAt K H12 aw l := by
          obtain ⟨d1, h1, h2⟩ := w11
          exact ⟨d1, P12.same _ _ (offP_at h1 hap), h2⟩
        refine ⟨m, rfl, by omega, t12, fun H13 e13 t13 => ⟨_, rfl, iteF ?_⟩⟩
        have w13 := w12.extN e13
        have P13 := P12'.extN hNT e13
        obtain ⟨dv, ha13, _⟩ := id w13
        refine ⟨_, rfl, aw, dv, _, rfl, ha13, aw, l, rfl, w13, fun H14 s14 => ⟨_, rfl, told l, rfl, by omega, t13.ext s14, fun H15 e15 t15 => ⟨_, rfl, iteF ?_⟩⟩⟩
        exact ⟨⟨_, _, _, rfl⟩, ((P13.ext s14).extN hNT e15).mono (by omega), t15⟩
    intro σ H3 hp
    obtain ⟨⟨u, v, w', rfl⟩, P3, t3⟩ := hp
    have P3 := P3.mono (show 14 * 9 ≤ 126 by decide)
    refine ⟨_, rfl, (by show 1 ≤ sizeLine; decide), fun o1 Ha na => ⟨(by show 1 ≤ sizeLine; decide), fun o2 Hb nb => ?_⟩⟩
    have hA1 : wordRes [65] = .ok [65] := wordRes_ok (by decide +kernel) (by decide)
    refine ⟨_, rfl, .inl ⟨[65], rfl, by decide, ResR.ok_ hA1 (fun o4 Hd sd nd wd => ?_)⟩⟩
    refine fun o3 h3 => ⟨(by show 8 ≤ sizeLine; decide), ?_⟩
    have nc : Nw Hd o3 (.dK []) (upd Hd o3 (.dK [])) := .of h3
    generalize (upd Hd o3 (.dK [])) = Hc at nc ⊢
    refine fun o6 Hf nf => ?_
    have sab : Same H3 Hb := na.same.trans nb.same
    have sac : Same H3 Hc := (sab.trans sd).trans nc.same
    have Pf : Pen F Hf p c 126 := (P3.ext sac).ext nf.same
    obtain ⟨PA, sA⟩ := Pf.all
    obtain ⟨op, hop⟩ := P3.at_
    have ne1 : o1 ≠ p := (ne_of_none hop na.free).symm
    have ne2 : o2 ≠ p := (ne_of_none (na.same _ _ hop) nb.free).symm
    have ne4 : o4 ≠ p := (ne_of_none (sab _ _ hop) nd).symm
    have ne3 : o3 ≠ p := (ne_of_none ((sab.trans sd) _ _ hop) nc.free).symm
    have ne6 : o6 ≠ p := (ne_of_none (sac _ _ hop) nf.free).symm
    have k1 : Hf o1 = some (.lst [.str "A"]) := (((nb.same.trans sd).trans nc.same).trans nf.same) _ _ na.at_
    have k2 : Hf o2 = some (.tup [.str "A"]) := ((sd.trans nc.same).trans nf.same) _ _ nb.at_
    have k3 : Hf o3 = some (.dK []) := nf.same _ _ nc.at_
    have k4 : WordAt K Hf o4 [65] := (wd.same nc.same).same nf.same
    refine ⟨_, p, c, 126, _, rfl, by decide, PA, .inl ⟨o6, _, rfl, offP_at nf.at_ ne6, by simp, by show 8 ≤ 1000000; decide, fun v Hg hv Pg => ?_⟩⟩
    obtain ⟨tv, tyv, ktv⟩ : ∃ tv, TyZ K Hg v tv ∧ PySem.W.kitOne K tv (.type "str") = some false := by
      simp at hv
      rcases hv with rfl | rfl | rfl | rfl | rfl | rfl | rfl | rfl
      · exact ⟨.type "NoneType", .base (.base .non), kit_ty (by decide +kernel)⟩
      · exact ⟨.type "int", .base (.base (.int _)), kit_ty (by decide +kernel)⟩
      · exact ⟨.type "bool", .base (.base (.bl _)), kit_ty (by decide +kernel)⟩
      · exact ⟨.type "list", .base (.base (.lst (Pg.same _ _ (offP_at k1 ne1)))), kit_ty (by decide +kernel)⟩
      · exact ⟨.type "tuple", .base (.base (.tup (Pg.same _ _ (offP_at k2 ne2)))), kit_ty (by decide +kernel)⟩
      · obtain ⟨dx, k4, _⟩ := k4
        exact ⟨.ref (He.ga K "Word"), (ty_Word C).ins (cl_Word C) (Pg.same _ _ (offP_at k4 ne4)), is_Word_str C⟩
      · exact ⟨.type "dict", .base (.base (.dK (Pg.same _ _ (offP_at k3 ne3)))), kit_ty (by decide +kernel)⟩
      · exact ⟨.type "int", .base (.base (.int _)), kit_ty (by decide +kernel)⟩
    have sf := sac.trans nf.same
    have tg : Tabs (TT K) Hg := Tabs.pen Pf (t3.ext sf) Pg.same
    have Pg' := Pf.back Pg sA
    clear Pg PA sA hv k1 k2 k3 k4 ne1 ne2 ne3 ne4 ne6 nf nc nb na sd wd nd sab sac sf Pf P3 t3 hop h3
    have hnoT : PySem.W.findIn K (.ref (He.ga K "BadText")) "item" = some none := (o_BadText (w := w) C).T.noN "item" List.mem_cons_self
    have hnoW : PySem.W.findIn K (.ref (He.ga K "BadWord")) "at" = some none := (o_BadWord (w := w) C).T.noN "at" List.mem_cons_self
    refine ⟨tg, fun H9 e9 t9 => ⟨_, rfl, v, rfl, .inr ⟨tv, SB.TyZ.extN tyv e9, ktv, ?_⟩⟩⟩
    refine heard_rz (K := K) (CS := He.ga K "BallError") (xm_BadText_BallError C) (fun a3 H10 s10 x10 => ?_)
    have P10 := (Pg'.extN hNT e9).ext s10
    have t10 : Tabs (TT K) H10 := t9.ext s10
    obtain ⟨d, hx, hd⟩ := x10
    refine ⟨_, rfl, _, _, _, .ref (He.ga K "BadText"), true, rfl, .own _, ExcAt.ty hx hd (xc_BadText C), is_BadText_BadText C, _, rfl, iteF ?_⟩
    refine ⟨_, rfl, a3, _, d, _, _, rfl, hx, xf_BadText C, hnoT, hd, lk_self, rfl, _, rfl, iteNS rfl ?_⟩
    refine ⟨_, rfl, a3, _, d, _, _, rfl, hx, xf_BadText C, hnoT, hd, lk_self, _, _, rfl, rfl, _, rfl, iteF ?_⟩
    clear hx hd e9 t9 s10 tyv ktv Pg' tg
    obtain ⟨PB, sB⟩ := P10.all
    refine ⟨_, rfl, _, p, c, 12, 126 + 1, rfl, by decide, by decide, by decide, PB, fun e H20 he0 he5 P20 => ⟨rfl, _, rfl, ?_⟩⟩
    have t20 : Tabs (TT K) H20 := Tabs.pen P10 t10 P20.same
    have P20' := P10.back P20 sB
    by_cases hz : V.int e = V.int 0
    case' pos =>
      refine iteDT hz ?_
      obtain ⟨PD, sD⟩ := P20'.all
      refine ⟨_, rfl, _, p, c, 2, 126 + 2, rfl, by decide, by decide, by decide, PD, fun f H21 hf0 hf1 P21 => ⟨_, _, rfl, rfl, ?_⟩⟩
      have t21 : Tabs (TT K) H21 := Tabs.pen P20' t20 P21.same
      have P21' := P20'.back P21 sD
      obtain ⟨x, rfl⟩ := Int.eq_ofNat_of_zero_le hf0
      have hx2 : x < 2 := by omega
      refine ⟨_, rfl, (by show 3 ≤ sizeLine; decide), fun l2 H22 n22 => ?_⟩
      obtain ⟨P23, s23, e23⟩ := P21'.nw n22
      refine ⟨_, p, c, 126 + 3, _, rfl, by decide, P23, .inl ⟨l2, _, rfl, e23, by simp, by decide, fun v2 H24 hv P24 => ?_⟩⟩
      have t24 : Tabs (TT K) H24 := Tabs.pen P23 (t21.ext n22.same) P24.same
      have P24' := P21'.back P24 s23
      obtain ⟨u2, hu, rfl⟩ : ∃ u2 : List Nat, unitB u2 = true ∧ v2 = T u2 := by
        simp at hv
        rcases hv with rfl | rfl | rfl
        · exact ⟨[65], by decide +kernel, rfl⟩
        · exact ⟨[100, 67], by decide +kernel, rfl⟩
        · exact ⟨[97, 66], by decide +kernel, rfl⟩
      obtain ⟨hune, hu16, hGood⟩ := unitB_ok hu
      have hul : 1 ≤ u2.length := List.length_pos_iff.mpr hune
      have hrl : (rep (4000 + x) u2).length = (4000 + x) * u2.length := rep_length u2 (4000 + x)
      have hge : 4000 + x ≤ (4000 + x) * u2.length := Nat.le_mul_of_pos_right _ hul
      have hle : (4000 + x) * u2.length ≤ 4001 * 16 := Nat.mul_le_mul (by omega) hu16
      have c1 : cutS (tx (rep (4000 + x) u2)) none (some ((4000 : Int) + (x : Nat))) = tx ((rep (4000 + x) u2).take (4000 + x)) := by
        have e : (4000 : Int) + (x : Nat) = ((4000 + x : Nat) : Int) := by omega
        rw [e]
        exact cutS_to _ (4000 + x) (by omega)
      refine ⟨_, rfl, u2, 4000 + x, rfl, rfl, by omega, hune, by omega, hu16, _, rfl, _, rfl, tx (rep (4000 + x) u2), rfl, small_tx (by omega), ?_⟩
      rw [c1]
      have htl : ((rep (4000 + x) u2).take (4000 + x)).length = 4000 + x := by rw [List.length_take]; omega
      refine ⟨_, rfl, by omega, fun z => ?_, good_take (hGood _) _, t24, fun HZ eZ tZ => ⟨_, rfl, iteF ?_⟩⟩
      · rw [z] at htl
        simp at htl
        omega
      have PZ : Pen F HZ p c 130 := P24'.extN hNT eZ
    case' neg =>
      refine iteDF hz ?_
      obtain ⟨HZ, hHZ⟩ : ∃ HZ, HZ = H20 := ⟨_, rfl⟩
      have tZ : Tabs (TT K) HZ := by rw [hHZ]; exact t20
      have PZ : Pen F HZ p c 130 := by rw [hHZ]; exact P20'.mono (by decide)
      rw [← hHZ]
    all_goals
      refine ⟨tZ, fun H30 e30 t30 => ?_⟩
      have P30 := PZ.extN hNT e30
      refine ⟨_, rfl, (by show 3 ≤ sizeLine; decide), fun l3 H31 n31 => ?_⟩
      obtain ⟨P31, s31, e31⟩ := P30.nw n31
      refine ⟨_, p, c, 130, _, rfl, by decide, P31, .inl ⟨l3, _, rfl, e31, by simp, by decide, fun v3 H32 hv P32 => ?_⟩⟩
      have t32 : Tabs (TT K) H32 := Tabs.pen P31 (t30.ext n31.same) P32.same
      obtain ⟨q, hq, hql, rfl⟩ : ∃ q : List Nat, firstBad q = some 0 ∧ q.length ≤ 1000000 ∧ v3 = T q := by
        simp at hv
        rcases hv with rfl | rfl | rfl
        · exact ⟨[45], by decide +kernel, by decide, rfl⟩
        · exact ⟨[45, 65], by decide +kernel, by decide, rfl⟩
        · exact ⟨[45, 32], by decide +kernel, by decide, rfl⟩
      refine ⟨_, rfl, .inl ⟨q, rfl, hql, ResR.bad_ (wordRes_bad hq) ?_⟩⟩
      refine heard_rz (K := K) (CS := He.ga K "BallError") (xm_BadWord_BallError C) (fun a4 H33 s33 x33 => ?_)
      obtain ⟨d4, hx4, hd4⟩ := x33
      have t33 : Tabs (TT K) H33 := t32.ext s33
      refine ⟨_, rfl, _, _, .ref (He.ga K "BadWord"), _, true, rfl, .own _, ExcAt.ty hx4 hd4 (xc_BadWord C), is_BadWord_BadWord C, _, rfl, iteT ?_⟩
      refine ⟨_, rfl, a4, _, d4, _, _, rfl, hx4, xf_BadWord C, hnoW, hd4, lk_self, rfl, _, rfl, iteDT rfl ?_⟩
      exact ⟨[], rfl, by decide, t33, fun H40 e40 t40 => ⟨_, rfl, iteT ⟨[45], rfl, by decide, t40, fun H41 e41 t41 => k H41⟩⟩⟩
end
end K06

end
section
set_option maxHeartbeats 0
namespace K06
open PySem PySem.Spec PyProof.Rows L2 SBX SB LamX
theorem lawAtS (w : World) (mg : Str → Option Value) (fa : Addr) (h : Heap) (G : h.Ns mainGlobals mg) (hmg : mg "law" = some (.ref fa)) (Y : hk.says w h) : ∃ K : PySem.W.Frag, K.In h ∧ LawAtS lw w K (L2.CX prg w) 10 63 "script" mg fa h := by
  obtain ⟨K, KX, c⟩ := Y
  have C : Ctx w K mg := ⟨h, KX, G, c⟩
  have e : fa = He.ga K "law" := by
    have := hmg.symm.trans (g_law C)
    cases this
    rfl
  subst e
  obtain ⟨fd, F⟩ := f_law C
  refine ⟨K, KX, fd, tf.map (He.cT K), spLaw K, fun p hp => ?_, fun p hp => ?_, fun p hp => ?_, fun s u => ?_, fun H a ns hlen _ hT ha => ?_, fun base KB GB TBs => ?_⟩
  · obtain ⟨q, hq, rfl⟩ := List.mem_map.mp hp
    exact c.empty q hq
  · obtain ⟨q, hq, rfl⟩ := List.mem_map.mp hp
    exact c.out q hq
  · obtain ⟨q, hq, rfl⟩ := List.mem_map.mp hp
    exact PySem.W.codeHd_of_K KX (c.hd q hq)
  · exact F.bindsA (ps := ["script"]) (fun _ _ _ _ _ _ us hl => match us, hl with | [_], _ => rfl) s [u] rfl
  · refine ⟨a, ns, rfl, ha, hlen, fun p hp => ?_, fun _ => rfl⟩
    obtain ⟨q, hq, rfl⟩ := List.mem_map.mp hp
    exact TabS.nil (hT _ (List.mem_map.mpr ⟨q, hq, rfl⟩))
  · exact ok_law C (fun p hp => TBs _ (List.mem_map.mpr ⟨p, hp, rfl⟩)) F
end K06
open PySem PySem.W PySem.Calls PyProof.Rows
theorem PySem.Challenge.cw_sevenball_k06_texts_of_words_holds : PySem.Challenge.rw_sevenball_k06_texts_of_words.Holds := by
  w_on; o_law
  refine HandSHeadRun.head_any (r := OpenLaw.row PySem.Challenge.rw_sevenball_k06_texts_of_words) (q := view (OpenLaw.row PySem.Challenge.rw_sevenball_k06_texts_of_words).prog [33]) (H := K06.hk) (ob := K06.ob) (M := 8000) (loose := K06.loose) (d := HandSHeadRun.topDef (OpenLaw.row PySem.Challenge.rw_sevenball_k06_texts_of_words).prog 33) (kwd := []) K06.ob_eq
    (by kernel_rfl) (fun s => by kernel_rfl) K06.run (by kernel_rfl) (by kernel_rfl) (by kernel_rfl) (by rfl) (by first | assumption | decide +kernel) (by decide +kernel) ⟨rfl, rfl, rfl, rfl, rfl, by decide +kernel⟩ ?hw ?hc
  case hw => w_witness2
  case hc =>
    refine LamX.walk_ofTsE (l := PySem.Challenge.rw_sevenball_k06_texts_of_words) (n := 63) (k := 10) (x := "script") (CX := fun w => L2.CX K06.prg w) rfl (by decide) (by kernel_rfl) ⟨rfl, by decide, by decide⟩ ?F (fun w H s e s' c => SB.noCX2 c)
    intro w mg fa h Y G hmg0
    have hmg : mg ("law" : PySem.Str) = some (.ref fa) := by
      have e : (HandSHeadRun.topDef (OpenLaw.row PySem.Challenge.rw_sevenball_k06_texts_of_words).prog 33).name = ("law" : PySem.Str) := by kernel_rfl
      rw [← e]
      exact hmg0
    exact K06.lawAtS w mg fa h G hmg Y

end
