import PyProof.Rows.All
import Wide.All
import OpenK.AllK
import Wide.FinOn
import PyProof.EqAt
import PyProof.EqKinds
import PyProof.TupleCall
import KE.KExcSuper
import HandS.ForExc
import HandS.ForMost
import HandS.ExcSuper
import HandS.HeadWalk
import HandS.ExcIs
import HandS.ExcField
import HandS.ExcValue
import HandS.IsInst
import KE.KExcIs
import HandS.Lambda
import HandS.Defaults
import HandS.Head2
import HandS.Head3
import HandS.HeadHook4
import HandS.Wide
import HandS.ClsMeth
import HandS.HeadNt
import HandS.MakeKw
import HandS.OwnEq
import HandS.Iter
import KE.KCallOwn
import KE.KOwnIter
import KE.KOpsOwn
import KE.KDictIter
import HandS.Text
import HandS.Rev
import HandS.Style
import PyProof.EnumMake
import PyProof.Draws
import PyProof.SliceStr2
import PyProof.Rows.StrRev
import HandS.SortKw
import HandS.RaiseMore
import HandS.Replace
import OpenK.KWalk
import PyProof.InstEq
import HandS.SlotsOwn
import OpenK.KMeth
import PyProof.NeKinds
import PyProof.Rows.StrCase
import PySem.Challenge.RW_sevenball_k02_products_and_undoings
set_option Elab.async false
set_option linter.all false
set_option maxRecDepth 100000
set_option autoImplicit false
section
set_option maxHeartbeats 1000000
/-! Own exceptions over ValueError whose init says super().init(text) and then stores fields. -/
namespace SBX
open PySem PySem.W PySem.Calls PyProof.Rows PySem.HandSPX
open L2 (defBody defArgs defScope)

def asgF (f : Str) (z : Pos × Pos × Pos × Pos) : Stmt := .Assign [.Attribute (.Name "self" z.1) f z.2.1] (.Name f z.2.2.1) z.2.2.2
def supS (msg : Str) (kk : Nat) (p0 p1 p2 p3 p4 p5 : Pos) : Stmt := .Expr (.Call (.Attribute (.Call (.Name "super" p0) [] [] p1) "__init__" p2) [.Constant (.str msg) kk p3] [] p4) p5

/-- the text of an init: the fields fs are stored in order -/
structure Shape (st : Stmt) (fs : List Str) : Prop where
  body : ∃ msg kk p0 p1 p2 p3 p4 p5 qs, fs.length = qs.length ∧ (p2.endLine == p4.line) = true ∧ defBody st = supS msg kk p0 p1 p2 p3 p4 p5 :: List.zipWith asgF fs qs
  head : ∃ ar, ((defArgs st).posonlyargs ++ (defArgs st).args).head? = some ar ∧ ar.arg = "self"
  self_ : (defScope st).names.lookup ("self" : Str) = some .local
  flds : ∀ f ∈ fs, (defScope st).names.lookup f = some .local ∧ f ≠ "self" ∧ (f == ("__debug__" : Str)) = false
  sup : (defScope st).names.lookup ("super" : Str) = some .globalImplicit
  cl : (defScope st).names.lookup ("__class__" : Str) = some .free
  nocell : ∀ x ∈ (defScope st).names, x.2 ≠ .cell
  kind : (defScope st).kind = .function
  co : (defScope st).isCoroutine = false
  gen : (defScope st).isGenerator = false

/-- what the written part says of the class at C and of its init at fI -/
structure SupTxt (prog : Program) (K : Frag) (C fI : Addr) (st : Stmt) (fs : List Str) : Prop where
  shape : Shape st fs
  ntop : (prog.main.scope.names.lookup ("super" : Str)).isSome = false
  cls : ∃ nm q N bs bm sn sub ab col dd k0 k1 k2 k3 k5, K.lookup C = some (excClassObj nm q C N bs bm true sn sub ab col dd k0 k1 k2 k3 k5 "ValueError.__new__") ∧ refsVE bm = true
  sa : findIn K (.ref C) "__setattr__" = some (some (.builtin "object.__setattr__"))
  noN : ∀ f ∈ fs, findIn K (.ref C) f = some none
  iC : findIn K (.ref C) "__init__" = some (some (.ref fI))
  sI : ks_superIn K C C "__init__" = some (some (.builtin "ValueError.__init__"))
  tC : typeIn K (.ref fI) = some (.type "function")
  kC : keepIn K (.ref C) = true
  exC : subIn K (.ref C) (.type "BaseException") = some true
  veC : subIn K (.ref C) (.type "ValueError") = some true
  mC : mroIn K C (.ref C) = some true
  tyC : typeIn K (.ref C) = some (.type "type")
  no3 : nsIn K cStatics "thirdparty.any" = some none
  fn : ∃ (oc cl ccl : Value) (od cld cdd : Option Addr) (pm doc ct kV : Value) (an : Option Addr) (osl csl ccs : Array (Option Value)) (cda cc : Addr) (vs : Array Value) (tf : Tok) (qual : Str),
    K.lookup fI = some ⟨oc, od, .func (ksFn "__init__" qual (defArgs st) (defBody st) (defScope st) .none kV doc pm an (.ref cda) ct cc), osl⟩ ∧
    codeIn K (.ref cda) qual = true ∧ K.lookup cda = some ⟨ccl, cdd, .fields vs, ccs⟩ ∧ vs[2]? = some (.str prog.main.file tf) ∧ K.lookup cc = some ⟨cl, cld, .cell (some (.ref C)), csl⟩

section
variable {prog : Program} {w : World} {A : Around} {E : Value → Shared → Prop} {R : Result → Shared → Prop} {s : Shared} {K : Frag} {mg mb : Str → Option Value} {C fI : Addr} {st : Stmt} {fs : List Str}
/-- the call of the method-wrapper: the args are laid anew -/
theorem call_mw {u e t0 : Addr} {rest : List Value} {Q : Value → Shared → Prop} {nm q : Str} {C N : Addr} {bs bm : List Value} {hdct : Bool} {sn : List Str} {sub : List Value} {ab : Bool} {col : Option Bool} {dd : Option Addr} {k0 k1 k2 k3 k5 : Option Value}
    (hC : s.heap.get? C = some (excClassObj nm q C N bs bm hdct sn sub ab col dd k0 k1 k2 k3 k5 "ValueError.__new__")) (he : s.heap.get? e = some (excO C t0)) (hu : s.heap.get? u = some (kxs_mw "ValueError.__init__" e)) (hrest : rest.length ≤ sizeLine)
    (hq : ∀ h' t1, (∀ b o, b ≠ e → s.heap.get? b = some o → h'.get? b = some o) → h'.get? e = some (excO C t1) → Q .none { s with heap := h' }) :
    wpAny (model prog w) A (call (.ref u) rest) Q E s := by
  obtain ⟨h, g, d, t, os⟩ := s
  refine wpAny_call (codeAny_of_tree ?_)
  show wpAny _ A.in1 (callAny (.ref u) ⟨rest, []⟩) _ _ _
  simp only [callAny]
  refine wpAny_bind (wpAny_load hu ?_)
  simp only [kxs_mw, show (Value.type "method-wrapper" == Value.type "method" || Value.type "method-wrapper" == Value.type "builtin_function_or_method" || Value.type "method-wrapper" == Value.type "method-wrapper") = true by decide, if_true]
  refine KFB.if_so (by decide) ?_
  refine wpAny_bind (check_bound_init F.excBase_ValueError.toExcCallFacts hC he rfl ?_)
  refine wpAny_bind (wpAny_pure (wpAny_pure ?_))
  refine ⟨plainId_quiet F.excBase_ValueError.init.plain _, codeAny_builtin F.excBase_ValueError.initEntry ?_⟩
  rw [Around.under_plainId F.excBase_ValueError.init.plain _]
  wp_walk
  refine hq _ h.objs.size (fun b o hb ho => ?_) ?_
  · rw [Heap.get?_update_other _ _ (Ne.symm hb)]
    exact Heap.get?_push_of_some _ ho
  · rw [Heap.get?_update_self _ (Heap.get?_push_of_some _ he) rfl]
    rfl

abbrev frE (st : Stmt) (qual : Str) (L fI cda cc : Addr) : Env := ksEnv qual (defScope st) L fI (.ref cda) cc
theorem sup_eval {o : Expr} {name : Str} {apos pos : Pos} {a : Expr} {env : Env} (hl : (apos.endLine == pos.line) = true) (hf : methodCallForm ([a].length + ([] : List Keyword).length) (backTo pos (starEach [a] env)) (backToKw pos (keywordEach [] env)) = true) :
    eval (.Call (.Attribute o name apos) [a] [] pos) env = (do
      let ov ← attributeBase o name env (eval o env)
      standAt apos.atName
      let (f, first) ← holding [ov] (getMethod ov name (L2.plainOf o env))
      callWith pos f first (backTo pos (starEach [a] env)) []) := by
  rw [arm_eval_Call]
  refine congrArg _ (funext fun ov => ?_)
  refine congrArg _ (funext fun _ => ?_)
  exact L2.mcall_line hf hl
/-- super().init(text) in the init: x the exception -/
theorem sup_stmt (T : SupTxt prog K C fI st fs) {x t0 L cda cc : Addr} {qual msg : Str} {kk : Nat} {p0 p1 p2 p3 p4 p5 : Pos} {m : Str → Option Value} {body : List Stmt} {Q : Flow → Shared → Prop}
    {oc cl ccl : Value} {od cld cdd : Option Addr} {pm doc ct kV : Value} {an : Option Addr} {osl csl ccs : Array (Option Value)} {vs : Array Value} {tf : Tok}
    (hl : (p2.endLine == p4.line) = true) (lf : K.lookup fI = some ⟨oc, od, .func (ksFn "__init__" qual (defArgs st) (defBody st) (defScope st) .none kV doc pm an (.ref cda) ct cc), osl⟩)
    (lc : K.lookup cda = some ⟨ccl, cdd, .fields vs, ccs⟩) (hvs : vs[2]? = some (.str prog.main.file tf)) (lcell : K.lookup cc = some ⟨cl, cld, .cell (some (.ref C)), csl⟩)
    (X : K.In s.heap) (G : s.heap.Ns mainGlobals mg) (hmg : mg "super" = none) (Bt : s.heap.Ns builtinsNs mb) (hmb : mb "super" = some (.type "super"))
    (hns : s.heap.Ns L m) (hself : m "self" = some (.ref x)) (hx : s.heap.get? x = some (excO C t0))
    (hq : ∀ h' tk t1, (∀ b o, b ≠ x → s.heap.get? b = some o → h'.get? b = some o) → h'.get? x = some (excO C t1) → Q .next { s with heap := h', toks := tk }) :
    _root_.PySem.wpAt (model prog w) A (.func body (frE st qual L fI cda cc)) (exec (supS msg kk p0 p1 p2 p3 p4 p5) (frE st qual L fI cda cc)) Q E s := by
  obtain ⟨nm, q, N, bs, bm, sn, sub, ab, col, dd, k0, k1, k2, k3, k5, hC, hbm⟩ := T.cls
  obtain ⟨ar, har, hname⟩ := T.shape.head
  have hcl : clsIn K C = some { name := nm, bases := bs, mro := .ref C :: bm, ns := N, qualname := q, hasDict := true, slotNames := sn, subclasses := sub, abstract := ab, collection := col, hasDel := false } := by unfold clsIn; rw [hC] <;> rfl
  have I : InstAt s.heap x (excO C t0) C none := ⟨hx, rfl, rfl, trivial⟩
  have hoC := X _ _ hC
  refine ks_wpAt_Expr_any (ks_wpAt_MethodCall ?_ (sup_eval hl rfl)) (by simp [interactive, T.shape.kind]) rfl
  refine ks_wpAt_super_base (env := frE st qual L fI cda cc) T.shape.sup T.shape.cl (by decide) rfl (X _ _ lf) rfl har rfl (X _ _ lc) rfl hvs (beq_self_eq_true _) T.ntop ?_
  refine ks_loadName_global T.shape.kind T.shape.sup (loadGlobal_builtin (env := frE st qual L fI cda cc) G hmg Bt hmb ⟨rfl, ?_⟩)
  refine wpAny_loadName_free T.shape.kind T.shape.cl rfl ⟨_, X _ _ lcell, rfl⟩ ?_
  rw [hname]
  refine wpAny_loadName_local T.shape.kind T.shape.self_ hns hself ?_
  obtain ⟨h, g, d, t, os⟩ := s
  refine ks_wpAny_isType_cls hoC rfl ⟨rfl, ?_⟩
  refine ks_wpAny_call_super hoC rfl hx rfl (fun c e => by cases e) (looks_mroIn X T.mC) (fun h1 e1 k1 => ?_)
  have X1 : K.In h1 := X.keeps k1
  have hI0 : Looks (model prog w) h (isInstance (.ref x) (.type "ValueError")) true := I.type.andThen (looks_subIn X T.veC)
  have hI := hI0.keeps k1
  have hsI := T.sI
  unfold ks_superIn at hsI
  rw [hcl] at hsI
  refine kxs_getMethod kxs_ValueError e1 (looks_opaque X1 T.no3) (l₀ := .ref C :: bm) ?_ rfl X1 hsI hI (ks_ne X I hcl) (by decide) ?_
  · exact fun A Q E s k q => wpAny_bind ((looks_clsIn X1 hcl) A _ E s k (wpAny_pure q))
  have hu : (h1.push (kxs_mw "ValueError.__init__" x)).get? h1.objs.size = some (kxs_mw "ValueError.__init__" x) := Heap.get?_push_at rfl rfl
  have k2 : ∀ b o, h.get? b = some o → (h1.push (kxs_mw "ValueError.__init__" x)).get? b = some o := fun b o e => Heap.get?_push_of_some _ (k1 b o e)
  refine kxs_callWith (i := "ValueError.__init__") (x := x) (u := h1.objs.size) rfl ?_
  refine evalArgs_plain ?_
  show wpAny _ _ (spliced ((false, eval (.Constant (.str msg) kk p3) (frE st qual L fI cda cc)) :: backTo p4 (starEach [] (frE st qual L fI cda cc)))) _ _ _
  refine Calls.spliced_cons (Calls.Constant_str ?_)
  refine Calls.spliced_nil ⟨hu, ?_⟩
  refine call_mw (k2 _ _ hoC) (k2 _ _ hx) hu (by rw [sizeLine_eq]; exact (by decide : 1 ≤ 16777216)) fun h' t1 k3 e3 => ?_
  exact hq h' _ t1 (fun b o hb e => k3 b o hb (k2 b o e)) e3

abbrev excD (C t dx : Addr) : Obj := { cls := .ref C, dict := some dx, data := .fields #[.ref t, .none, .none, .none, .bool false, .none] }
/-- self.f = f where the exception has no dict yet -/
theorem asg_first (T : SupTxt prog K C fI st fs) {f : Str} (hf : f ∈ fs) {z : Pos × Pos × Pos × Pos} {x t0 L cda cc : Addr} {qual : Str} {m : Str → Option Value} {v : Value} {Q : Flow → Shared → Prop}
    (X : K.In s.heap) (hns : s.heap.Ns L m) (hself : m "self" = some (.ref x)) (hv : m f = some v) (hx : s.heap.get? x = some (excO C t0))
    (hq : ∀ h' tk dx, (∀ b o, b ≠ x → s.heap.get? b = some o → h'.get? b = some o) → s.heap.objs.size ≤ dx → dx ≠ x → h'.get? x = some (excD C t0 dx) →
      h'.Ns1 dx (fun y => if y = f then some v else none) → Q .next { s with heap := h', toks := tk }) :
    wpAny (model prog w) A (exec (asgF f z) (frE st qual L fI cda cc)) Q E s := by
  obtain ⟨nm, q, N, bs, bm, sn, sub, ab, col, dd, k0, k1, k2, k3, k5, hC, hbm⟩ := T.cls
  have hcl : clsIn K C = some { name := nm, bases := bs, mro := .ref C :: bm, ns := N, qualname := q, hasDict := true, slotNames := sn, subclasses := sub, abstract := ab, collection := col, hasDel := false } := by unfold clsIn; rw [hC] <;> rfl
  obtain ⟨f1, f2, f3⟩ := T.shape.flds f hf
  refine plainObj_wpAny_Assign_Attribute ?_ rfl
  refine wpAny_Name (wpAny_loadName_local T.shape.kind f1 hns hv ?_) f3
  refine wpAny_Name (wpAny_loadName_local T.shape.kind T.shape.self_ hns hself ?_) (by decide)
  refine set_plain X (ox := excO C t0) (od := none) ⟨hx, rfl, rfl, trivial⟩ T.sa ?_
  refine exc_osa X hx hcl (show refsVE (.ref C :: bm) = true from hbm) rfl (T.noN f hf) (fun h₃ tk₃ dx k₃ dn dne hx₃ hn₃ => ?_)
  exact hq h₃ tk₃ dx k₃ dn dne hx₃ hn₃
/-- the walk to the own dict of an exception over ValueError that has one -/
theorem osa_old {R : Result → Shared → Prop} {name : Str} {tk : Tok} {v : Value} {x C dx : Addr} {fv : Array Value} {cd : ClassData} {m0 : Str → Option Value} {nl : List Str}
    (X : K.In s.heap) (hx : s.heap.get? x = some { cls := .ref C, dict := some dx, data := .fields fv }) (hns : s.heap.Ns1 dx m0) (hw : Within m0 nl) (hz : nl.length ≤ 1000) (hcd : clsIn K C = some cd) (hm : refsVE cd.mro = true) (hh : cd.hasDict = true)
    (ha : findIn K (.ref C) name = some none)
    (hq : ∀ h' tk', (∀ b o, b ≠ dx → s.heap.get? b = some o → h'.get? b = some o) → h'.Ns1 dx (fun y => if y = name then some v else m0 y) → R (.ok (.ret .none)) { s with heap := h', toks := tk' }) :
    codeAny (model prog w) A (.call (.builtin "object.__setattr__") ⟨[.ref x, .str name tk, v], []⟩) R s := by
  obtain ⟨hp, g, d, t, os⟩ := s
  obtain ⟨oD, esD, epD, hoD, hdD, _⟩ := hns.count hw
  have I : InstAt hp x { cls := .ref C, dict := some dx, data := .fields fv } C (some oD) := ⟨hx, rfl, rfl, hoD⟩
  have SF := F.store_object
  have ne := refsVE_ne hm
  have hob : cd.mro.contains (.type "object") = true := (refsVE_contains "object" _ hm).trans (by decide +kernel)
  have sub : Looks (model prog w) hp (isInstance (.ref x) (.type "object")) true := I.type.andThen (looks_mroIn X (by unfold mroIn; rw [hcd, Option.bind_some, if_neg (by rw [ne]; decide), hob]))
  refine codeAny_call_builtin SF.slot.plain SF.entry (@check_slot (model prog w) _ _ ⟨hp, g, d, t, os⟩ "object.__setattr__" "object" "__setattr__" (.ref x) [.str name tk, v] [] _ SF.kind SF.split sub (SF.args (.ref x) (.str name tk) v) ?_)
  have hmr : Looks (model prog w) hp (mroOf (.ref C)) cd.mro := (looks_clsIn X hcd).andThen .now
  have L3 : Looks (model prog w) hp (Builtin.ObjectAttr.storeTaker? none) none := .now
  have hcls : Looks (model prog w) hp (classData C) cd := looks_clsIn X hcd
  rw [osa_eq, refuse_eq]
  refine wpAny_bind (wpAny_bind (I.type.at (wpAny_bind (hmr.at ?_))))
  rw [refsVE_pass _ _ hm]
  refine wpAny_pure (wpAny_bind (I.type.at (wpAny_bind ((looks_findIn X ha).at (wpAny_bind (L3.at ?_))))))
  show wpAny _ _ (Builtin.ObjectAttr.storeInOwnDict (.ref x) (.ref C) (.str name tk) name v false) _ _ _
  obtain ⟨nm, bs, mro, ns, qn, hd, sn, sb, ab, col, del⟩ := cd
  dsimp only at hh
  subst hh
  unfold Builtin.ObjectAttr.storeInOwnDict Builtin.ObjectAttr.ownDictForStores
  repeat (first | with_reducible refine ESX.store_in_old hns hw hz ?_ | with_reducible refine wpAny_loadPart_at hx ?_ | with_reducible refine hcls.at ?_ | wp_step)
  intro h' tk' hn' hs
  exact hq h' tk' (fun b o hb ho => (hs.2 b hb).trans ho) hn'
/-- self.f = f where it has a dict -/
theorem asg_next (T : SupTxt prog K C fI st fs) {f : Str} (hf : f ∈ fs) {z : Pos × Pos × Pos × Pos} {x t0 L cda cc dx : Addr} {qual : Str} {m m0 : Str → Option Value} {nl : List Str} {v : Value} {Q : Flow → Shared → Prop}
    (X : K.In s.heap) (hns : s.heap.Ns L m) (hself : m "self" = some (.ref x)) (hv : m f = some v) (hx : s.heap.get? x = some (excD C t0 dx)) (hd : s.heap.Ns1 dx m0) (hw : Within m0 nl) (hz : nl.length ≤ 1000)
    (hq : ∀ h' tk, (∀ b o, b ≠ dx → s.heap.get? b = some o → h'.get? b = some o) → h'.Ns1 dx (fun y => if y = f then some v else m0 y) → Q .next { s with heap := h', toks := tk }) :
    wpAny (model prog w) A (exec (asgF f z) (frE st qual L fI cda cc)) Q E s := by
  obtain ⟨nm, q, N, bs, bm, sn, sub, ab, col, dd, k0, k1, k2, k3, k5, hC, hbm⟩ := T.cls
  have hcl : clsIn K C = some { name := nm, bases := bs, mro := .ref C :: bm, ns := N, qualname := q, hasDict := true, slotNames := sn, subclasses := sub, abstract := ab, collection := col, hasDel := false } := by unfold clsIn; rw [hC] <;> rfl
  obtain ⟨f1, f2, f3⟩ := T.shape.flds f hf
  obtain ⟨oD, esD, epD, hoD, hdD, _⟩ := hd.count hw
  refine plainObj_wpAny_Assign_Attribute ?_ rfl
  refine wpAny_Name (wpAny_loadName_local T.shape.kind f1 hns hv ?_) f3
  refine wpAny_Name (wpAny_loadName_local T.shape.kind T.shape.self_ hns hself ?_) (by decide)
  refine set_plain X (ox := excD C t0 dx) (od := some oD) ⟨hx, rfl, rfl, hoD⟩ T.sa ?_
  refine osa_old X hx hd hw hz hcl (show refsVE (.ref C :: bm) = true from hbm) rfl (T.noN f hf) (fun h₃ tk₃ k₃ hn₃ => ?_)
  exact hq h₃ tk₃ k₃ hn₃

theorem lk_self {α : Type} {a : Str} {v : α} {l : List (Str × α)} : ((a, v) :: l).lookup a = some v := by simp [List.lookup]
theorem lk_ne {α : Type} {a b : Str} {v : α} {l : List (Str × α)} (h : b ≠ a) : ((a, v) :: l).lookup b = l.lookup b := by
  have q : (b == a) = false := by simpa using h
  simp [List.lookup, q]
theorem lk_nil {α : Type} {b : Str} : ([] : List (Str × α)).lookup b = none := rfl
/-- what an init leaves of a fresh exception at x: fs its fields' names and values, in the order of the stores -/
structure InitEnd (h h' : Heap) (x C : Addr) (d : Option Addr) (zs : List (Str × Value)) : Prop where
  keep : ∀ b o, b ≠ x → h.get? b = some o → h'.get? b = some o
  obj : ∃ t1, h'.get? x = some { cls := .ref C, dict := d, data := .fields #[.ref t1, .none, .none, .none, .bool false, .none] }
  dct : match d with
    | none => zs = []
    | some dx => h.objs.size ≤ dx ∧ dx ≠ x ∧ ∃ m, h'.Ns1 dx m ∧ ∀ y, m y = zs.lookup y
theorem InitEnd.after {h h1 h' : Heap} {x C : Addr} {d : Option Addr} {zs : List (Str × Value)} (i : InitEnd h1 h' x C d zs) (k : ∀ b o, b ≠ x → h.get? b = some o → h1.get? b = some o) (sz : h.objs.size ≤ h1.objs.size) : InitEnd h h' x C d zs := by
  refine ⟨fun b o hb e => i.keep b o hb (k b o hb e), i.obj, ?_⟩
  have q := i.dct
  cases d with
  | none => exact q
  | some dx =>
    obtain ⟨a, b, c⟩ := q
    exact ⟨Nat.le_trans sz a, b, c⟩
/-- the stores of the fields -/
def TailOk (prog : Program) (w : World) (K : Frag) (C fI : Addr) (st : Stmt) (fs : List Str) (us : List Value) (qs : List (Pos × Pos × Pos × Pos)) : Prop :=
  ∀ (A : Around) (E : Value → Shared → Prop) (s : Shared) (m : Str → Option Value) (L cda cc x t1 : Addr) (qual : Str) (Q : Flow → Shared → Prop), K.In s.heap → s.heap.Ns L m → m "self" = some (.ref x) → (∀ p ∈ fs.zip us, m p.1 = some p.2) → s.heap.get? x = some (excO C t1) → L ≠ x → K.lookup x = none →
    (∀ h' tk d, InitEnd s.heap h' x C d (fs.zip us) → Q .next { s with heap := h', toks := tk }) → wpAny (model prog w) A (execs (List.zipWith asgF fs qs) (frE st qual L fI cda cc)) Q E s
theorem tail0 : TailOk prog w K C fI st [] [] [] := fun A E s m L cda cc x t1 qual Q X n hs hm hx hL hnx hq => wpAny_execs_nil (hq s.heap s.toks none ⟨fun _ _ _ e => e, ⟨t1, hx⟩, rfl⟩)
theorem map1 {f : Str} {v : Value} (y : Str) : (if y = f then some v else none) = List.lookup y [(f, v)] := by
  by_cases e : y = f
  · rw [if_pos e, e]; exact lk_self.symm
  · rw [if_neg e, lk_ne e]; rfl
theorem tail1 {f : Str} {v : Value} {z : Pos × Pos × Pos × Pos} (T : SupTxt prog K C fI st [f]) : TailOk prog w K C fI st [f] [v] [z] := fun A E s m L cda cc x t1 qual Q X n hs hm hx hL hnx hq => by
  refine wpAny_execs_cons (asg_first T (f := f) List.mem_cons_self X n hs (hm (f, v) List.mem_cons_self) hx fun h3 tk3 dx k3 dn dne hx3 hn3 => ?_)
  exact wpAny_execs_nil (hq h3 tk3 (some dx) ⟨k3, ⟨t1, hx3⟩, dn, dne, _, hn3, map1⟩)
theorem tail2 {f g : Str} {v u : Value} {z z' : Pos × Pos × Pos × Pos} (T : SupTxt prog K C fI st [f, g]) (hfg : f ≠ g) : TailOk prog w K C fI st [f, g] [v, u] [z, z'] := fun A E s m L cda cc x t1 qual Q X n hs hm hx hL hnx hq => by
  refine wpAny_execs_cons (asg_first T (f := f) List.mem_cons_self X n hs (hm (f, v) List.mem_cons_self) hx fun h3 tk3 dx k3 dn dne hx3 hn3 => ?_)
  have X3 : K.In h3 := fun b o e => k3 b o (fun y => by rw [y, hnx] at e; cases e) (X b o e)
  have n3 : h3.Ns L m := by
    obtain ⟨o, es, ep, ho, r⟩ := n
    exact ⟨o, es, ep, k3 _ _ hL ho, r⟩
  refine wpAny_execs_cons (asg_next T (f := g) (List.mem_cons_of_mem _ List.mem_cons_self) (nl := [f]) (s := { s with heap := h3, toks := tk3 }) X3 n3 hs (hm (g, u) (List.mem_cons_of_mem _ List.mem_cons_self)) hx3 hn3 (fun y hy => ?_) (by show 1 ≤ 1000; decide) fun h4 tk4 k4 hn4 => ?_)
  · by_cases e : y = f
    · rw [e]; exact List.mem_cons_self
    · rw [if_neg e] at hy
      exact absurd rfl hy
  refine wpAny_execs_nil (hq h4 tk4 (some dx) ⟨fun b o hb e => ?_, ⟨t1, k4 _ _ (Ne.symm dne) hx3⟩, dn, dne, _, hn4, fun y => ?_⟩)
  · exact k4 b o (fun y => by rw [y] at e; exact absurd (Heap.lt_size e) (Nat.not_lt.mpr dn)) (k3 b o hb e)
  · show (if y = g then some u else if y = f then some v else none) = List.lookup y [(f, v), (g, u)]
    by_cases e : y = g
    · rw [if_pos e, e, lk_ne (Ne.symm hfg)]; exact lk_self.symm
    · by_cases e2 : y = f
      · rw [if_neg e, if_pos e2, e2]; exact lk_self.symm
      · rw [if_neg e, if_neg e2, lk_ne e2, lk_ne e]; rfl
end
section
variable {prog : Program} {w : World} {A : Around} {R : Result → Shared → Prop} {s : Shared} {K : Frag} {mg mb : Str → Option Value} {C fI : Addr} {st : Stmt} {fs : List Str}
/-- the init runs -/
theorem sup_init (T : SupTxt prog K C fI st fs) {x t0 : Addr} {us : List Value} {args : Args} (htail : ∀ qs, fs.length = qs.length → TailOk prog w K C fI st fs us qs)
    (hm0 : ((("self" : Str), Value.ref x) :: fs.zip us).reverse.lookup ("self" : Str) = some (.ref x)) (hm : ∀ p ∈ fs.zip us, ((("self" : Str), Value.ref x) :: fs.zip us).reverse.lookup p.1 = some p.2)
    (X : K.In s.heap) (hlim : s.heap.NoLimit) (G : s.heap.Ns mainGlobals mg) (hmg : mg "super" = none) (Bt : s.heap.Ns builtinsNs mb) (hmb : mb "super" = some (.type "super"))
    (hx : s.heap.get? x = some (excO C t0)) (hnx : K.lookup x = none) (hroom : A.depth < recursionLimit)
    (hbind : ∀ fd : FuncData, (∃ qual pm doc ct kV an cdv cc, fd = ksFn "__init__" qual (defArgs st) (defBody st) (defScope st) .none kV doc pm an cdv ct cc) → BindsTo s fd args ((("self" : Str), .ref x) :: fs.zip us))
    (hq : ∀ h' tk d, InitEnd s.heap h' x C d (fs.zip us) → R (.ok (.ret .none)) { s with heap := h', toks := tk }) :
    codeAny (model prog w) A (.call (.ref fI) args) R s := by
  obtain ⟨oc, cl, ccl, od, cld, cdd, pm, doc, ct, kV, an, osl, csl, ccs, cda, cc, vs, tf, qual, lf, hcd, lc, hvs, lcell⟩ := T.fn
  obtain ⟨msg, kk, p0, p1, p2, p3, p4, p5, qs, hlen, hline, hbody⟩ := T.shape.body
  refine ks_codeAny_call_defAt (fd := ksFn "__init__" qual (defArgs st) (defBody st) (defScope st) .none kV doc pm an (.ref cda) ct cc) (body := defBody st) (binds := (("self" : Str), .ref x) :: fs.zip us) hroom (X _ _ lf) rfl hlim (codeRec_of X hcd) rfl (hbind _ ⟨_, _, _, _, _, _, _, _, rfl⟩) T.shape.nocell (fun y hy => ?_) (fun h₁ hns hk => ?_) T.shape.co T.shape.gen T.shape.kind
  · rcases List.mem_cons.mp hy with rfl | hy
    · exact T.shape.self_
    · exact (T.shape.flds _ (List.of_mem_zip hy).1).1
  rw [hbody]
  have X1 : K.In h₁ := X.keeps hk
  have hx1 := hk _ _ hx
  have Lx : s.heap.objs.size ≠ x := Nat.ne_of_gt (Heap.lt_size hx)
  refine ks_wpAt_execs_cons (sup_stmt T hline lf lc hvs lcell (s := { s with heap := h₁, toks := s.toks + _ }) X1 (G.keeps hk) hmg (Bt.keeps hk) hmb hns (x := x) hm0 hx1 fun h2' tk2 t1 k2 e2 => ?_)
  have X2 : K.In h2' := fun b o e => k2 b o (fun z => by rw [z, hnx] at e; cases e) (X1 b o e)
  have n2 : h2'.Ns s.heap.objs.size (fun y => ((("self" : Str), Value.ref x) :: fs.zip us).reverse.lookup y) := by
    obtain ⟨o, es, ep, ho, r⟩ := hns
    exact ⟨o, es, ep, k2 _ _ Lx ho, r⟩
  have kk2 : ∀ b o, b ≠ x → s.heap.get? b = some o → h2'.get? b = some o := fun b o hb e => k2 b o hb (hk b o e)
  have sz : s.heap.objs.size ≤ h2'.objs.size := by
    obtain ⟨o, es, ep, ho, _⟩ := n2
    exact Nat.le_of_lt (Heap.lt_size (show h2'.get? s.heap.objs.size = some o from ho))
  exact wpAt_of_wpAny (htail qs hlen _ _ { s with heap := h2', toks := tk2 } _ _ cda cc x t1 qual _ X2 n2 hm0 hm e2 Lx hnx fun h' tk d i => hq h' tk d (i.after kk2 sz))
/-- a made exception -/
structure Made (h h' : Heap) (e C : Addr) (d : Option Addr) (zs : List (Str × Value)) : Prop where
  keep : ∀ b o, h.get? b = some o → h'.get? b = some o
  new : h.objs.size ≤ e
  obj : ∃ t1, h'.get? e = some { cls := .ref C, dict := d, data := .fields #[.ref t1, .none, .none, .none, .bool false, .none] }
  dct : match d with
    | none => zs = []
    | some dx => h.objs.size ≤ dx ∧ dx ≠ e ∧ ∃ m, h'.Ns1 dx m ∧ ∀ y, m y = zs.lookup y
/-- C(us) -/
theorem sup_made (T : SupTxt prog K C fI st fs) {us : List Value} (hus : us.length ≤ sizeLine) (htail : ∀ qs, fs.length = qs.length → TailOk prog w K C fI st fs us qs)
    (hm0 : ∀ x : Addr, ((("self" : Str), Value.ref x) :: fs.zip us).reverse.lookup ("self" : Str) = some (.ref x)) (hm : ∀ x : Addr, ∀ p ∈ fs.zip us, ((("self" : Str), Value.ref x) :: fs.zip us).reverse.lookup p.1 = some p.2)
    (hbind : ∀ (x : Addr) (s : Shared) (fd : FuncData), (∃ qual pm doc ct kV an cdv cc, fd = ksFn "__init__" qual (defArgs st) (defBody st) (defScope st) .none kV doc pm an cdv ct cc) → BindsTo s fd ⟨.ref x :: us, []⟩ ((("self" : Str), .ref x) :: fs.zip us))
    (X : K.In s.heap) (hlim : s.heap.NoLimit) (G : s.heap.Ns mainGlobals mg) (hmg : mg "super" = none) (Bt : s.heap.Ns builtinsNs mb) (hmb : mb "super" = some (.type "super")) (hroom : A.depth + 1 < recursionLimit)
    (hq : ∀ h' tk e d, Made s.heap h' e C d (fs.zip us) → R (.ok (.ret (.ref e))) { s with heap := h', toks := tk }) :
    codeAny (model prog w) A (.call (.ref C) ⟨us, []⟩) R s := by
  obtain ⟨nm, q, N, bs, bm, sn, sub, ab, col, dd, k0, k1, k2, k3, k5, hC, hbm⟩ := T.cls
  obtain ⟨hp, g, dr, tk, os⟩ := s
  have k : ∀ b o, hp.get? b = some o → ((hp.push (kdv_tup us)).push (excO C hp.objs.size)).get? b = some o := fun b o e => Heap.get?_push_of_some _ (Heap.get?_push_of_some _ e)
  have hget : ((hp.push (kdv_tup us)).push (excO C hp.objs.size)).get? (hp.objs.size + 1) = some (excO C hp.objs.size) := by heap_get
  have hnx : K.lookup (hp.objs.size + 1) = none := by
    cases e : K.lookup (hp.objs.size + 1) with
    | none => rfl
    | some o =>
      have z : hp.get? (hp.objs.size + 1) = some o := X _ _ e
      exact absurd (Nat.lt_of_succ_lt (Heap.lt_size z)) (Nat.lt_irrefl _)
  refine call_own F.excBase_ValueError (fun X => refsVE_contains X bm hbm) (X _ _ hC) (looks_findIn X T.iC) (fun self => bind_fn X self T.tC) hus ?_
  refine sup_init (s := ⟨(hp.push (kdv_tup us)).push (excO C hp.objs.size), g, dr, tk, os⟩) T htail (hm0 _) (hm _) (X.keeps k) (hlim.keeps k) (G.keeps k) hmg (Bt.keeps k) hmb hget hnx ?_ (hbind _ _) fun h' tk' d i => ?_
  · show A.depth + 1 < recursionLimit
    exact hroom
  · have old : ∀ b o, hp.get? b = some o → h'.get? b = some o := fun b o e => i.keep b o (Nat.ne_of_lt (Nat.lt_succ_of_lt (Heap.lt_size e))) (k b o e)
    refine ⟨rfl, hq h' tk' (hp.objs.size + 1) d ⟨old, Nat.le_succ _, i.obj, ?_⟩⟩
    have q := i.dct
    cases d with
    | none => exact q
    | some dx =>
      obtain ⟨a, b, c⟩ := q
      refine ⟨?_, b, c⟩
      have z : hp.objs.size + 1 + 1 ≤ dx := by
        first
          | (simpa only [Heap.size_push] using a)
          | exact a
          | (have q := a; rw [Heap.size_push, Heap.size_push] at q; exact q)
      exact Nat.le_trans (Nat.le_trans (Nat.le_succ _) (Nat.le_succ _)) z
end
end SBX

end
section
set_option maxHeartbeats 1000000
/-! The same over the layer: raise C(..), C(..) as a value; what a held exception says. -/
namespace L2
open PySem PySem.Spec PyProof.Rows SBX

/-- all that the making of the exception class at C asks -/
structure SupOk (prog : Program) (w : World) (K : PySem.W.Frag) (C fI : Addr) (st : Stmt) (fs : List Str) : Prop where
  T : SupTxt prog K C fI st fs
  tail : ∀ us qs, us.length = fs.length → fs.length = qs.length → TailOk prog w K C fI st fs us qs
  m0 : ∀ us, us.length = fs.length → ∀ x : Addr, ((("self" : Str), Value.ref x) :: fs.zip us).reverse.lookup ("self" : Str) = some (.ref x)
  m1 : ∀ us, us.length = fs.length → ∀ x : Addr, ∀ p ∈ fs.zip us, ((("self" : Str), Value.ref x) :: fs.zip us).reverse.lookup p.1 = some p.2
  bind : ∀ us, us.length = fs.length → ∀ (x : Addr) (s : Shared) (fd : FuncData), (∃ qual pm doc ct kV an cdv cc, fd = PySem.W.ksFn "__init__" qual (defArgs st) (defBody st) (defScope st) .none kV doc pm an cdv ct cc) → BindsTo s fd ⟨.ref x :: us, []⟩ ((("self" : Str), .ref x) :: fs.zip us)
  few : fs.length ≤ 2

/-- an exception object at a: its class, its own dict -/
def XcO (cls : Value) (d : Option Addr) (a : Addr) : HO := .ext fun h => ∃ (oe : Obj) (vs : Array Value), h.get? a = some oe ∧ Zc cls d oe ∧ oe.data = .fields vs
theorem xcO_ok {P : Program} {w : World} {H : Hp} {h : Heap} {a : Addr} {cls : Value} {d : Option Addr} {oe : Obj} {vs : Array Value} (e : h.get? a = some oe) (z : Zc cls d oe) (hd : oe.data = .fields vs) : ObjOk P w H h a (XcO cls d a) :=
  ⟨⟨oe, vs, e, z, hd⟩, ⟨oe, e⟩, fun _ _ ⟨o, v, q, r⟩ k => ⟨o, v, k o q, r⟩⟩

theorem relO_zip : ∀ {fs : List Str} {vs : List V} {us : List Value}, vs.length = fs.length → Vals vs us → ∀ f, RelO (List.lookup f (fs.zip vs)) (List.lookup f (fs.zip us))
  | [], [], [], _, _, f => trivial
  | g :: fs, v :: vs, u :: us, h, .cons r rs, f => by
    by_cases e : f = g
    · rw [e]
      show RelO (List.lookup g ((g, v) :: fs.zip vs)) (List.lookup g ((g, u) :: fs.zip us))
      rw [lk_self, lk_self]
      exact r
    · show RelO (List.lookup f ((g, v) :: fs.zip vs)) (List.lookup f ((g, u) :: fs.zip us))
      rw [lk_ne e, lk_ne e]
      exact relO_zip (by simpa using h) rs f
section
variable {X : Cx} {x : Str} {C fI : Addr} {st : Stmt} {fs : List Str}
/-- raise C(e, ..): what it makes -/
def tMkSup (C : Addr) (fs : List Str) (ta : TA) : St → Hp → XK → Prop := fun σ H Q => ta σ H fun vs H1 => vs.length = fs.length ∧ ∀ d, H1 d = none → Q (.ref C) (some d) (upd H1 d (.xd (fs.zip vs)))
theorem boot_super : bootBuiltins "super" = some (.type "super") := by decide +kernel
/-- the class called, from a body -/
theorem run_sup {pins : List (Addr × Obj)} {σ : St} {H : Hp} {s : Shared} {us : List Value} {R : Result → Shared → Prop} {k : Nat} (S : SupOk X.prog X.w X.K C fI st fs) (hs : X.mg "super" = none) (hr : Room (k + 1) X.A) (I : Inv X pins σ H s) (hl : us.length = fs.length)
    (hq : ∀ h' tk e d, Made s.heap h' e C d (fs.zip us) → R (.ok (.ret (.ref e))) { s with heap := h', toks := tk }) : codeAny (model X.prog X.w) X.A (.call (.ref C) ⟨us, []⟩) R s := by
  obtain ⟨mb, hb, hbb⟩ := I.mod.blt
  refine sup_made (mg := X.mg) (mb := mb) S.T ?_ (fun qs h => S.tail us qs hl h) (S.m0 us hl) (S.m1 us hl) (S.bind us hl) I.kIn I.nolimit (I.mod.glob.keeps I.bk) hs (hb.keeps I.bk) ((hbb _ (by decide +kernel)).trans boot_super) (by have := hr.dp; omega) hq
  rw [hl, sizeLine_eq]
  exact Nat.le_trans S.few (by decide)
theorem pmk_sup {e : Expr} {es : List Expr} {ta : TA} {p pos : Pos} {k : Nat} (S : SupOk X.prog X.w X.K C fI st fs) (gC : X.mg x = some (.ref C)) (hs : X.mg "super" = none) (hr : Room (k + 1) X.A) (hne : fs ≠ []) (ha : PA X (e :: es) ta) (hg : Gl X x := by rfl)
    (he : starEach (e :: es) X.env = (false, eval e X.env) :: starEach es X.env := by rfl) (hpl : (backTo pos (starEach es X.env)).any (·.1) = false := by rfl) (hdb : (x == ("__debug__" : Str)) = false := by decide) :
    PMk X (.Call (.Name x p) (e :: es) [] pos) (tMkSup C fs ta) := by
  intro pins s σ H Q I h
  refine wpAny_Call_Name_kw (ld_glob I hg gC ?_ hdb)
  refine PySem.W.callWith_K (h₀ := X.base) I.ok.mod.kin S.T.kC (thn (ha.run pos pins s σ H _ I h) fun us s1 hh => ?_) he hpl
  obtain ⟨vs, H1, I1, r1, hl, q1⟩ := hh
  refine ⟨I1.kIn, ?_⟩
  show wpAny _ _ (call (.ref C) us) _ _ _
  have hlu : us.length = fs.length := r1.length.symm.trans hl
  refine wpAny_call (run_sup S hs hr I1 hlu fun h' tk' e d M => ?_)
  obtain ⟨hp, g, dr, tk, os⟩ := s1
  show MkP X pins σ Q (.ref e) ⟨h', g, dr, tk', os⟩
  obtain ⟨t1, hoe⟩ := M.obj
  obtain ⟨G', g1, g2⟩ := restrict h' fun b => decide (b ≠ e)
  have gk : ∀ b, b ≠ e → G'.get? b = h'.get? b := fun b hb => g1 b (decide_eq_true hb)
  have ge : G'.get? e = none := g2 e (by simp)
  have old : ∀ b o, hp.get? b = some o → G'.get? b = some o := fun b o q => (gk b (Nat.ne_of_lt (Nat.lt_of_lt_of_le (Heap.lt_size q) M.new))).trans (M.keep b o q)
  have md := M.dct
  cases d with
  | none =>
    have z : fs.zip us = [] := md
    cases fs with
    | nil => exact absurd rfl hne
    | cons f fr =>
      cases us with
      | nil => simp at hlu
      | cons u ur => cases z
  | some d =>
    obtain ⟨dn, dne, m, hns, hm⟩ := md
    have ob : ObjOk X.prog X.w (upd H1 d (.xd (fs.zip vs))) G' d (.xd (fs.zip vs)) :=
      ⟨m, hns.at (fun o q => (gk d dne).trans q), fun f => by rw [hm f]; exact relO_zip hl r1 f⟩
    have J : Inv X pins σ (upd H1 d (.xd (fs.zip vs))) ⟨G', g, dr, tk', os⟩ := I1.laid (t' := tk') old dn ob
    refine ⟨e, _, _, ⟨G', g, dr, tk', os⟩, _, .ref C, some d, rfl, J, fun b o q => ?_, ge, hoe, ⟨rfl, rfl⟩, rfl, rfl, ?_, rfl, I1.bare, raises_own S.T.exC S.T.tyC, q1 d (I1.hok.fresh dn)⟩
    · by_cases hb : b = e
      · have q' : G'.get? b = some o := q
        rw [hb, ge] at q'; cases q'
      · exact (gk b hb).symm.trans q
    · rw [upd_ne (Ne.symm dne)]
      exact I1.hok.fresh M.new
/-- C(e, ..) as a value -/
def tSupV (C : Addr) (fs : List Str) (ta : TA) : TE := fun σ H Q => ta σ H fun vs H1 => vs.length = fs.length ∧ ∀ a d, H1 a = none → H1 d = none → a ≠ d → Q (.ref a) (upd (upd H1 d (.xd (fs.zip vs))) a (XcO (.ref C) (some d) a))
theorem pe_sup {e : Expr} {es : List Expr} {ta : TA} {p pos : Pos} {k : Nat} (S : SupOk X.prog X.w X.K C fI st fs) (gC : X.mg x = some (.ref C)) (hs : X.mg "super" = none) (hr : Room (k + 1) X.A) (hne : fs ≠ []) (ha : PA X (e :: es) ta) (hg : Gl X x := by rfl)
    (he : starEach (e :: es) X.env = (false, eval e X.env) :: starEach es X.env := by rfl) (hpl : (backTo pos (starEach es X.env)).any (·.1) = false := by rfl) (hdb : (x == ("__debug__" : Str)) = false := by decide) :
    PE X (.Call (.Name x p) (e :: es) [] pos) (tSupV C fs ta) := by
  refine ⟨fun pins s σ H Q I h => ?_⟩
  refine wpAny_Call_Name_kw (ld_glob I hg gC ?_ hdb)
  refine PySem.W.callWith_K (h₀ := X.base) I.ok.mod.kin S.T.kC (thn (ha.run pos pins s σ H _ I h) fun us s1 hh => ?_) he hpl
  obtain ⟨vs, H1, I1, r1, hl, q1⟩ := hh
  refine ⟨I1.kIn, ?_⟩
  show wpAny _ _ (call (.ref C) us) _ _ _
  have hlu : us.length = fs.length := r1.length.symm.trans hl
  refine wpAny_call (run_sup S hs hr I1 hlu fun h' tk' e d M => ?_)
  obtain ⟨hp, g, dr, tk, os⟩ := s1
  obtain ⟨t1, hoe⟩ := M.obj
  have md := M.dct
  cases d with
  | none =>
    have z : fs.zip us = [] := md
    cases fs with
    | nil => exact absurd rfl hne
    | cons f fr =>
      cases us with
      | nil => simp at hlu
      | cons u ur => cases z
  | some d =>
    obtain ⟨dn, dne, m, hns, hm⟩ := md
    obtain ⟨G', g1, g2⟩ := restrict h' fun b => decide (b ≠ e)
    have gk : ∀ b, b ≠ e → G'.get? b = h'.get? b := fun b hb => g1 b (decide_eq_true hb)
    have ge : G'.get? e = none := g2 e (by simp)
    have old : ∀ b o, hp.get? b = some o → G'.get? b = some o := fun b o q => (gk b (Nat.ne_of_lt (Nat.lt_of_lt_of_le (Heap.lt_size q) M.new))).trans (M.keep b o q)
    have ob : ObjOk X.prog X.w (upd H1 d (.xd (fs.zip vs))) G' d (.xd (fs.zip vs)) :=
      ⟨m, hns.at (fun o q => (gk d dne).trans q), fun f => by rw [hm f]; exact relO_zip hl r1 f⟩
    have J : Inv X pins σ (upd H1 d (.xd (fs.zip vs))) ⟨G', g, dr, tk', os⟩ := I1.laid (t' := tk') old dn ob
    have nd : H1 d = none := I1.hok.fresh dn
    have ne : H1 e = none := I1.hok.fresh M.new
    have ne' : upd H1 d (.xd (fs.zip vs)) e = none := by rw [upd_ne (Ne.symm dne)]; exact ne
    have J2 : Inv X pins σ (upd (upd H1 d (.xd (fs.zip vs))) e (XcO (.ref C) (some d) e)) ⟨h', g, dr, tk', os⟩ := J.laidN (t' := tk') (h' := h') (fun b o q => by
      by_cases hb : b = e
      · have q' : G'.get? b = some o := q
        rw [hb, ge] at q'; cases q'
      · exact (gk b hb).symm.trans q) ge ne' (xcO_ok hoe ⟨rfl, rfl⟩ rfl)
    exact ⟨.ref e, _, J2, rfl, q1 e d ne nd (Ne.symm dne)⟩
end
end L2

namespace L2
open PySem PySem.Spec PyProof.Rows SBX
/-! ### what a held exception says -/
/-- a value's type: wider still, exceptions too -/
inductive TyZ (K : PySem.W.Frag) (H : Hp) : V → Value → Prop where
  | base {x : V} {t : Value} (h : TyX K H x t) : TyZ K H x t
  | exc {a D : Addr} {d : Option Addr} (e : H a = some (XcO (.ref D) d a)) (hd : ∀ b, d = some b → ∃ fs, H b = some (.xd fs)) (c : ExcC K D) : TyZ K H (.ref a) (.ref D)
def rIsZ (K : PySem.W.Frag) : List V → Hp → VK → Prop := fun xs H Q => ∃ (x c : V) (t u : Value) (b : Bool), xs = [x, c] ∧ ClsV c u ∧ TyZ K H x t ∧ PySem.W.kitOne K t u = some b ∧ Q (.bl b) H
section
variable {X : Cx} {pins : List (Addr × Obj)} {σ : St} {H : Hp} {s : Shared}
theorem isCls_of {K : PySem.W.Frag} {D : Addr} (h : PySem.W.hasDictIn K D = true) : (PySem.W.clsIn K D).isSome = true := by
  unfold PySem.W.hasDictIn at h
  cases e : PySem.W.clsIn K D with
  | none => rw [e] at h; cases h
  | some c => rfl
theorem kit_ofZ {x : V} {u t : Value} (I : Inv X pins σ H s) (rx : RelV x u) (ty : TyZ X.K H x t) : ∃ P : Heap → Prop, PySem.W.KitX X.K u t P ∧ P s.heap ∧ u ≠ .builtin "__main__.__loader__#opaque" := by
  cases ty with
  | base b => exact kit_of I rx b
  | @exc a D d e hd C =>
    cases (show u = Value.ref a from rx)
    obtain ⟨⟨oe, vs, ho, hz, hdt⟩, _, _⟩ := I.hok a _ e
    cases d with
    | none =>
      have J : PySem.W.InstAt s.heap a oe D none := ⟨ho, hz.1, by unfold PySem.W.notCls; rw [hdt] <;> rfl, by rw [hz.2]; trivial⟩
      exact ⟨_, PySem.W.kitx_exc (isCls_of C.hd) C.hg C.hk C.hs C.ha C.hn C.ht C.hm, J, fun z => nomatch z⟩
    | some dd =>
      obtain ⟨fs, hx⟩ := hd dd rfl
      have hx2 : ObjOk X.prog X.w H s.heap dd (.xd fs) := I.hok dd _ hx
      obtain ⟨mA, hns, hr⟩ := hx2
      obtain ⟨od, hod, hl⟩ := lookIn_ns hns
      have J : PySem.W.InstAt s.heap a oe D (some od) := ⟨ho, hz.1, by unfold PySem.W.notCls; rw [hdt] <;> rfl, by rw [hz.2]; exact hod⟩
      exact ⟨_, PySem.W.kitx_exc (isCls_of C.hd) C.hg C.hk C.hs C.ha C.hn C.ht C.hm, J, fun z => nomatch z⟩
theorem call_isZ : CallR X (.builtin "isinstance") (rIsZ X.K) := by
  intro pins s σ H xs us Q I r h
  obtain ⟨x, c, t, u, b, rfl, k, ty, e, q⟩ := h
  obtain ⟨u1, u2, rfl, r1, r2⟩ := vals2 r
  have e2 := k.eq r2
  subst e2
  obtain ⟨P, Z, p, hx⟩ := kit_ofZ I r1 ty
  exact PySem.W.kia_one Z I.kIn p e hx fun tk => ⟨.bl b, H, I.tok tk, rfl, q⟩
/-- e.f, e a held exception of the class at C -/
def tXh (K : PySem.W.Frag) (f : Str) (te : TE) : TE := fun σ H Q => te σ H fun x H1 => ∃ (a C dd : Addr) (fs : List (Str × V)) (v : V), x = .ref a ∧ H1 a = some (XcO (.ref C) (some dd) a) ∧ XfC K C ∧ PySem.W.findIn K (.ref C) f = some none ∧ H1 dd = some (.xd fs) ∧ fs.lookup f = some v ∧ Q v H1
theorem pe_xh {e : Expr} {te : TE} {pos : Pos} {n : Str} (he : PE X e te) (hb : attributeBase e n X.env (eval e X.env) = eval e X.env := by rfl) : PE X (.Attribute e n pos) (tXh X.K n te) := by
  refine ⟨fun pins s σ H Q I h => ?_⟩
  refine attr_of hb (thn (he.run pins s σ H _ I h) fun u s1 hh => ?_)
  obtain ⟨x, H1, I1, rx, a, C, dd, fs, v, rfl, ha, T, hno, ea, l, q⟩ := hh
  obtain rfl : u = Value.ref a := rx
  obtain ⟨⟨oe, vs, ho, hz, hdt⟩, _, _⟩ := I1.hok a _ ha
  have hx : ObjOk X.prog X.w H1 s1.heap dd (.xd fs) := I1.hok dd _ ea
  obtain ⟨mA, hns, hr⟩ := hx
  obtain ⟨od, hod, hl⟩ := lookIn_ns hns
  obtain ⟨u, hu, ru⟩ := RelO.some_of (v := v) (o := mA n) (by rw [← l]; exact hr n)
  have J : PySem.W.InstAt s1.heap a oe C (some od) := ⟨ho, hz.1, by unfold PySem.W.notCls; rw [hdt] <;> rfl, by rw [hz.2]; exact hod⟩
  exact HandSPX.exc_get I1.kIn J T.ga T.gg T.exC (PySem.W.findObj_own T.hdC hno rfl (by rw [hl, hu])) (handed_of ru) ⟨v, H1, I1.tok _, ru, q⟩
end
end L2

end
section
set_option maxHeartbeats 1000000
/-! try: .. except X as n: what is caught is held on behind the suite. -/
namespace L2
open PySem PySem.Spec PyProof.Rows SBX
section
variable {X : Cx} {pins : List (Addr × Obj)} {σ : St} {H : Hp} {s : Shared}
/-- an object that was not there at the entry is tracked from now on -/
theorem Inv.track {a : Addr} {oe : Obj} {vs : Array Value} {cls : Value} {d : Option Addr} (I : Inv X pins σ H s) (e : s.heap.get? a = some oe) (hz : Zc cls d oe) (hd : oe.data = .fields vs) (na : H a = none) (n0 : X.s_0.heap.get? a = none) (nL : a ≠ X.env.locals) (np : ∀ p ∈ X.pn ++ pins, p.1 ≠ a) :
    Inv X pins σ (upd H a (XcO cls d a)) s := by
  have ne0 : ∀ b o, X.s_0.heap.get? b = some o → b ≠ a := fun b o q z => by rw [z, n0] at q; cases q
  have neS : ∀ b u, H b = some u → b ≠ a := fun b u q => ne_of_none q na
  refine ⟨I.ok, I.os, I.bare, ⟨I.base.keep, I.base.slot, fun b o q n hx => ?_, I.base.there, fun b xs q => ?_, fun b o u q => ?_, fun b ps q => ?_⟩, I.loc, I.cell, ?_, fun x c q => ?_, fun p hp => ?_, fun b u q => ?_, I.len⟩
  · rw [upd_ne (ne0 b o q)]; exact I.base.free b o q n hx
  · have z := I.base.tups b xs q
    rw [upd_ne (neS _ _ z)]; exact z
  · have z := I.base.frzs b o u q
    rw [upd_ne (neS _ _ z)]; exact z
  · obtain ⟨more, z⟩ := I.base.tbls b ps q
    exact ⟨more, by rw [upd_ne (neS _ _ z)]; exact z⟩
  · rw [upd_ne (Ne.symm nL)]; exact I.free
  · have nc : c ≠ a := fun z => by
      obtain ⟨v, o, ho, hdc⟩ := I.cell x c q
      rw [z, e] at ho
      cases ho
      rw [hd] at hdc
      cases hdc
    rw [upd_ne nc]; exact I.freeC x c q
  · obtain ⟨z1, z2, z3, z4, z5⟩ := I.pin p hp
    exact ⟨z1, by rw [upd_ne (np p hp)]; exact z2, z3, z4, z5⟩
  · by_cases hb : b = a
    · subst hb
      rw [upd_same] at q
      cases q
      exact xcO_ok e hz hd
    · rw [upd_ne hb] at q
      exact (I.hok b u q).stay (fun c v _ r => r) (fun c r => by rw [upd_ne (neS _ _ r)]; exact r) fun c xs r => by rw [upd_ne (neS _ _ r)]; exact r

theorem notHere {B h : Heap} {X : Cx} {a : Addr} {cls : Value} {d : Option Addr} (hs : X.stack = X.env :: X.outer) (fl : HandSPX.FlyingZ B (X.env :: X.outer) a (Zc cls d) h) : a ∉ frs X.stack := by
  rw [hs]
  intro hm
  obtain ⟨oe, vs, he, _, hd⟩ := fl.there
  obtain ⟨_, o', e', hnf⟩ := fl.2.2.1.mem hm
  rw [he] at e'
  cases e'
  exact hnf _ hd
/-- what the clause «except x as n: c = n» wishes of an exception of the body: slot i is n's, j is c's; the exception is held on -/
def wHold (K : PySem.W.Frag) (c : Value) (n i j : Nat) (Wout : WX) (D : Ends) : WX := fun cls d σ H =>
  ∃ b, PySem.W.exmOne K cls c = some b ∧ (b = true → σ.length = n → ∀ a, H a = none → D.nx (((σ.set i (some (.ref a))).set j (some (.ref a))).set i none) (upd H a (XcO cls d a))) ∧ (b = false → Wout cls d σ H)
theorem ps_hold {x n cn : Str} {c : Value} {i j : Nat} {body : List Stmt} {np pos pos' p1 p2 p3 : Pos} {tb : WX → TS} {Wout : WX} (hs : X.stack = X.env :: X.outer) (hf : X.env.frame = some X.env.locals) (hex : X.ex = []) (hN : X.N.Nodup) (hi : X.N[i]? = some n) (hln : X.env.kindOf n = some .local) (hj : X.N[j]? = some cn) (hlc : X.env.kindOf cn = some .local)
    (hdn : (n == ("__debug__" : Str)) = false) (hdc : (n == ("__classdict__" : Str)) = false) (hc : Names X x c) (tk : Takes X Wout) (hsw : swapsWith (.Name n p2) (some (.Name cn p1)) p3.line X.env = pure false)
    (hb : ∀ (W : WX) (pn : List (Addr × Obj)) (xe : Value → Shared → Prop), Takes (X.tr pn xe) W → PassesOwn (model X.prog X.w) X.A X.env xe → PSs (X.tr pn xe) body (tb W)) :
    PS X (.Try body [.ExceptHandler (some (.Name x np)) (some n) [.Assign [.Name cn p1] (.Name n p2) p3] pos'] [] [] pos) (fun D σ H => tb (wHold X.K c X.N.length i j Wout D) D σ H) := by
  refine ⟨fun pins s σ H D I h => ?_⟩
  have ok := I.ok
  have hfr : X.A.frames = some (X.env :: X.outer) := ok.frames.trans (congrArg some hs)
  refine wpAny_Try_except (wpAny_mono ((hb _ (X.pn ++ pins) _ (fun u s' xx => ?C) PassesOwn.looking).run [] s σ H D (I.toTry _) h) (fun f s1 hsp => ?N) (fun _ _ z => z))
  case N =>
    cases f with
    | next => obtain ⟨σ', H', J, q⟩ := hsp; exact wpAny_execs_nil ⟨σ', H', J.ofTry ok, q⟩
    | brk => obtain ⟨σ', H', J, q⟩ := hsp; exact ⟨σ', H', J.ofTry ok, q⟩
    | cont => obtain ⟨σ', H', J, q⟩ := hsp; exact ⟨σ', H', J.ofTry ok, q⟩
    | ret u => obtain ⟨v, σ', H', J, r, q⟩ := hsp; exact ⟨v, σ', H', J.ofTry ok, r, q⟩
  case C =>
    obtain ⟨a, B, sI, pins', σ', H', cls, d, rfl, J', nb, up, sky, na, os, ag, b, hb1, hyes, hno⟩ := xx
    have J : Inv X pins σ' H' sI := J'.ofTry ok
    have sky2 : Sky B (X.env :: X.outer) a (Zc cls d) X.env.locals s'.heap := hs ▸ sky
    show wpAny (model X.prog X.w) X.A (noteFrame (.ref a) X.env) _ _ _
    refine Sky.land Zc.steady hfr hf sky2 fun h3 fl3 up3 => ?_
    have J3 : Inv X pins σ' H' { s' with heap := h3 } := J.landed nb fl3.1 (up.trans up3) os ag
    obtain ⟨oe3, vs3, he3, hz3, hd3⟩ := fl3.there
    have nst := notHere hs fl3
    have nL : a ≠ X.env.locals := fun z => nst (by rw [hs]; exact List.mem_filterMap.mpr ⟨X.env, List.mem_cons_self, by rw [hf, z]⟩)
    have nF : a ∉ X.fs := fun hm => nst (by
      rw [hs]
      obtain ⟨e, he, q⟩ := List.mem_filterMap.mp hm
      exact List.mem_filterMap.mpr ⟨e, List.mem_cons_of_mem _ he, q⟩)
    have nI : sI.heap.get? a = none := by
      cases e : sI.heap.get? a with
      | none => rfl
      | some o =>
        have z := nb a o e nst
        rw [fl3.2.1] at z
        cases z
    have n0 : X.s_0.heap.get? a = none := by
      cases e : X.s_0.heap.get? a with
      | none => rfl
      | some o =>
        obtain ⟨o', z⟩ := J.base.there a o e (by rw [hex]; exact fun z => nomatch z)
        rw [nI] at z
        cases z
    have npin : ∀ p ∈ X.pn ++ pins, p.1 ≠ a := fun p hp z => by
      have y := (J.pin p hp).1
      rw [z, nI] at y
      cases y
    have S3 := J3.suite he3 hd3 na nL nF
    refine wpAny_handleBy_cons (codeAny_handlers_test ?_) (by intro q; cases q)
    have LT : PySem.W.Looks (model X.prog X.w) h3 (typeOf (.ref a)) cls := fun A Q E s k q => wpAny_typeOf_ref (k _ _ he3) (by rw [hz3.1]; exact q)
    have LM := PySem.W.exm_one (M := model X.prog X.w) J3.kIn LT hb1
    have test : ∀ {Q : Value → Shared → Prop} {E : Value → Shared → Prop}, Q c { s' with heap := h3 } → wpAny (model X.prog X.w) (X.A.mark (some (.ref a))) (eval (.Name x np) X.env) Q E { s' with heap := h3 } := fun {Q E} q => by
      obtain ⟨hg, hdbg, hm | ⟨hm, hv, hnn⟩⟩ := hc
      · exact ld_glob (X := X.suite a ((a, oe3) :: (X.pn ++ pins))) S3 hg hm q hdbg
      · exact ld_blt (X := X.suite a ((a, oe3) :: (X.pn ++ pins))) S3 hg hm hv q hnn hdbg
    refine test (LM.here ?_)
    cases b with
    | true =>
      refine codeAny_handlers_suite_as (HandSPX.lands_againZ fl3 fun h4 fl4 up4 => ?_)
      have J4 : Inv X pins σ' H' { s' with heap := h4 } := J.landed nb fl4.1 ((up.trans up3).trans up4) os ag
      obtain ⟨oe4, vs4, he4, hz4, hd4⟩ := fl4.there
      have S4 := J4.suite he4 hd4 na nL nF
      refine store_ok (X := X.suite a ((a, oe4) :: (X.pn ++ pins))) (v := .ref a) S4 hN hi (.inl hln) rfl (fun s5 S5 => ?_) (.inr hln)
      have li : i < σ'.length := by rw [J.len]; exact (List.getElem?_eq_some_iff.mp hi).1
      have pe : PE (X.suite a ((a, oe4) :: (X.pn ++ pins))) (.Name n p2) (tVar i) := pe_var (X := X.suite a ((a, oe4) :: (X.pn ++ pins))) hi (.inl hln) hdn hdc
      have st := pss_one (ps_set (X := X.suite a ((a, oe4) :: (X.pn ++ pins))) (pos := p3) (pos' := p1) hN hj (.inl hlc) pe hsw (.inr hlc))
      refine wpAny_mono (st.run [] s5 _ H' { nx := fun σ6 H6 => σ6 = (σ'.set i (some (.ref a))).set j (some (.ref a)) ∧ H6 = H', rt := fun _ _ => False } S5 ⟨.ref a, List.getElem?_set_self li, rfl, rfl⟩) (fun f s6 hsp => ?_) (fun _ _ z => False.elim z)
      cases f with
      | next =>
        obtain ⟨σ6, H6, S6, e6, e7⟩ := hsp
        subst e6 e7
        have pn := S6.pin (a, oe4) (List.mem_append_left _ List.mem_cons_self)
        have J6 := (S6.unsuite ok).track pn.1 hz4 hd4 na n0 nL npin
        exact gone_ok J6 hN hi hln fun s7 J7 => ⟨_, _, J7, hyes rfl J.len a na⟩
      | brk => obtain ⟨_, _, _, z⟩ := hsp; exact False.elim z
      | cont => obtain ⟨_, _, _, z⟩ := hsp; exact False.elim z
      | ret u => obtain ⟨_, _, _, _, _, z⟩ := hsp; exact False.elim z
    | false =>
      show wpAny _ X.A (handleBy (.ref a) X.env []) _ _ _
      refine wpAny_handleBy_nil ?_
      obtain ⟨k1, k2, k3, oe, vs, T, oT, ts', he, hz, hd, h1, hr⟩ := id fl3
      unfold PySem.passOn
      refine wpAny_bind (wpAny_field he hd h1 ?_)
      rw [if_neg (show ¬ ((Value.ref T == Value.none) = true) from by simp)]
      have fin : wpAny (model X.prog X.w) X.A (setFlight (.ref a) X.env.frame) (fun _ s4 => wpAny (model X.prog X.w) X.A (throw (.ref a) : Sem Flow) (SP X pins D) X.xe s4) X.xe { s' with heap := h3 } := by
        rw [hf]
        exact HandSPX.setFlight_upZ fl3 fun h4 hh4 up4 => wpAny_throw (tk _ _ ⟨a, B, sI, pins, σ', H', cls, d, rfl, J, nb, (up.trans up3).trans up4, .inr (.inr (by rw [hs]; exact hh4)), na, os, ag, hno rfl⟩)
      first
        | exact wpAny_bind (wpAny_pure (wpAny_bind fin))
        | exact wpAny_bind fin
end
end L2

namespace LamX
open PySem PySem.Spec PyProof.Rows L2 SBX
/-- heard: caught = None / try: a() / except x as e: caught = e / return caught -/
def THeard (K : PySem.W.Frag) (CS : Addr) : (XK → Hp → VK → Prop) → Hp → VK → Prop := fun tl H Q =>
  tl (fun cls d H' => PySem.W.exmOne K cls (.ref CS) = some true ∧ ∀ a, H' a = none → Q (.ref a) (upd H' a (XcO cls d a))) H (fun _ H' => ∃ v, (some (some V.non) : Option (Option V)) = some (some v) ∧ Q v H')
theorem heard_gives {X : Cx} {x q e : Str} {sg : Scope} {g CS : Addr} {cdg : Value} {j : Nat} {p1 p2 p3 p4 p5 p6 p7 p8 p9 p10 p11 p12 p13 p14 p15 : Pos} (hge : sg.names.lookup e = some .globalImplicit) (hme : X.mg e = some (.ref CS)) (hde : (e == ("__debug__" : Str)) = false)
    (h1 : sg.names.lookup ("ask" : Str) = some .local) (h2 : sg.names.lookup ("caught" : Str) = some .local) (h3 : sg.names.lookup ("error" : Str) = some .local) :
    GivesTo X ["ask", "caught", "error"] x sg g cdg
      [.Assign [.Name "caught" p1] (.Constant .none j p2) p3,
       .Try [.Expr (.Call (.Name "ask" p4) [] [] p5) p6] [.ExceptHandler (some (.Name e p7)) (some "error") [.Assign [.Name "caught" p8] (.Name "error" p9) p10] p11] [] [] p12,
       .Return (some (.Name "caught" p13)) p14] "ask" q (THeard X.K CS) := by
  intro f c' s H Q tl act hc h
  have nd : (["ask", "caught", "error"] : List Str).Nodup := by decide +kernel
  have hgl : Gl (cxOf C8.CX0 X.prog X.w X.K X.mg X.base ["ask", "caught", "error"] x sg g cdg X.A X.stack s H C8.E0).nox e := hge
  refine ⟨_, pss_cons (ps_set (X := (cxOf C8.CX0 X.prog X.w X.K X.mg X.base ["ask", "caught", "error"] x sg g cdg X.A X.stack s H C8.E0).nox) (i := 1) nd rfl (Or.inl h2) pe_non rfl (Or.inr h2))
    (pss_cons (ps_hold (X := (cxOf C8.CX0 X.prog X.w X.K X.mg X.base ["ask", "caught", "error"] x sg g cdg X.A X.stack s H C8.E0).nox) (c := .ref CS) (i := 2) (j := 1)
      (tb := fun W D σ H => ∃ Ech : XK, (∀ cls d σ' H', Ech cls d H' → W cls d σ' H') ∧ σ[0]? = some (some (.ref f)) ∧ H c' = some (CodeO c' q) ∧ tl Ech H (fun _ H1 => D.nx σ H1))
      rfl rfl rfl nd rfl h3 rfl h2 (by decide) (by decide) ⟨hgl, hde, .inl hme⟩ takes0 rfl (fun W pn xe tk _ => ?_))
    (pss_one (ps_ret (pe_var (i := 1) rfl (.inl h2))))), ?_⟩
  · refine ⟨fun pins s' σ H' D I h' => ?_⟩
    obtain ⟨Ech, hW, e1, e2, e3⟩ := h'
    have hp := act W pn xe Ech p4 p5 tk hW
    exact (pss_one (ps_expr (pos := p6) hp)).run pins s' σ H' D I ⟨e1, e2, e3⟩
  · refine ⟨fun cls d H' => PySem.W.exmOne X.K cls (.ref CS) = some true ∧ ∀ a, H' a = none → Q (.ref a) (upd H' a (XcO cls d a)), fun cls d σ' H' ⟨b1, b2⟩ => ⟨true, b1, fun _ hl a na => ?_, fun z => nomatch z⟩, rfl, hc, ?_⟩
    · have hl3 : σ'.length = 3 := hl
      match σ', hl3 with
      | [x0, x1, x2], _ => exact ⟨.ref a, rfl, b2 a na⟩
    · exact h
end LamX

end
section
set_option maxHeartbeats 1000000
/-! The facts of the top, read by one Hook. -/
namespace SB
open PySem PySem.Spec PyProof.Rows L2 SBX

theorem band {a b : Bool} (h : (a && b) = true) : a = true ∧ b = true := Bool.and_eq_true_iff.mp h
/-- a def of the text: where its object lies, what it is; clo: the names that it captures -/
structure DefG where
  ad : PySem.W.Frag → Addr
  name : Str
  qual : Str
  params : Arguments
  body : List Stmt
  scope : Scope
  dfl : List He.Dv := []
  clo : List Str := []
abbrev GW : Type := Option (Str × Str × Arguments × FuncBody × Scope × Addr × List Str × Addr)
def gW (K : PySem.W.Frag) (d : DefG) : GW := match K.lookup (d.ad K) with
  | some ⟨_, _, .func fd, _⟩ => some (fd.name, fd.qualname, fd.params, fd.body, fd.scope, fd.globals, fd.closure.map (·.1), fd.builtins)
  | _ => none
def DefG.val (d : DefG) : GW := some (d.name, d.qual, d.params, .stmts d.body, d.scope, mainGlobals, d.clo, builtinsNs)
def DefG.ok (K : PySem.W.Frag) (d : DefG) : Bool := PySem.W.keepIn K (.ref (d.ad K)) && (match K.lookup (d.ad K) with
  | some ⟨_, _, .func fd, _⟩ => PySem.W.codeIn K fd.code d.qual && He.dflB K fd.defaults (d.dfl.map (He.Dv.v K))
  | _ => false)
/-- what is known of a def -/
structure DefG.At (K : PySem.W.Frag) (d : DefG) : Prop where
  e : gW K d = d.val
  c : d.ok K = true
theorem DefG.At.look {K : PySem.W.Frag} {d : DefG} (a : d.At K) : ∃ (oc : Value) (od : Option Addr) (osl : Array (Option Value)) (fd : FuncData), K.lookup (d.ad K) = some ⟨oc, od, .func fd, osl⟩ ∧ PySem.W.keepIn K (.ref (d.ad K)) = true ∧ PySem.W.codeIn K fd.code d.qual = true ∧ He.dflB K fd.defaults (d.dfl.map (He.Dv.v K)) = true ∧
    fd.name = d.name ∧ fd.qualname = d.qual ∧ fd.params = d.params ∧ fd.body = .stmts d.body ∧ fd.scope = d.scope ∧ fd.globals = mainGlobals ∧ fd.closure.map (·.1) = d.clo ∧ fd.builtins = builtinsNs := by
  obtain ⟨kp, c2⟩ := band a.c
  have e := a.e
  unfold gW at e
  cases q : K.lookup (d.ad K) with
  | none => rw [q] at c2; cases c2
  | some o =>
    obtain ⟨oc, od, dt, osl⟩ := o
    rw [q] at c2 e
    cases dt with
    | func fd =>
      obtain ⟨k1, k2⟩ := band c2
      have e2 : (some (fd.name, fd.qualname, fd.params, fd.body, fd.scope, fd.globals, fd.closure.map (·.1), fd.builtins) : GW) = some (d.name, d.qual, d.params, .stmts d.body, d.scope, mainGlobals, d.clo, builtinsNs) := e
      simp only [Option.some.injEq, Prod.mk.injEq] at e2
      obtain ⟨h1, h2, h3, h4, h5, h6, h7, h8⟩ := e2
      exact ⟨oc, od, osl, fd, rfl, kp, k1, k2, h1, h2, h3, h4, h5, h6, h7, h8⟩
    | _ => cases c2
theorem DefG.At.funD {K : PySem.W.Frag} {d : DefG} (a : d.At K) (hc : d.clo = []) : ∃ fd, FunD K d.name d.qual d.params d.body d.scope (d.dfl.map (He.Dv.v K)) [] (d.ad K) fd := by
  obtain ⟨oc, od, osl, fd, lk, kp, hcd, hdf, h1, h2, h3, h4, h5, h6, h7, h8⟩ := a.look
  rw [hc] at h7
  obtain ⟨n1, n2, n3, n4, n5, n6, n7, n8, n9, n10, n11, n12, n13, n14, n15⟩ := fd
  have h9 : n7 = [] := List.map_eq_nil_iff.mp h7
  subst h1 h2 h3 h4 h5 h6 h8 h9
  exact ⟨_, ⟨oc, od, n8, n9, n10, n11, n12, n13, n14, osl, rfl, lk, hcd, He.dflB_ok hdf, .inl rfl⟩, kp⟩
theorem DefG.At.funC {K : PySem.W.Frag} {d : DefG} (a : d.At K) (hc : d.clo = [("__class__" : Str)]) (hd : d.dfl = []) : ∃ (oc : Value) (od : Option Addr) (osl : Array (Option Value)) (kV doc pm : Value) (an : Option Addr) (cdv ct : Value) (cc : Addr),
    K.lookup (d.ad K) = some ⟨oc, od, .func (PySem.W.ksFn d.name d.qual d.params d.body d.scope .none kV doc pm an cdv ct cc), osl⟩ ∧ PySem.W.codeIn K cdv d.qual = true := by
  obtain ⟨oc, od, osl, fd, lk, kp, hcd, hdf, h1, h2, h3, h4, h5, h6, h7, h8⟩ := a.look
  rw [hc] at h7
  rw [hd] at hdf
  obtain ⟨n1, n2, n3, n4, n5, n6, n7, n8, n9, n10, n11, n12, n13, n14, n15⟩ := fd
  match n7, h7 with
  | [(x, cc)], h7 =>
    have hx : x = ("__class__" : Str) := (List.cons.inj h7).1
    subst h1 h2 h3 h4 h5 h6 h8 hx
    have hn : n8 = .none := by
      cases n8 with
      | none => rfl
      | _ => cases hdf
    subst hn
    exact ⟨oc, od, osl, n9, n10, n11, n12, n13, n14, cc, lk, hcd⟩
/-! ### exceptions -/
def clsB (K : PySem.W.Frag) (C : Addr) : Bool := match K.lookup C with
  | some ⟨.type t, _, .cls cd, sl⟩ => (match cd.mro, sl.toList with
    | .ref C' :: bm, [_, _, _, _, some (.builtin n), _] => decide (t = "type") && (C' == C && (n == "ValueError.__new__" && (!cd.hasDel && (cd.hasDict && HandSPX.refsVE bm))))
    | _, _ => false)
  | _ => false
theorem clsB_ok {K : PySem.W.Frag} {C : Addr} (h : clsB K C = true) : ∃ nm q N bs bm sn sub ab col dd k0 k1 k2 k3 k5, K.lookup C = some (excClassObj nm q C N bs bm true sn sub ab col dd k0 k1 k2 k3 k5 "ValueError.__new__") ∧ HandSPX.refsVE bm = true := by
  unfold clsB at h
  split at h
  · rename_i t dd cd sl ho
    split at h
    · rename_i C' bm k0 k1 k2 k3 n k5 hm hs
      obtain ⟨h1, h⟩ := band h
      obtain ⟨h2, h⟩ := band h
      obtain ⟨h3, h⟩ := band h
      obtain ⟨h4, h⟩ := band h
      obtain ⟨h5, h6⟩ := band h
      have e1 := of_decide_eq_true h1
      have e2 := beq_iff_eq.mp h2
      have e3 := beq_iff_eq.mp h3
      obtain ⟨nm, bs, mro, ns, qn, hd, sn, sub, ab, col, del⟩ := cd
      dsimp only at hm h4 h5
      have e4 : del = false := by simpa using h4
      subst e1 e2 e3 e4 hm h5
      have hsl : sl = #[k0, k1, k2, k3, some (.builtin "ValueError.__new__"), k5] := by
        obtain ⟨l⟩ := sl
        simp only at hs
        rw [hs]
      subst hsl
      exact ⟨nm, qn, ns, bs, bm, sn, sub, ab, col, dd, k0, k1, k2, k3, k5, ho, h6⟩
    · cases h
  · cases h
def eqO (a b : Option (Option Value)) : Bool := decide (a = b)
def eqB (a b : Option Bool) : Bool := decide (a = b)
/-- the cells and the code of an init -/
def cellB (file : Str) (K : PySem.W.Frag) (C fI : Addr) : Bool := match K.lookup fI with
  | some ⟨_, _, .func fd, _⟩ => (match fd.code, fd.closure with
    | .ref cda, [(_, cc)] => (match K.lookup cda, K.lookup cc with
      | some ⟨_, _, .fields vs, _⟩, some ⟨_, _, .cell (some (.ref C')), _⟩ => decide (C' = C) && (match (vs[2]? : Option Value) with
        | some (.str f _) => decide (f = file)
        | _ => false)
      | _, _ => false)
    | _, _ => false)
  | _ => false
theorem cellB_ok {file : Str} {K : PySem.W.Frag} {C fI : Addr} (h : cellB file K C fI = true) {oc : Value} {od : Option Addr} {osl : Array (Option Value)} {name qual : Str} {params : Arguments} {body : List Stmt} {scope : Scope} {dV kV doc pm : Value} {an : Option Addr} {cdv ct : Value} {cc : Addr}
    (lk : K.lookup fI = some ⟨oc, od, .func (PySem.W.ksFn name qual params body scope dV kV doc pm an cdv ct cc), osl⟩) :
    ∃ (cda : Addr) (ccl cl : Value) (cdd cld : Option Addr) (ccs csl : Array (Option Value)) (vs : Array Value) (tf : Tok), cdv = .ref cda ∧ K.lookup cda = some ⟨ccl, cdd, .fields vs, ccs⟩ ∧ vs[2]? = some (.str file tf) ∧ K.lookup cc = some ⟨cl, cld, .cell (some (.ref C)), csl⟩ := by
  unfold cellB at h
  rw [lk] at h
  cases cdv with
  | ref cda =>
    have h' : (match K.lookup cda, K.lookup cc with
      | some ⟨_, _, .fields vs, _⟩, some ⟨_, _, .cell (some (.ref C')), _⟩ => decide (C' = C) && (match (vs[2]? : Option Value) with
        | some (.str f _) => decide (f = file)
        | _ => false)
      | _, _ => false) = true := h
    split at h'
    · rename_i o1 d1 vs s1 o2 d2 C' s2 e1 e2
      obtain ⟨h1, h2⟩ := band h'
      have eC := of_decide_eq_true h1
      split at h2
      · rename_i f tf hv
        have ef := of_decide_eq_true h2
        subst eC ef
        exact ⟨cda, o1, o2, d1, d2, s1, s2, vs, tf, rfl, e1, hv, e2⟩
      · cases h2
    · cases h'
  | _ => cases h
/-- all but the text of an exception class and its init -/
def supB (file : Str) (K : PySem.W.Frag) (C fI : Addr) (fs : List Str) : Bool :=
  clsB K C && (cellB file K C fI && (eqO (PySem.W.findIn K (.ref C) "__setattr__") (some (some (.builtin "object.__setattr__"))) && (fs.all (fun f => eqO (PySem.W.findIn K (.ref C) f) (some none)) &&
  (eqO (PySem.W.findIn K (.ref C) "__init__") (some (some (.ref fI))) && (eqO (PySem.W.ks_superIn K C C "__init__") (some (some (.builtin "ValueError.__init__"))) && (decide (PySem.W.typeIn K (.ref fI) = some (.type "function")) &&
  (PySem.W.keepIn K (.ref C) && (eqB (PySem.W.subIn K (.ref C) (.type "BaseException")) (some true) && (eqB (PySem.W.subIn K (.ref C) (.type "ValueError")) (some true) && (eqB (PySem.W.mroIn K C (.ref C)) (some true) &&
  (decide (PySem.W.typeIn K (.ref C) = some (.type "type")) && eqO (PySem.W.nsIn K cStatics "thirdparty.any") (some none))))))))))))
theorem supB_ok {prog : Program} {K : PySem.W.Frag} {C : Addr} {st : Stmt} {fs : List Str} {d : DefG} (h : supB prog.main.file K C (d.ad K) fs = true) (a : d.At K) (hn : d.name = "__init__") (hp : d.params = defArgs st) (hb : d.body = defBody st) (hs : d.scope = defScope st)
    (hc : d.clo = [("__class__" : Str)]) (hd : d.dfl = []) (sh : Shape st fs) (nt : (prog.main.scope.names.lookup ("super" : Str)).isSome = false) : SupTxt prog K C (d.ad K) st fs := by
  obtain ⟨h1, h⟩ := band h
  obtain ⟨h2, h⟩ := band h
  obtain ⟨h3, h⟩ := band h
  obtain ⟨h4, h⟩ := band h
  obtain ⟨h5, h⟩ := band h
  obtain ⟨h6, h⟩ := band h
  obtain ⟨h7, h⟩ := band h
  obtain ⟨h8, h⟩ := band h
  obtain ⟨h9, h⟩ := band h
  obtain ⟨h10, h⟩ := band h
  obtain ⟨h11, h⟩ := band h
  obtain ⟨h12, h13⟩ := band h
  obtain ⟨oc, od, osl, kV, doc, pm, an, cdv, ct, cc, lk, hcd⟩ := a.funC hc hd
  rw [hn, hp, hb, hs] at lk
  obtain ⟨cda, ccl, cl, cdd, cld, ccs, csl, vs, tf, rfl, l1, l2, l3⟩ := cellB_ok h2 lk
  exact ⟨sh, nt, clsB_ok h1, of_decide_eq_true h3, fun f hf => of_decide_eq_true (List.all_eq_true.mp h4 f hf), of_decide_eq_true h5, of_decide_eq_true h6, of_decide_eq_true h7, h8, of_decide_eq_true h9, of_decide_eq_true h10, of_decide_eq_true h11, of_decide_eq_true h12, of_decide_eq_true h13,
    ⟨oc, cl, ccl, od, cld, cdd, pm, doc, ct, kV, an, osl, csl, ccs, cda, cc, vs, tf, d.qual, lk, hcd, l1, l2, l3⟩⟩

/-! ### the Hook -/
abbrev AlS : Type := Bool × (List GW × List (Option (List (Option (Str × Int)))))
def asS (g : Addr → Option Obj) (n : Nat) : List Addr := He.asD g n ++ [cStatics]
def obsK (fa : List He.Fa) (dg : List DefG) (ts : List He.Tab) (tf : List He.Defn) (ex : PySem.W.Frag → Bool) (g : Addr → Option Obj) (K : PySem.W.Frag) : AlS :=
  ((fa.all fun f => f.ok K) && ((dg.all fun d => d.ok K) && (ex K && He.tabsB g tf K)), dg.map (gW K), ts.map fun t => He.dicW K (t.1 K))
def obsS (n : Nat) (fa : List He.Fa) (dg : List DefG) (ts : List He.Tab) (tf : List He.Defn) (ex : PySem.W.Frag → Bool) (g : Addr → Option Obj) : AlS := obsK fa dg ts tf ex g (He.frT g (asS g n))
def valS (dg : List DefG) (ts : List He.Tab) (w : World) : AlS := (true, dg.map DefG.val, ts.map fun t => some (He.keysIn w.params t.2))
structure SaysS (fa : List He.Fa) (dg : List DefG) (ts : List He.Tab) (tf : List He.Defn) (ex : PySem.W.Frag → Bool) (w : World) (h : Heap) (K : PySem.W.Frag) : Prop where
  fa : ∀ f ∈ fa, f.ok K = true
  dg : ∀ d ∈ dg, d.At K
  ex : ex K = true
  ts : ∀ t ∈ ts, ∃ es n, KDict K w (t.1 K) es n
  hd : ∀ p ∈ tf, PySem.W.codeHdIn K (He.cT K p).1 (He.cT K p).2 = true
  out : ∀ p ∈ tf, K.lookup (He.cT K p).2 = none
  empty : ∀ p ∈ tf, h.get? (He.cT K p).2 = some { cls := .none, data := .fields #[] }
theorem saysS_of {n : Nat} {fa : List He.Fa} {dg : List DefG} {ts : List He.Tab} {tf : List He.Defn} {ex : PySem.W.Frag → Bool} {w : World} {h : Heap} (e : obsS n fa dg ts tf ex h.get? = valS dg ts w) : SaysS fa dg ts tf ex w h (He.frT h.get? (asS h.get? n)) := by
  have e1 : ((fa.all fun f => f.ok (He.frT h.get? (asS h.get? n))) && ((dg.all fun d => d.ok (He.frT h.get? (asS h.get? n))) && (ex (He.frT h.get? (asS h.get? n)) && He.tabsB h.get? tf (He.frT h.get? (asS h.get? n))))) = true := congrArg (fun z : AlS => z.1) e
  have e2 : dg.map (gW (He.frT h.get? (asS h.get? n))) = dg.map DefG.val := congrArg (fun z : AlS => z.2.1) e
  have e3 : (ts.map fun t => He.dicW (He.frT h.get? (asS h.get? n)) (t.1 (He.frT h.get? (asS h.get? n)))) = ts.map fun t => some (He.keysIn w.params t.2) := congrArg (fun z : AlS => z.2.2) e
  obtain ⟨c1, c⟩ := band e1
  obtain ⟨c2, c⟩ := band c
  obtain ⟨c3, c4⟩ := band c
  have key : ∀ p ∈ tf, PySem.W.codeHdIn (He.frT h.get? (asS h.get? n)) (He.cT (He.frT h.get? (asS h.get? n)) p).1 (He.cT (He.frT h.get? (asS h.get? n)) p).2 = true ∧ ∃ o, h.get? (He.cT (He.frT h.get? (asS h.get? n)) p).2 = some o ∧ He.emptyTab o = true := fun p hp => by
    obtain ⟨h3, h4⟩ := band (List.all_eq_true.mp c4 p hp)
    refine ⟨h3, ?_⟩
    cases q : h.get? (He.cT (He.frT h.get? (asS h.get? n)) p).2 with
    | none => rw [q] at h4; cases h4
    | some o => rw [q] at h4; exact ⟨o, rfl, h4⟩
  refine ⟨fun f hf => List.all_eq_true.mp c1 f hf, fun d hd => ⟨List.map_inj_left.mp e2 d hd, List.all_eq_true.mp c2 d hd⟩, c3, fun t ht => He.dicW_ok (List.map_inj_left.mp e3 t ht), fun p hp => (key p hp).1, fun p hp => ?_, fun p hp => ?_⟩
  · obtain ⟨_, o, q, z⟩ := key p hp
    exact He.frT_none q z
  · obtain ⟨_, o, q, z⟩ := key p hp
    rw [q, He.emptyTab_eq z]
def hookS (n : Nat) (fa : List He.Fa) (dg : List DefG) (ts : List He.Tab) (tf : List He.Defn) (ex : PySem.W.Frag → Bool) : PySem.W.Hook where
  α := AlS
  obs := fun s => obsS n fa dg ts tf ex s.heap.get?
  val := fun w => valS dg ts w
  says := fun w h => ∃ K : PySem.W.Frag, K.In h ∧ SaysS fa dg ts tf ex w h K
  of := fun _ _ e => ⟨_, He.frT_in, saysS_of e⟩
  keeps := fun _ _ _ ⟨K, hK, c⟩ k => ⟨K, PySem.W.Frag.In.keeps hK k, ⟨c.fa, c.dg, c.ex, c.ts, c.hd, c.out, fun p hp => k _ _ (c.empty p hp)⟩⟩
theorem obsS_eq {n : Nat} {fa : List He.Fa} {dg : List DefG} {ts : List He.Tab} {tf : List He.Defn} {ex : PySem.W.Frag → Bool} {g : Addr → Option Obj} {s : Shared} (h : ∀ a, g a = s.heap.get? a) : obsS n fa dg ts tf ex g = (hookS n fa dg ts tf ex).obs s := by
  have e : g = s.heap.get? := funext h
  rw [e] <;> rfl
end SB

end
section
set_option maxHeartbeats 1000000
/-! Calls of the text's defs by their promises. -/
namespace SB
open PySem PySem.Spec PyProof.Rows L2 SBX

/-- the global def x keeps the promise sp -/
structure CallOk (P : Program) (w : World) (K : PySem.W.Frag) (mg : Str → Option Value) (base : Heap) (k : Nat) (x : Str) (ps : List Str) (sp : Sp) : Prop where
  ex : ∃ (f : Addr) (fd : FuncData), FnOk P w K mg base (L2.CX P w) k f fd ps sp ∧ mg x = some (.ref f) ∧ PySem.W.keepIn K (.ref f) = true ∧ Binds K fd ps []
section
variable {P : Program} {w : World} {K : PySem.W.Frag} {mg : Str → Option Value} {base : Heap}
theorem callOk {x qual : Str} {params : Arguments} {body : List Stmt} {scope : Scope} {f : Addr} {N ps : List Str} {k : Nat} {sp : Sp} (g : mg x = some (.ref f)) (F : ∃ fd, FunD K x qual params body scope [] [] f fd) (S : FnScope N ps scope)
    (hb : ∀ (kV doc pm : Value) (an : Option Addr) (cdv ct : Value) (us : List Value), us.length = ps.length → bindArgs (PySem.W.fnOf x qual params body scope .none kV doc pm an cdv ct) ⟨us, []⟩ = pure (ps.zip us))
    (len : ∀ vs H Q E, sp vs H Q E → vs.length = ps.length)
    (hbody : ∀ (cdv : Value) (A : Around) (outer : List Env) (s : Shared) (H : Hp) (vs : List V) (Q : VK) (E : XK), Room k (A.deeper (envOfC qual scope s.heap.objs.size f cdv)) → sp vs H Q E →
      ∃ t, PSs (cxOf (L2.CX P w) P w K mg base N qual scope f cdv A outer s H E) body t ∧ t { nx := fun _ H' => Q .non H', rt := Q } (start N vs) H) : CallOk P w K mg base (k + 1) x ps sp := by
  obtain ⟨fd, F⟩ := F
  exact ⟨f, fd, F.ok S len hbody, g, F.kp, F.bindsN hb⟩
theorem CallOk.mono {j k : Nat} {x : Str} {ps : List Str} {sp : Sp} (c : CallOk P w K mg base j x ps sp) (h : j ≤ k) : CallOk P w K mg base k x ps sp := by
  obtain ⟨f, fd, F, g, kp, b⟩ := c.ex
  exact ⟨f, fd, F.mono h, g, kp, b⟩
theorem CallOk.imp {k : Nat} {x : Str} {ps : List Str} {sp sp' : Sp} (c : CallOk P w K mg base k x ps sp) (h : ∀ vs H Q E, sp' vs H Q E → sp vs H Q E) : CallOk P w K mg base k x ps sp' := by
  obtain ⟨f, fd, F, g, kp, b⟩ := c.ex
  exact ⟨f, fd, F.imp h, g, kp, b⟩
/-- what a callee lets out this def lets out -/
theorem passE {N : List Str} {qual : Str} {scope : Scope} {f : Addr} {cdv : Value} {A : Around} {outer : List Env} {s : Shared} {H : Hp} {E : XK} : Passes (L2.CX P w) (cxOf (L2.CX P w) P w K mg base N qual scope f cdv A outer s H E) E :=
  passes_call (takes_of rfl rfl rfl rfl) (fun _ _ _ _ h => h)
end
section
variable {X : Cx} {k : Nat} {x : Str} {ps : List Str} {sp : Sp} {E : XK} {p pos : Pos} {e : Expr} {es : List Expr} {t : TA}
theorem pe_callD (C : CallOk X.prog X.w X.K X.mg X.base k x ps sp) (hr : Room k X.A) (hx : Passes (L2.CX X.prog X.w) X E) (ha : PA X (e :: es) t) (hg : Gl X x := by rfl)
    (hdb : (x == ("__debug__" : Str)) = false := by decide) (he : starEach (e :: es) X.env = (false, eval e X.env) :: starEach es X.env := by rfl) (hpl : (backTo pos (starEach es X.env)).any (·.1) = false := by rfl) :
    PE X (.Call (.Name x p) (e :: es) [] pos) (tCall sp [] E t) := by
  obtain ⟨f, fd, F, g, kp, b⟩ := C.ex
  exact pe_call F hr hg g kp b .nil hx ha hdb he hpl
theorem pe_callD0 (C : CallOk X.prog X.w X.K X.mg X.base k x ps sp) (hr : Room k X.A) (hx : Passes (L2.CX X.prog X.w) X E) (hg : Gl X x := by rfl)
    (hdb : (x == ("__debug__" : Str)) = false := by decide) : PE X (.Call (.Name x p) [] [] pos) (tCall sp [] E tNil) := by
  obtain ⟨f, fd, F, g, kp, b⟩ := C.ex
  exact pe_call0 F hr hg g kp b .nil hx hdb
end
end SB

end
section
set_option maxHeartbeats 1000000
/-! Facts of classes and exceptions, from checks. -/
namespace SB
open PySem PySem.Spec PyProof.Rows L2 SBX

def scB (sc : Scope) (fs : List Str) : Bool :=
  decide (sc.names.lookup ("self" : Str) = some .local) && (fs.all (fun f => decide (sc.names.lookup f = some .local) && (!(decide (f = "self")) && !(f == ("__debug__" : Str)))) && (decide (sc.names.lookup ("super" : Str) = some .globalImplicit) &&
  (decide (sc.names.lookup ("__class__" : Str) = some .free) && (sc.names.all (fun x => !(decide (x.2 = .cell))) && (decide (sc.kind = .function) && (!sc.isCoroutine && !sc.isGenerator))))))
theorem shape_of {st : Stmt} {fs : List Str} {msg : Str} {kk : Nat} {p0 p1 p2 p3 p4 p5 : Pos} {qs : List (Pos × Pos × Pos × Pos)} (hl : fs.length = qs.length) (hb : defBody st = supS msg kk p0 p1 p2 p3 p4 p5 :: List.zipWith asgF fs qs) (hp : (p2.endLine == p4.line) = true)
    (hh : ∃ ar, ((defArgs st).posonlyargs ++ (defArgs st).args).head? = some ar ∧ ar.arg = "self") (hs : scB (defScope st) fs = true) : Shape st fs := by
  obtain ⟨h1, h⟩ := band hs
  obtain ⟨h2, h⟩ := band h
  obtain ⟨h3, h⟩ := band h
  obtain ⟨h4, h⟩ := band h
  obtain ⟨h5, h⟩ := band h
  obtain ⟨h6, h⟩ := band h
  obtain ⟨h7, h8⟩ := band h
  refine ⟨⟨msg, kk, p0, p1, p2, p3, p4, p5, qs, hl, hp, hb⟩, hh, of_decide_eq_true h1, fun f hf => ?_, of_decide_eq_true h3, of_decide_eq_true h4, fun x hx => ?_, of_decide_eq_true h6, by simpa using h7, by simpa using h8⟩
  · obtain ⟨k1, k⟩ := band (List.all_eq_true.mp h2 f hf)
    obtain ⟨k2, k3⟩ := band k
    exact ⟨of_decide_eq_true k1, by simpa using k2, by simpa using k3⟩
  · simpa using List.all_eq_true.mp h5 x hx
theorem shape1 {st : Stmt} {f : Str} {msg : Str} {kk : Nat} {p0 p1 p2 p3 p4 p5 a b c d : Pos} (hb : defBody st = [supS msg kk p0 p1 p2 p3 p4 p5, asgF f (a, b, c, d)]) (hp : (p2.endLine == p4.line) = true)
    (hh : ∃ ar, ((defArgs st).posonlyargs ++ (defArgs st).args).head? = some ar ∧ ar.arg = "self") (hs : scB (defScope st) [f] = true) : Shape st [f] := shape_of (qs := [(a, b, c, d)]) rfl hb hp hh hs
theorem shape2 {st : Stmt} {f g : Str} {msg : Str} {kk : Nat} {p0 p1 p2 p3 p4 p5 a b c d a' b' c' d' : Pos} (hb : defBody st = [supS msg kk p0 p1 p2 p3 p4 p5, asgF f (a, b, c, d), asgF g (a', b', c', d')]) (hp : (p2.endLine == p4.line) = true)
    (hh : ∃ ar, ((defArgs st).posonlyargs ++ (defArgs st).args).head? = some ar ∧ ar.arg = "self") (hs : scB (defScope st) [f, g] = true) : Shape st [f, g] := shape_of (qs := [(a, b, c, d), (a', b', c', d')]) rfl hb hp hh hs

section
variable {prog : Program} {w : World} {K : PySem.W.Frag} {C fI : Addr} {st : Stmt}
theorem supOk1 {f : Str} (T : SupTxt prog K C fI st [f]) (hf : f ≠ "self")
    (hb : ∀ (qual : Str) (pm doc ct kV : Value) (an : Option Addr) (cdv : Value) (cc : Addr) (x : Addr) (u : Value), bindArgs (PySem.W.ksFn "__init__" qual (defArgs st) (defBody st) (defScope st) .none kV doc pm an cdv ct cc) ⟨[.ref x, u], []⟩ = pure [(("self" : Str), .ref x), (f, u)]) :
    SupOk prog w K C fI st [f] where
  T := T
  tail := fun us qs h1 h2 => match us, qs, h1, h2 with
    | [u], [q], _, _ => tail1 T
  m0 := fun us h1 x => match us, h1 with
    | [u], _ => by
      show ([(f, u), (("self" : Str), Value.ref x)] : List (Str × Value)).lookup ("self" : Str) = _
      rw [lk_ne hf.symm, lk_self]
  m1 := fun us h1 x p hp => match us, h1 with
    | [u], _ => by
      have e : p = (f, u) := by simpa using hp
      rw [e]
      show ([(f, u), (("self" : Str), Value.ref x)] : List (Str × Value)).lookup f = _
      rw [lk_self]
  bind := fun us h1 x s fd hfd => match us, h1 with
    | [u], _ => by
      obtain ⟨qual, pm, doc, ct, kV, an, cdv, cc, rfl⟩ := hfd
      exact .of_eq (hb _ _ _ _ _ _ _ _ _ _)
  few := by show 1 ≤ 2; decide
theorem supOk2 {f g : Str} (T : SupTxt prog K C fI st [f, g]) (hf : f ≠ "self") (hg : g ≠ "self") (hfg : f ≠ g)
    (hb : ∀ (qual : Str) (pm doc ct kV : Value) (an : Option Addr) (cdv : Value) (cc : Addr) (x : Addr) (u v : Value), bindArgs (PySem.W.ksFn "__init__" qual (defArgs st) (defBody st) (defScope st) .none kV doc pm an cdv ct cc) ⟨[.ref x, u, v], []⟩ = pure [(("self" : Str), .ref x), (f, u), (g, v)]) :
    SupOk prog w K C fI st [f, g] where
  T := T
  tail := fun us qs h1 h2 => match us, qs, h1, h2 with
    | [u, v], [q, q'], _, _ => tail2 T hfg
  m0 := fun us h1 x => match us, h1 with
    | [u, v], _ => by
      show ([(g, v), (f, u), (("self" : Str), Value.ref x)] : List (Str × Value)).lookup ("self" : Str) = _
      rw [lk_ne hg.symm, lk_ne hf.symm, lk_self]
  m1 := fun us h1 x p hp => match us, h1 with
    | [u, v], _ => by
      have e : p = (f, u) ∨ p = (g, v) := by simpa using hp
      show ([(g, v), (f, u), (("self" : Str), Value.ref x)] : List (Str × Value)).lookup p.1 = _
      rcases e with rfl | rfl
      · rw [lk_ne hfg, lk_self]
      · rw [lk_self]
  bind := fun us h1 x s fd hfd => match us, h1 with
    | [u, v], _ => by
      obtain ⟨qual, pm, doc, ct, kV, an, cdv, cc, rfl⟩ := hfd
      exact .of_eq (hb _ _ _ _ _ _ _ _ _ _ _)
  few := by show 2 ≤ 2; decide
end

def excCB (K : PySem.W.Frag) (D : Addr) : Bool :=
  eqO (PySem.W.findIn K (.ref D) "__getattribute__") (some (some (.builtin "BaseException.__getattribute__"))) && (eqO (PySem.W.findIn K (.ref D) "__getattr__") (some none) && (eqB (PySem.W.subIn K (.ref D) (.type "BaseException")) (some true) && (PySem.W.hasDictIn K D &&
  (eqO (PySem.W.findIn K (.ref D) "__class__") (some (some (.builtin "object.__class__"))) && (eqO (PySem.W.specialIn K (.builtin "object.__class__") "__get__") (some (some (.builtin "getset_descriptor.__get__"))) && (eqB (PySem.W.takesIn K (.builtin "object.__class__")) (some true) &&
  eqB (PySem.W.mroIn K D (.type "object")) (some true)))))))
theorem excCB_ok {K : PySem.W.Frag} {D : Addr} (h : excCB K D = true) : ExcC K D := by
  obtain ⟨h1, h⟩ := band h
  obtain ⟨h2, h⟩ := band h
  obtain ⟨h3, h⟩ := band h
  obtain ⟨h4, h⟩ := band h
  obtain ⟨h5, h⟩ := band h
  obtain ⟨h6, h⟩ := band h
  obtain ⟨h7, h8⟩ := band h
  exact ⟨of_decide_eq_true h1, of_decide_eq_true h2, of_decide_eq_true h3, h4, of_decide_eq_true h5, of_decide_eq_true h6, of_decide_eq_true h7, of_decide_eq_true h8⟩
/-- what isinstance asks of a plain own class -/
structure TyC (K : PySem.W.Frag) (C : Addr) : Prop where
  ha : PySem.W.findIn K (.ref C) "__class__" = some (some (.builtin "object.__class__"))
  hn : PySem.W.specialIn K (.builtin "object.__class__") "__get__" = some (some (.builtin "getset_descriptor.__get__"))
  ht : PySem.W.takesIn K (.builtin "object.__class__") = some true
  hm : PySem.W.mroIn K C (.type "object") = some true
def tyB (K : PySem.W.Frag) (C : Addr) : Bool := eqO (PySem.W.findIn K (.ref C) "__class__") (some (some (.builtin "object.__class__"))) && (eqO (PySem.W.specialIn K (.builtin "object.__class__") "__get__") (some (some (.builtin "getset_descriptor.__get__"))) &&
  (eqB (PySem.W.takesIn K (.builtin "object.__class__")) (some true) && eqB (PySem.W.mroIn K C (.type "object")) (some true)))
theorem tyB_ok {K : PySem.W.Frag} {C : Addr} (h : tyB K C = true) : TyC K C := by
  obtain ⟨h1, h⟩ := band h
  obtain ⟨h2, h⟩ := band h
  obtain ⟨h3, h4⟩ := band h
  exact ⟨of_decide_eq_true h1, of_decide_eq_true h2, of_decide_eq_true h3, of_decide_eq_true h4⟩
theorem TyC.ins {K : PySem.W.Frag} {H : Hp} {C a dx : Addr} {fs : List (Str × V)} (t : TyC K C) (c : Cls K C) (e : H a = some (.ins C dx fs)) : TyZ K H (.ref a) (.ref C) := .base (.base (.ins e c t.ha t.hn t.ht t.hm))

/-- a static method's def -/
def sAd (K : PySem.W.Frag) (C : Addr) (m : Str) : Addr := He5.wf K C "staticmethod" m
def statB (K : PySem.W.Frag) (C : Addr) (m : Str) : Bool := He5.wrapB K C "staticmethod" "staticmethod.__get__" m && (PySem.W.readsIn K C (.type "type") && eqO (PySem.W.specialIn K (.ref C) "__getattribute__") (some (some (.builtin "type.__getattribute__"))))
/-- C.m is a static method, its def at g -/
structure SMet (K : PySem.W.Frag) (C : Addr) (m : Str) (g : Addr) : Prop where
  rd : PySem.W.readsIn K C (.type "type") = true
  ga : PySem.W.specialIn K (.ref C) "__getattribute__" = some (some (.builtin "type.__getattribute__"))
  ex : ∃ p, PySem.W.findCls K (.ref C) (.type "type") m = some (.get (.builtin "staticmethod.__get__") (.ref p) .none (.ref C)) ∧ ∃ rest, PySem.W.recIn K p "staticmethod" = some (.ref g :: rest)
theorem statB_ok {K : PySem.W.Frag} {C : Addr} {m : Str} (h : statB K C m = true) : SMet K C m (sAd K C m) := by
  obtain ⟨h1, h⟩ := band h
  obtain ⟨h2, h3⟩ := band h
  exact ⟨h2, of_decide_eq_true h3, ⟨_, He5.wrapB_ok h1⟩⟩
end SB
namespace L2
open PySem PySem.Spec PyProof.Rows SBX SB
section
variable {X : Cx} {pins : List (Addr × Obj)} {σ : St} {H : Hp} {s : Shared} {C g : Addr} {m : Str} {A : Around} {E : Value → Shared → Prop}
theorem getsm_ok {b : Bool} {Q : Value → Shared → Prop} (I : Inv X pins σ H s) (k : SMet X.K C m g) (h : ∀ s', Inv X pins σ H s' → Q (.ref g) s') : wpAny (model X.prog X.w) A (getAttr (.ref C) m b) Q E s := by
  obtain ⟨p, hf, rest, hp⟩ := k.ex
  refine PySem.W.cls_bind I.kIn k.rd hf ?_
  exact wpAny_call (PySem.W.sm_get (s := { s with toks := s.toks + 1 }) I.kIn hp (PySem.W.handed_on rfl (h _ (I.tok _))))
theorem getmethsm_ok {pl : Sem Bool} {Q : Value × List Value → Shared → Prop} (I : Inv X pins σ H s) (k : SMet X.K C m g) (h : ∀ s', Inv X pins σ H s' → Q (.ref g, []) s') : wpAny (model X.prog X.w) A (getMethod (.ref C) m pl) Q E s :=
  PySem.W.method_cls I.kIn k.ga (getsm_ok I k h)
end
/-- e.m(..), e the class at C, m a static method -/
def tSMeth (C : Addr) (sp : Sp) (E : XK) (ta : TE) (t : TA) : TE := fun σ H Q => ta σ H fun x H1 => x = .ref C ∧ t σ H1 fun vs H2 => sp vs H2 Q E
/-- .. by keywords alone -/
def tSMethK (C : Addr) (m : Nat) (sp : Sp) (E : XK) (ta : TE) (tk : TA) : TE := fun σ H Q => ta σ H fun x H1 => x = .ref C ∧ tk σ H1 fun zs H2 => zs.length = m ∧ sp zs H2 Q E
section
variable {X : Cx} {CX : CXT} {k : Nat} {C g : Addr} {fd : FuncData} {ps ks : List Str} {sp : Sp} {E : XK} {o e : Expr} {es : List Expr} {kws : List Keyword} {m : Str} {pos apos : Pos} {ta : TE} {t tk : TA} {pl : Sem Bool}
theorem pe_smeth (he : PE X o ta) (c : SMet X.K C m g) (F : FnOk X.prog X.w X.K X.mg X.base CX k g fd ps sp) (hk : PySem.W.keepIn X.K (.ref g) = true) (hb : Binds X.K fd ps []) (hr : Room k X.A) (hx : Passes CX X E) (ha : PA X (e :: es) t)
    (hst : starEach (e :: es) X.env = (false, eval e X.env) :: starEach es X.env := by rfl) (hpl : (backTo pos (starEach es X.env)).any (·.1) = false := by rfl)
    (ht : eval (.Call (.Attribute o m apos) (e :: es) [] pos) X.env = (do
      let ov ← eval o X.env
      standAt apos.atName
      let (f, first) ← holding [ov] (getMethod ov m pl)
      callWith pos f first (backTo pos (starEach (e :: es) X.env)) (backToKw pos (keywordEach [] X.env))) := by rfl) :
    PE X (.Call (.Attribute o m apos) (e :: es) [] pos) (tSMeth C sp E ta t) := by
  refine ⟨fun pins s σ H Q I h => ?_⟩
  refine PySem.W.methodCall_KW (pl := pl) (thn (he.run pins s σ H _ I h) fun u s1 ⟨x, H1, I1, rx, ex, q⟩ => ?_) ht
  subst ex
  obtain rfl : u = Value.ref C := rx
  refine getmethsm_ok I1 c fun s2 I2 => ?_
  refine PySem.W.callWith_K (h₀ := X.base) I.ok.mod.kin hk (thn (ha.run pos pins s2 σ H1 _ I2 q) fun us s3 ⟨vs, H2, I3, r, q2⟩ => ⟨I3.kIn, ?_⟩) hst hpl
  have z := run_fn (ds := []) (dvs := []) F hr hb .nil hx I3 r (by rw [List.append_nil]; exact q2)
  exact z
/-- how keywords alone bind -/
structure KOnly (fd : FuncData) (ps ks : List Str) : Prop where
  to : ∀ (s : Shared) (ws : List Value), ws.length = ks.length → BindsTo s fd ⟨[], ks.zip ws⟩ (ps.zip ws)
theorem pe_smethK (he : PE X o ta) (c : SMet X.K C m g) (F : FnOk X.prog X.w X.K X.mg X.base CX k g fd ps sp) (hk : PySem.W.keepIn X.K (.ref g) = true) (hb : KOnly fd ps ks) (hr : Room k X.A) (hx : Passes CX X E) (hkw : PK X kws tk)
    (hall : (backToKw pos (keywordEach kws X.env)).all (·.1.isSome) = true := by rfl) (hks : (backToKw pos (keywordEach kws X.env)).filterMap (·.1) = ks := by rfl)
    (hpl : ((backTo pos (starEach [] X.env)).any (·.1) || (backToKw pos (keywordEach kws X.env)).any (·.1.isNone)) = false := by rfl)
    (ht : eval (.Call (.Attribute o m apos) [] kws pos) X.env = (do
      let ov ← eval o X.env
      standAt apos.atName
      let (f, first) ← holding [ov] (getMethod ov m pl)
      callWith pos f first (backTo pos (starEach [] X.env)) (backToKw pos (keywordEach kws X.env))) := by rfl) :
    PE X (.Call (.Attribute o m apos) [] kws pos) (tSMethK C ks.length sp E ta tk) := by
  refine ⟨fun pins s σ H Q I h => ?_⟩
  refine PySem.W.methodCall_KW (pl := pl) (thn (he.run pins s σ H _ I h) fun u s1 ⟨x, H1, I1, rx, ex, q⟩ => ?_) ht
  subst ex
  obtain rfl : u = Value.ref C := rx
  refine getmethsm_ok I1 c fun s2 I2 => ?_
  refine PySem.W.callWith_KW0 (h₀ := X.base) I.ok.mod.kin hk hall ?_ hpl
  refine thn (hkw.run pos pins s2 σ H1 _ I2 q) fun ws s3 ⟨zs, H2, I3, rz, l2, q2⟩ => ⟨I3.kIn, ?_⟩
  rw [hks]
  have hl : ws.length = ks.length := rz.length.symm.trans l2
  refine wpAny_call (codeAny_mono (F.run X.A X.stack s3 H2 ⟨[], ks.zip ws⟩ ws zs Q E hr I3.env0 (hb.to s3 ws hl) rz q2) fun r s' hq => ?_)
  cases r with
  | error e => exact hx pins σ H2 s3 e s' I3 hq
  | ok fl =>
    cases fl with
    | ret u => exact I3.after hq
    | next => exact False.elim hq
    | brk => exact False.elim hq
    | cont => exact False.elim hq
/-- C(k = v, ..): keywords alone -/
theorem pe_makeK {x : Str} {p : Pos} {fI : Addr} {gf : List Value → List Value → List Value} {gV : List V → List V → List V} (M : Mk X.K C fI) (F : FnOk X.prog X.w X.K X.mg X.base CX k fI fd ps sp) (hr : Room (k + 1) X.A) (hm : X.mg x = some (.ref C)) (hb : KBn X.K fd ps 1 ks gf gV) (hx : Passes CX X E) (hkw : PK X kws tk) (hg : Gl X x := by rfl)
    (hall : (backToKw pos (keywordEach kws X.env)).all (·.1.isSome) = true := by rfl) (hks : (backToKw pos (keywordEach kws X.env)).filterMap (·.1) = ks := by rfl)
    (hdb : (x == ("__debug__" : Str)) = false := by decide) (hpl : ((backTo pos (starEach [] X.env)).any (·.1) || (backToKw pos (keywordEach kws X.env)).any (·.1.isNone)) = false := by rfl) :
    PE X (.Call (.Name x p) [] kws pos) (tMakeN C 0 ks.length sp gV E tNil tk) := by
  refine ⟨fun pins s σ H Q I h => ?_⟩
  refine wpAny_Call_Name_kw (ld_glob I hg hm ?_ hdb)
  refine PySem.W.callWith_KW0 (h₀ := X.base) I.ok.mod.kin M.kp hall ?_ hpl
  have h' : tk σ H fun zs H2 => ([] : List V).length = 0 ∧ zs.length = ks.length ∧ ∀ x dx, H2 x = none → H2 dx = none → dx ≠ x → sp (gV [.ref x] zs) (upd (upd H2 dx (.own x)) x (.ins C dx [])) (fun v H3 => v = .non ∧ Q (.ref x) H3) E := h
  refine thn (hkw.run pos pins s σ H _ I h') fun ws s2 ⟨zs, H2, I2, rz, l1, l2, q2⟩ => ⟨I2.kIn, ?_⟩
  rw [hks]
  exact run_makeN M F hr hb hx I2 .nil rz l1 l2 q2
end
end L2

end
section
set_option maxHeartbeats 1000000
/-! An own object walked, measured, told. -/
namespace SB
open PySem PySem.Spec PyProof.Rows L2 SBX

/-- the text of an iter that hands on the iter of a field -/
def itS (F : Str) (p0 p1 p2 p3 p4 : Pos) : Stmt := .Return (some (.Call (.Name "iter" p0) [.Attribute (.Name "self" p1) F p2] [] p3)) p4
def strTy (x : Str) : String := if x.cps.all (· < 128) then "str_ascii_iterator" else "str_iterator"
theorem strTy_or (x : Str) : strTy x = "str_ascii_iterator" ∨ strTy x = "str_iterator" := by
  unfold strTy
  split
  · exact .inl rfl
  · exact .inr rfl
/-- the raw promise of such a method -/
def ItRaw (P : Program) (w : World) (K : PySem.W.Frag) (mg : Str → Option Value) (base : Heap) (k : Nat) (C f : Addr) (F : Str) : Prop :=
  ∀ (A : Around) (outer : List Env) (s : Shared) (H : Hp) (a dx : Addr) (fs : List (Str × V)) (x : Str), Room k A → Env0 P w K mg base A outer s H → H a = some (.ins C dx fs) → fs.lookup F = some (.str x) →
    codeAny (model P w) A (.call (.ref f) ⟨[.ref a], []⟩) (fun r s' => match r with
      | .ok (.ret u) => ∃ it t, u = .ref it ∧ s.heap.objs.size ≤ it ∧ s'.heap.IsStrIter it (strTy x) x t 0 ∧ s'.os = s.os ∧ AllBare s'.gens ∧ Un (frs outer) [] H H s.heap s'.heap ∧ HOk P w H s'.heap
      | .ok _ => False
      | .error e => L2.CX P w outer H s (fun _ _ _ => False) e s') s
theorem noCX {P : Program} {w : World} {outer : List Env} {H : Hp} {s s' : Shared} {u : Value} (c : L2.CX P w outer H s (fun _ _ _ => False) u s') : False := by
  obtain ⟨a, B, H', cls, d, e, fl, hok, ub, na, os, ag, hE⟩ := c
  exact hE
theorem call_iterStr {prog : Program} {w : World} {A : Around} {E : Value → Shared → Prop} {s : Shared} {x : Str} {t : Tok} {Q : Value → Shared → Prop}
    (hQ : ∀ o, Obj.cls o = .type (strTy x) → o.data = .fields #[.str x t, .int 0 0] → (∀ h : Heap, (h.push o).get? h.objs.size = some o) → Q (.ref s.heap.objs.size) { s with heap := s.heap.push o }) : wpAny (model prog w) A (call (.builtin "iter") [.str x t]) Q E s := by
  refine Calls.call_function_entry (by decide +kernel) (by decide +kernel) PySem.W.kdk_entry_iter (PySem.W.kdk_args_iter _) ?_
  unfold Builtin.«iter»
  refine wpAny_bind (m := someArgs "iter" 1 2 _) (wpAny_of_eq (a := [Value.str x t]) (by first | rfl | kernel_rfl!) ?_)
  show wpAny _ _ (pyIter (.str x t) >>= _) _ _ _
  cases ha : x.cps.all (· < 128)
  · refine wpAny_bind (wpAny_pyIter_wide ha ?_)
    exact wpAny_pure ⟨_, rfl, hQ { cls := .type "str_iterator", data := .fields #[.str x t, .int 0 0] } (by unfold strTy; rw [ha]; rfl) rfl fun h => Heap.get?_push_size h rfl⟩
  · refine wpAny_bind (wpAny_pyIter_ascii ha ?_)
    exact wpAny_pure ⟨_, rfl, hQ { cls := .type "str_ascii_iterator", data := .fields #[.str x t, .int 0 0] } (by unfold strTy; rw [ha]; rfl) rfl fun h => Heap.get?_push_size h rfl⟩
section
variable {P : Program} {w : World} {K : PySem.W.Frag} {mg : Str → Option Value} {base : Heap}
theorem itRaw_of {k : Nat} {C f : Addr} {F name qual : Str} {params : Arguments} {body : List Stmt} {scope : Scope} {N : List Str} {p0 p1 p2 p3 p4 : Pos} (Fn : ∃ fd, FunD K name qual params body scope [] [] f fd) (S : FnScope ("self" :: N) ["self"] scope)
    (hb : ∀ (kV doc pm : Value) (an : Option Addr) (cdv ct : Value) (us : List Value), us.length = 1 → bindArgs (PySem.W.fnOf name qual params body scope .none kV doc pm an cdv ct) ⟨us, []⟩ = pure ([("self" : Str)].zip us))
    (hbd : body = [itS F p0 p1 p2 p3 p4]) (cl : Cls K C) (nf : NoAttr K C F) (hi : mg "iter" = none) (gi : scope.names.lookup ("iter" : Str) = some .globalImplicit) (gs : scope.names.lookup ("self" : Str) = some .local) : ItRaw P w K mg base (k + 1) C f F := by
  obtain ⟨fd, Fn⟩ := Fn
  obtain ⟨oc, od, dV, kV, doc, pm, an, cdv, ct, osl, rfl, lk, hcd, hD, _⟩ := Fn.ex
  have hdv : dV = .none := by
    rcases hD with ⟨_, e⟩ | ⟨e, _⟩
    · exact e
    · exact absurd rfl e
  subst hdv
  subst hbd
  intro A outer s H a dx fs x hr e0 ha hf
  have KX : K.In s.heap := e0.mod.kin.keeps fun b o e => (e0.bs b o e).1
  have lim : s.heap.NoLimit := e0.mod.nolimit.keeps fun b o e => (e0.bs b o e).1
  have hkind : ∀ y ∈ [("self" : Str)].zip [Value.ref a], scope.names.lookup y.1 = some .local ∨ (scope.names.lookup y.1 = some .cell ∧ ((cellsFrom (s.heap.objs.size + 1) scope.names []).lookup y.1).isSome = true) := fun ⟨n, v⟩ hy => by
    rcases S.par n (List.of_mem_zip hy).1 with q | q
    · exact .inl q
    · exact .inr ⟨q, PySem.W.cellsFrom_some _ _ _ (.inl q)⟩
  refine codeAny_call_function hr.depth (KX _ _ lk) rfl S.co S.gen rfl (PySem.W.codeRec_of KX hcd) (BindsTo.of_eq (hb kV doc pm an cdv ct [.ref a] rfl) _ _ _ _ ?_)
  refine wpAny_newFunctionEnv_cells S.kind hkind fun env he s1 y => ?_
  subst he
  refine ⟨lim.keeps y.toInCall.keep, codeAny_func ?_⟩
  have I : Inv (cxOf (L2.CX P w) P w K mg base ("self" :: N) qual scope f cdv A outer s H (fun _ _ _ => False)) [] (start ("self" :: N) [.ref a]) H s1 := inv_start S hr.hd e0 rfl (.cons rfl .nil) y
  have hsz : s.heap.objs.size ≤ s1.heap.objs.size := by
    have q := I.sz
    exact q
  refine wpAny_execs_cons (wpAny_Return_some ?_)
  refine wpAny_Call_Name_kw (ld_blt (X := cxOf (L2.CX P w) P w K mg base ("self" :: N) qual scope f cdv A outer s H (fun _ _ _ => False)) I gi hi (by decide +kernel : bootBuiltins "iter" = some (.builtin "iter")) ?_)
  refine PyProof.Rows.callWith_builtin1 ?_
  have hslf : PE (cxOf (L2.CX P w) P w K mg base ("self" :: N) qual scope f cdv A outer s H (fun _ _ _ => False)) (.Name "self" p1) (tVar 0) := pe_var rfl (.inl gs)
  refine wpAny_mono ((pa_cons (pe_fld (pos := p2) (f := F) hslf rfl) pa_nil).run p3 [] s1 _ H (fun vs H1 => vs = [.str x] ∧ H1 = H) I ⟨V.ref a, rfl, a, C, dx, fs, .str x, rfl, ha, cl, nf, hf, rfl, rfl⟩) (fun us s2 hh => ?_) fun e s' he => he
  obtain ⟨vs, H1, I2, r, rfl, rfl⟩ := hh
  obtain ⟨u, rfl, ru⟩ := r.one
  obtain ⟨t, rfl⟩ := ru
  have hsz2 : s.heap.objs.size ≤ s2.heap.objs.size := I2.sz
  refine call_iterStr fun o hc hd hp => ?_
  have J := I2.kept (t' := s2.toks) (h' := s2.heap.push o) fun b ob e => Heap.get?_push_of_some _ e
  exact ⟨s2.heap.objs.size, t, rfl, hsz2, ⟨o, hp _, hc, hd⟩, J.os, J.bare, J.base, J.hok⟩
end
end SB
namespace L2
open PySem PySem.Spec PyProof.Rows SB
section
variable {X : Cx} {pins : List (Addr × Obj)} {σ : St} {H : Hp} {s : Shared} {C f : Addr} {k : Nat}
/-- for c in o, o an own object that hands on the iter of its text F -/
def iOwnStr (C : Addr) (F : Str) (te : TE) : TI := fun σ H R => te σ H fun v H1 => ∃ a dx fs x, v = .ref a ∧ H1 a = some (.ins C dx fs) ∧ fs.lookup F = some (.str x) ∧ R (Its x) H1
theorem pi_ownStr {tg e : Expr} {te : TE} {F : Str} (I0 : ItRaw X.prog X.w X.K X.mg X.base k C f F) (hr : Room k X.A) (hm : Meth X.K C "__iter__" f) (he : PE X e te) : PI X tg e (iOwnStr C F te) := by
  refine ⟨fun pins s σ H R I h => ?_⟩
  refine thn (he.run pins s σ H _ I h) fun v s1 ⟨y, H1, I1, r1, a, dx, fs, x, ey, ha, hf, q⟩ => ?_
  subst ey
  obtain rfl : v = Value.ref a := r1
  obtain ⟨mA, J, _⟩ := ins_get I1.hok ha
  obtain ⟨od, J, _⟩ := J.look
  obtain ⟨m0, hF⟩ := I1.fr
  refine PySem.W.owit_iter hF I1.ok.mod.kin J hm.at_ hm.fn ?_
  refine wpAny_call (codeAny_mono (I0 X.A X.stack s1 H1 a dx fs x hr I1.env0 ha hf) fun r s' hq => ?_)
  cases r with
  | error e => exact absurd hq (fun z => noCX z)
  | ok fl =>
    cases fl with
    | next => exact False.elim hq
    | brk => exact False.elim hq
    | cont => exact False.elim hq
    | ret u =>
      obtain ⟨it, t, rfl, hsz, st, os, ag, un, hok⟩ := hq
      have fp := I1.fpOk hsz (I1.hok.fresh hsz)
      obtain ⟨hh, g, d, tt, os'⟩ := s'
      obtain rfl : os' = s1.os := os
      have I2 : Inv X pins σ H1 ⟨hh, g, d, tt, s1.os⟩ := I1.call (h' := hh) (g' := g) (d' := d) (t' := tt) (ch := []) un hok ag (fun b z => absurd z (by simp))
      unfold PySem.W.OwitIt
      obtain ⟨oi, hoi, hci, hdi⟩ := id st
      have fin : PIE X pins σ tg R (.ref it) ⟨hh, g, d, tt, s1.os⟩ := ⟨it, [it], _, Its x, H1, rfl, I2, turn_str it x t (strTy x) (strTy_or x), st, fun b hb => by
        have e : b = it := by simpa using hb
        subst e
        exact fp, q⟩
      rcases strTy_or x with e | e
      · rw [e] at hci
        exact wpAny_specialOf (T := "str_ascii_iterator") ⟨oi, hoi, hci⟩ PySem.F.slot_str_ascii_iterator_next.lookup fin
      · rw [e] at hci
        exact wpAny_specialOf (T := "str_iterator") ⟨oi, hoi, hci⟩ PySem.F.slot_str_iterator_next.lookup fin

/-! ### special methods by their promises -/
theorem run_at {CX : CXT} {A1 : Around} {g : Addr} {fd : FuncData} {ps : List Str} {sp : Sp} {E : XK} {Q : VK} {us : List Value} {vs : List V} (sb : Sub X k A1) (F : FnOk X.prog X.w X.K X.mg X.base CX k g fd ps sp) (hb : Binds X.K fd ps []) (hx : Passes CX X E) (I : Inv X pins σ H s)
    (r : Vals vs us) (h : sp vs H Q E) : wpAny (model X.prog X.w) A1 (call (.ref g) us) (EP X pins σ Q) X.xe s := by
  have e0 : Env0 X.prog X.w X.K X.mg X.base A1 X.stack s H := by
    have e := I.env0
    exact ⟨by rw [sb.fr]; exact e.frames, e.mod, e.bs, e.bsz, e.funs, e.frf, e.hok, e.bare⟩
  have hl : us.length = ps.length := by rw [← r.length]; exact F.len _ _ _ _ h
  refine wpAny_call (codeAny_mono (F.run A1 X.stack s H ⟨us, []⟩ us vs Q E sb.room e0 (by
    have := hb s us I.kIn (by simpa using hl)
    simpa using this) r h) fun r s' hq => ?_)
  cases r with
  | error e => exact hx pins σ H s e s' I hq
  | ok fl =>
    cases fl with
    | ret u => exact I.after hq
    | next => exact False.elim hq
    | brk => exact False.elim hq
    | cont => exact False.elim hq
/-- an own class's special method m at f keeps the promise sp -/
structure Special (P : Program) (w : World) (K : PySem.W.Frag) (mg : Str → Option Value) (base : Heap) (k : Nat) (C : Addr) (m : Str) (ps : List Str) (sp : Sp) : Prop where
  ex : ∃ (f : Addr) (fd : FuncData), Meth K C m f ∧ FnOk P w K mg base (L2.CX P w) k f fd ps sp ∧ Binds K fd ps []
/-- len(o) -/
def rLenO (C : Addr) (sp : Sp) (E : XK) : List V → Hp → VK → Prop := fun xs H Q => ∃ a dx fs, xs = [.ref a] ∧ H a = some (.ins C dx fs) ∧ sp [.ref a] H (fun v H' => ∃ n : Int, v = .int n ∧ 0 ≤ n ∧ n < 2 ^ 63 ∧ Q (.int n) H') E
theorem call_lenO {ps : List Str} {sp : Sp} {E : XK} (S : Special X.prog X.w X.K X.mg X.base k C "__len__" ps sp) (hr : Room (k + 1) X.A) (hx : Passes (L2.CX X.prog X.w) X E) : CallR X (.builtin "len") (rLenO C sp E) := by
  intro pins s σ H xs us Q I rv h
  obtain ⟨a, dx, fs, rfl, ha, hq⟩ := h
  obtain ⟨u, rfl, ru⟩ := rv.one
  cases ru
  obtain ⟨f, fd, hm, F, hb⟩ := S.ex
  obtain ⟨mA, J, _⟩ := ins_get I.hok ha
  obtain ⟨od, J, _⟩ := J.look
  obtain ⟨m0, hF⟩ := I.fr
  have sb : Sub X k X.A.in1 := Sub.in1 (⟨hr, rfl⟩ : Sub X (k + 1) X.A)
  refine PySem.W.len_K hF I.ok.mod.kin J hm.at_ hm.fn (thn (run_at sb F hb hx I (vs := [.ref a]) (.cons rfl .nil) hq) fun u s' hh => ?_)
  obtain ⟨v, H', I', rv, n, rfl, h0, h1, q⟩ := hh
  obtain ⟨t, rfl⟩ := rv
  exact ⟨⟨h0, h1⟩, .int n, H', I'.tok _, ⟨_, rfl⟩, q⟩
/-- str(o) -/
def rStrO (C : Addr) (sp : Sp) (E : XK) : List V → Hp → VK → Prop := fun xs H Q => ∃ a dx fs, xs = [.ref a] ∧ H a = some (.ins C dx fs) ∧ sp [.ref a] H (fun v H' => ∃ x : Str, v = .str x ∧ Q (.str x) H') E
theorem call_strO {ps : List Str} {sp : Sp} {E : XK} (S : Special X.prog X.w X.K X.mg X.base k C "__str__" ps sp) (hr : Room (k + 2) X.A) (hx : Passes (L2.CX X.prog X.w) X E) : CallR X (.type "str") (rStrO C sp E) := by
  intro pins s σ H xs us Q I rv h
  obtain ⟨a, dx, fs, rfl, ha, hq⟩ := h
  obtain ⟨u, rfl, ru⟩ := rv.one
  cases ru
  obtain ⟨f, fd, hm, F, hb⟩ := S.ex
  obtain ⟨mA, J, _⟩ := ins_get I.hok ha
  obtain ⟨od, J, _⟩ := J.look
  have sb : Sub X k X.A.in1.in1 := Sub.in1 (Sub.in1 (⟨hr, rfl⟩ : Sub X (k + 2) X.A))
  have hu : X.A.in1.in1.units < PySem.cLine := sb.room.units0
  refine PySem.W.kso_call hu I.kIn J hm.at_ hm.fn (thn (run_at sb F hb hx I (vs := [.ref a]) (.cons rfl .nil) hq) fun u s' hh => ?_)
  obtain ⟨v, H', I', rv, y, rfl, q⟩ := hh
  obtain ⟨t, rfl⟩ := rv
  exact ⟨.str y, H', I', ⟨_, rfl⟩, q⟩
end
end L2

end
section
set_option maxHeartbeats 1000000
/-! More of texts: enumerate(text), text * n, text[::-1], swapcase, is not False. -/
namespace L2
open PySem PySem.Spec PyProof.Rows SB
/-- enumerate(text): each sign in a new pair with its place -/
def Itn (x : Str) : It :=
  ⟨fun i _ => i < x.cps.size, fun i H v H' => ∃ T c, v = .ref T ∧ H T = none ∧ H' = upd H T (.tup [.int (i : Nat), .str ⟨#[c]⟩]) ∧ x.cps[i]? = some c, fun i _ => x.cps.size ≤ i⟩
theorem enumTy (x : Str) : strIterType x = "str_ascii_iterator" ∨ strIterType x = "str_iterator" := by
  unfold strIterType
  split
  · exact .inl rfl
  · exact .inr rfl
theorem draws_str {prog : Program} {w : World} {A : Around} (hh : A.handled = none) (it : Addr) (x : Str) (t : Tok) :
    Draws prog w A it [it] x.cps.size (fun i v => ∃ c u, x.cps[i]? = some c ∧ v = .str ⟨#[c]⟩ u) (fun i h => h.IsStrIter it (strIterType x) x t i) := by
  rcases enumTy x with e | e
  · rw [e]; exact Draws.strAscii hh it x t
  · rw [e]; exact Draws.strWide hh it x t
theorem turn_enumS {P : Program} {w : World} {K : PySem.W.Frag} {elts : List Expr} {kk : Nat} {tpos : Pos} (x : Str) (t : Tok) (e it : Addr) :
    Turn P w K (.Tuple elts kk tpos) (Itn x) [e, it] e (fun i h => (∃ old, IsEnum h e it ((i : Nat) : Int) old) ∧ h.IsStrIter it (strIterType x) x t i ∧ e ≠ it) where
  mem := by simp
  obj := fun i h st b hb => by
    obtain ⟨⟨old, he⟩, ⟨o, ho, hc, hd⟩, _⟩ := st
    have e' : b = e ∨ b = it := by simpa using hb
    rcases e' with z | z
    · rw [z]; exact ⟨_, he, fun v q => nomatch q⟩
    · rw [z]; exact ⟨o, ho, fun v q => by rw [hd] at q; cases q⟩
  keep := fun i h h' st k => let ⟨⟨old, he⟩, ⟨o, ho, r⟩, hne⟩ := st; ⟨⟨old, k e (by simp) _ he⟩, ⟨o, k it (by simp) o ho, r⟩, hne⟩
  item := by
    intro X hP hw hK hc i pins s σ H E I hf st hg
    subst hP hw hK
    obtain ⟨⟨old, he⟩, hit, hne⟩ := st
    have hel : e < s.heap.objs.size := Heap.lt_size he
    have hil : it < s.heap.objs.size := by obtain ⟨_, q, _⟩ := hit; exact Heap.lt_size q
    have D : Draws X.prog X.w X.A.in1 it [it] x.cps.size (fun i v => ∃ c u, x.cps[i]? = some c ∧ v = .str ⟨#[c]⟩ u) (fun i h => h.IsStrIter it (strIterType x) x t i) := draws_str (A := X.A.in1) (show X.A.in1.handled = none from I.ok.hd hc) it x t
    refine wpAny_pyNext_enum_itemD D he hit hg hne (by simpa using hne) fun y h' tk hy ho hit' hT hsz hk => ?_
    obtain ⟨c, u, hcx, rfl⟩ := hy
    refine ⟨_, rfl, wpAny_letOwnedTupleGo_enum (s := { s with heap := h', toks := tk + 1 }) ho fun h'' he' sb => ?_⟩
    have hT2 : h''.get? s.heap.objs.size = some { cls := .type "tuple", data := .seq #[.int i tk, .str ⟨#[c]⟩ u] } := (sb.2 _ (Nat.ne_of_gt hel)).trans hT
    have new : ObjOk X.prog X.w (upd H s.heap.objs.size (.tup [.int (i : Nat), .str ⟨#[c]⟩])) h'' s.heap.objs.size (.tup [.int (i : Nat), .str ⟨#[c]⟩]) :=
      ⟨by show 2 ≤ sizeLine; decide, [.int i tk, .str ⟨#[c]⟩ u], .cons ⟨_, rfl⟩ (.cons ⟨_, rfl⟩ .nil), ⟨_, hT2, rfl, _, rfl⟩⟩
    have I1 : Inv X pins σ (upd H s.heap.objs.size (.tup [.int (i : Nat), .str ⟨#[c]⟩])) { s with heap := h'', toks := tk + 1 } :=
      I.turnedNew (ch := [e, it]) (fun b ob hb q => (sb.2 b (fun z => hb (by simp [z]))).trans (hk b ob (fun z => hb (by simp [z])) (fun z => hb (by simp [z])) q)) hf (Nat.le_refl _) new
    have hit'' : h''.IsStrIter it (strIterType x) x t (i + 1) := by
      obtain ⟨o, ho', r⟩ := hit'
      exact ⟨o, (sb.2 it (Ne.symm hne)).trans ho', r⟩
    refine ⟨.ref s.heap.objs.size, _, I1, rfl, ⟨_, c, rfl, I.hok.fresh (Nat.le_refl _), rfl, hcx⟩, ⟨⟨.str ⟨#[c]⟩ u, ?_⟩, hit'', hne⟩, fun b hb => ?_⟩
    · have e1 : ((i + 1 : Nat) : Int) = (i : Int) + 1 := by omega
      rw [e1]; exact he'
    · have hb' : b < s.heap.objs.size := by
        have e' : b = e ∨ b = it := by simpa using hb
        rcases e' with z | z
        · rw [z]; exact hel
        · rw [z]; exact hil
      rw [upd_ne (Nat.ne_of_lt hb')]
      exact (hf b hb).1
  done := by
    intro X hP hw hK hc i pins s σ H E I hf st hg
    subst hP hw hK
    obtain ⟨⟨old, he⟩, hit, hne⟩ := st
    obtain ⟨f0, f1, f2, f3, f4, f5⟩ := hf it (by simp)
    have hge : x.cps.size ≤ i := hg
    by_cases hi : i = x.cps.size
    · subst hi
      have D : Draws X.prog X.w X.A.in1 it [it] x.cps.size (fun i v => ∃ c u, x.cps[i]? = some c ∧ v = .str ⟨#[c]⟩ u) (fun i h => h.IsStrIter it (strIterType x) x t i) := draws_str (A := X.A.in1) (show X.A.in1.handled = none from I.ok.hd hc) it x t
      exact wpAny_pyNext_enum_endD D he hit fun h' eb => ⟨rfl, I.turned (t' := s.toks) (fun b o hb q => eb b o hb q) f0 f1 f3 f4 f5⟩
    · have D0 : Draws X.prog X.w X.A.in1 it [it] i (fun _ _ => False) (fun j h => j = i ∧ h.IsStrIter it (strIterType x) x t i) := {
        live := fun _ _ st => let ⟨_, o, ho, _⟩ := st; ⟨o, ho⟩
        frame := fun _ _ _ st hk => let ⟨e, o, ho, r⟩ := st; ⟨e, o, hk it (by simp) o ho, r⟩
        item := fun j s Q E hj st hQ => absurd st.1 (Nat.ne_of_lt hj)
        done := fun s Q E st hE => by
          obtain ⟨_, st⟩ := st
          rcases enumTy x with e | e
          · rw [e] at st
            exact wpAny_nextOf_ascii_end (I.ok.hd hc) st (by simp; omega) hE
          · rw [e] at st
            exact wpAny_nextOf_wide_end (I.ok.hd hc) st (by simp; omega) hE }
      exact wpAny_pyNext_enum_endD D0 he ⟨rfl, hit⟩ fun h' eb => ⟨rfl, I.turned (t' := s.toks) (fun b o hb q => eb b o hb q) f0 f1 f3 f4 f5⟩
  self := fun A i s Q E st h => let ⟨⟨_, he⟩, _⟩ := st; wpAny_pyIter_enum he h
def iEnumS (ta : TA) : TI := fun σ H R => ta σ H fun vs H1 => ∃ x, vs = [.str x] ∧ R (Itn x) H1
theorem pi_enumS {X : Cx} {e : Expr} {ta : TA} {p pos tpos : Pos} {elts : List Expr} {kk : Nat} (hm : X.mg "enumerate" = none) (ha : PA X [e] ta) (hg : Gl X "enumerate" := by rfl) (hs : starEach [e] X.env = [(false, eval e X.env)] := by rfl) :
    PI X (.Tuple elts kk tpos) (.Call (.Name "enumerate" p) [e] [] pos) (iEnumS ta) := by
  refine ⟨fun pins s σ H R I h => ?_⟩
  refine Call_ (ld_blt I hg hm boot_enumerate (PyProof.Rows.callWith_type1 (thn (ha.run pos pins s σ H _ I h) fun us s1 ⟨vs, H1, I1, r1, q1⟩ => ?_) hs rfl))
  obtain ⟨x, ex, q⟩ := q1
  subst ex
  obtain ⟨u, rfl, t, rfl⟩ := vals1 r1
  refine call_enumerate_str fun h' he hit hsz hk => wpAny_pyIter_enum he ?_
  have I2 : Inv X pins σ H1 { s1 with heap := h' } := I1.kept (t' := s1.toks) hk
  refine ⟨s1.heap.objs.size + 1, [s1.heap.objs.size + 1, s1.heap.objs.size], _, _, H1, rfl, I2, turn_enumS x t (s1.heap.objs.size + 1) s1.heap.objs.size, ⟨⟨.none, he⟩, hit, Nat.succ_ne_self _⟩, fun b hb => ?_, q⟩
  have e' : b = s1.heap.objs.size + 1 ∨ b = s1.heap.objs.size := by simpa using hb
  have hle : s1.heap.objs.size ≤ b := by
    rcases e' with z | z
    · rw [z]; exact Nat.le_add_right _ _
    · rw [z]; exact Nat.le_refl _
  exact I1.fpOk hle (I1.hok.fresh hle)

/-! ### text * n -/
abbrev tx (l : List Nat) : Str := ⟨l.toArray⟩
abbrev T (l : List Nat) : V := .str (tx l)
/-- n rows behind one another -/
def rep : Nat → List Nat → List Nat
  | 0, _ => []
  | n + 1, l => rep n l ++ l
theorem foldl_txt (l : List Nat) : ∀ (n : Nat) (acc : Array Nat), ((List.replicate n l.toArray).foldl (· ++ ·) acc).toList = acc.toList ++ rep n l := by
  intro n
  induction n with
  | zero => intro acc; simp [rep]
  | succ n ih =>
    intro acc
    rw [List.replicate_succ, List.foldl_cons, ih]
    have e : ∀ n, l ++ rep n l = rep n l ++ l := by
      intro n
      induction n with
      | zero => simp [rep]
      | succ n ih => show l ++ (rep n l ++ l) = (rep n l ++ l) ++ l; rw [← List.append_assoc, ih]
    simp [rep, List.append_assoc, ← e]
theorem rep_length (l : List Nat) : ∀ n, (rep n l).length = n * l.length
  | 0 => by simp [rep]
  | n + 1 => by simp [rep, rep_length l n, Nat.add_mul]
theorem op_mulText {X : Cx} : OpR X (binaryOp .Mult) (fun x y H Q => ∃ (l : List Nat) (n : Nat), x = T l ∧ y = .int (n : Int) ∧ 2 ≤ n ∧ l ≠ [] ∧ n ≤ 1000000 ∧ l.length ≤ 16 ∧ Q (T (rep n l)) H) := by
  intro pins s σ H x y v u Q I rx ry h
  obtain ⟨l, n, rfl, rfl, h2, hne, hn, hl, q⟩ := h
  obtain ⟨t, rfl⟩ := rx
  obtain ⟨t', rfl⟩ := ry
  have hlen : (tx l).length = l.length := by simp [Str.length]
  have hpos : 0 < l.length := List.length_pos_iff.mpr hne
  have hz : l.length * n ≤ 16777216 := Nat.le_trans (Nat.mul_le_mul hl hn) (by decide)
  refine P.mul_str ?_ (fun _ _ => ?_) (fun _ _ => ?_) ?_
  · have a : ¬ ((n : Int) < -(2 ^ 63)) := by omega
    have b : ¬ ((n : Int) ≥ 2 ^ 63) := by omega
    rw [decide_eq_false a, decide_eq_false b]; rfl
  · rw [hlen]
    have : (1000000 : Int) ≤ (2 ^ 63 - 1) / (n : Int) := by
      rw [Int.le_ediv_iff_mul_le (by omega)]
      omega
    omega
  · rw [hlen]
    exact short24 (by simpa using hz)
  · have a : ¬ (n : Int) < 1 := by omega
    have b : ((n : Int) == 1 || (tx l).length == 0) = false := by
      rw [hlen]
      have z1 : ((n : Int) == 1) = false := by simp; omega
      have z2 : (l.length == 0) = false := by simp [hne]
      rw [z1, z2]; rfl
    rw [if_neg a, b]
    have hv : (⟨(List.replicate (n : Int).toNat (tx l).cps).foldl (· ++ ·) #[]⟩ : Str) = tx (rep n l) := by
      have e := foldl_txt l n #[]
      simp only [Int.toNat_natCast]
      generalize ((List.replicate n (tx l).cps).foldl (· ++ ·) #[]) = z at e ⊢
      have e2 : z.toList = rep n l := by rw [e]; rfl
      rw [← e2]
    simp only [Bool.false_eq_true, if_false]
    rw [hv]
    refine ⟨?_, ⟨T (rep n l), H, I.tok _, ⟨_, rfl⟩, q⟩⟩
    show (tx (rep n l)).length ≤ sizeLine
    have : (tx (rep n l)).length = n * l.length := by rw [← rep_length]; simp [Str.length]
    rw [this, Nat.mul_comm, sizeLine_eq]
    exact hz
/-! ### text[::-1] -/
def tRevS (te : TE) : TE := fun σ H Q => te σ H fun x H1 => ∃ l, x = T l ∧ l.length ≤ 1000000 ∧ Q (T l.reverse) H1
theorem sliceRev (l : List Nat) (t u : Tok) {Q : Value → Shared → Prop} {s : Shared} (hl : l.length ≤ 1000000) (h : ∀ t' k, Q (.str (tx l.reverse) t') { s with toks := k }) : (sliceMade (tx l) t none none (some (-1, u))).post Q s := by
  unfold sliceMade
  have e0 : (((some ((-1 : Int), u)).map (·.1)).getD 1 == 1) = false := rfl
  rw [e0]
  simp only [Bool.false_and, Bool.false_eq_true, if_false]
  have e1 := step_rev_list (tx l) u
  have e2 : (Txt.sliceBy (tx l) none none (-1, u)).cps.toList = ((slicePicked (tx l) none none (some (-1, u))).filterMap ((tx l).cps[·]?)) := by
    unfold Txt.sliceBy
    rw [e0]
    simp only [Bool.false_and, Bool.false_eq_true, if_false]
  have e3 : ((slicePicked (tx l) none none (some (-1, u))).filterMap ((tx l).cps[·]?)) = l.reverse := by
    rw [← e2, e1]
    have hlen : (tx l).length = l.length := by simp [Str.length]
    rw [hlen]
    refine List.ext_getElem (by simp) fun i h1 h2 => ?_
    have hi : i < l.length := by simpa using h1
    rw [List.getElem_map, List.getElem_range, List.getElem_reverse]
    show l.toArray.getD (l.length - 1 - i) 0 = _
    simp only [Array.getD, List.size_toArray]
    rw [dif_pos (by omega)]
    simp
  rw [e3]
  refine ⟨?_, h _ _⟩
  show l.reverse.toArray.size ≤ sizeLine
  rw [List.size_toArray, List.length_reverse, sizeLine_eq]
  omega
theorem pe_revS {X : Cx} {e : Expr} {te : TE} {k : Nat} {p1 p2 p3 pos : Pos} (he : PE X e te) : PE X (.Subscript e (.Slice none none (some (.UnaryOp .USub (.Constant (.int 1) k p1) p2)) p3) pos) (tRevS te) := by
  refine ⟨fun pins s σ H Q I h => ?_⟩
  refine Subscript_ (thn (he.run pins s σ H _ I h) fun v s1 ⟨x, H1, I1, r1, q1⟩ => ?_)
  obtain ⟨l, ex, hl, q⟩ := q1
  subst ex
  obtain ⟨t, rfl⟩ := r1
  have hst : PO X (some (.UnaryOp .USub (.Constant (.int 1) k p1) p2)) (tPart (tUn (rU fun i => .int (-i)) (tC (.int 1)))) := po_some (pe_un un_neg pe_int)
  refine wpAny_Slice (thn (po_none.run pins s1 σ H1 (fun o H2 => o = none ∧ H2 = H1) I1 ⟨rfl, rfl⟩) fun vl s2 ⟨l2, H2, I2, pl, el, e2⟩ => ?_)
  subst el e2
  refine thn (po_none.run pins s2 σ H2 (fun o H3 => o = none ∧ H3 = H2) I2 ⟨rfl, rfl⟩) fun vu s3 ⟨u, H3, I3, pu, eu, e3⟩ => ?_
  subst eu e3
  refine thn (hst.run pins s3 σ H3 (fun o H4 => o = some (-1) ∧ H4 = H3) I3 ⟨1, rfl, -1, rfl, rfl, rfl⟩) fun vs s4 ⟨o, H4, I4, ps, eo, e4⟩ => ?_
  subst eo e4
  have I5 : Inv X pins σ H4 { s4 with heap := s4.heap.push { cls := .type "slice", data := .fields #[vl, vu, vs] } } := I4.kept (t' := s4.toks) fun b ob q => Heap.get?_push_of_some _ q
  obtain ⟨l0, rfl, hl0⟩ := IsPart.raw pl
  obtain ⟨u0, rfl, hu0⟩ := IsPart.raw pu
  obtain ⟨s0, rfl, hs0⟩ := IsPart.raw ps
  have a1 : l0 = none := by cases l0 with | none => rfl | some z => cases hl0
  have a2 : u0 = none := by cases u0 with | none => rfl | some z => cases hu0
  subst a1 a2
  obtain ⟨tz, rfl⟩ : ∃ tz, s0 = some ((-1 : Int), tz) := by
    cases s0 with
    | none => cases hs0
    | some z =>
      obtain ⟨z1, z2⟩ := z
      have : z1 = -1 := by simpa using hs0.symm.symm
      subst this
      exact ⟨z2, rfl⟩
  refine tail_any (T := "str") (typeIs_str _ _ _) PySem.F.slot_str_getitem.lookup ?_ (by with_unfolding_all rfl)
  refine wpAny_getItem_str_slice (l := none) (u := none) (st := some (-1, tz)) ⟨_, Heap.get?_push_size _ rfl, rfl, rfl⟩ (by rfl) (sliceRev l t tz hl fun t' k => ⟨T l.reverse, H4, I5.tok _, ⟨_, rfl⟩, q⟩)
/-! ### swapcase, is not False -/
section
variable {X : Cx}
theorem mt_swap : MtR X "str.swapcase" (fun x xs H Q => ∃ a, x = .str a ∧ xs = [] ∧ a.length ≤ 5592405 ∧ Q (.str (Txt.swapcase a)) H) :=
  mt0 (C := fun a => a.length ≤ 5592405) (g := fun a => .str (Txt.swapcase a)) fun a _ s _ hc h =>
    PySem.SC.swapcase (PyProof.Rows.short24 (by have h1 : a.length ≤ 5592405 := hc; have := PyProof.Rows.len_swapcase a; omega)) (h _ (s.toks + 1) ⟨_, rfl⟩)
theorem op_notFalse : OpR X (compareOp .IsNot) (fun x y H Q => ∃ i b, x = .int i ∧ y = .bl b ∧ Q (.bl true) H) := by
  intro pins s σ H x y v u Q I rx ry h
  obtain ⟨i, b, rfl, rfl, q⟩ := h
  obtain ⟨t, rfl⟩ := rx
  cases (show u = Value.bool b from ry)
  exact wpAny_isNot_other (by rfl) (fun z => nomatch z) ⟨.bl true, H, I, rfl, q⟩
/-- a module's constant -/
theorem pe_gs {x v : Str} {pos : Pos} (hm : ∃ t, X.mg x = some (.str v t)) (hg : Gl X x := by rfl) (hd : (x == ("__debug__" : Str)) = false := by decide) : PE X (.Name x pos) (tC (.str v)) := by
  obtain ⟨t, e⟩ := hm
  exact pe_glob hg e ⟨t, rfl⟩ hd
theorem pe_gi {x : Str} {v : Int} {pos : Pos} (hm : ∃ t, X.mg x = some (.int v t)) (hg : Gl X x := by rfl) (hd : (x == ("__debug__" : Str)) = false := by decide) : PE X (.Name x pos) (tC (.int v)) := by
  obtain ⟨t, e⟩ := hm
  exact pe_glob hg e ⟨t, rfl⟩ hd
end
end L2

end
section
set_option maxHeartbeats 1000000
/-! Rules whose readings name the heaps behind them. -/
namespace L2
open PySem PySem.Spec PyProof.Rows SB
/-- a new object at a -/
structure Nw (H : Hp) (a : Addr) (o : HO) (H' : Hp) : Prop where
  free : H a = none
  at_ : H' a = some o
  oth : ∀ b, b ≠ a → H' b = H b
theorem Nw.same {H H' : Hp} {a : Addr} {o : HO} (n : Nw H a o H') : Same H H' := fun b u e => by rw [n.oth b (ne_of_none e n.free)]; exact e
theorem Nw.of {H : Hp} {a : Addr} {o : HO} (h : H a = none) : Nw H a o (upd H a o) := ⟨h, upd_same, fun b hb => upd_ne hb⟩
/-- the object at a is written -/
structure Wr (H : Hp) (a : Addr) (o : HO) (H' : Hp) : Prop where
  at_ : H' a = some o
  oth : ∀ b, b ≠ a → H' b = H b
theorem Wr.of {H : Hp} {a : Addr} {o : HO} : Wr H a o (upd H a o) := ⟨upd_same, fun b hb => upd_ne hb⟩
theorem Wr.same {F H H' : Hp} {a : Addr} {o : HO} (w : Wr H a o H') (s : Same F H) (off : F a = none) : Same F H' := fun b u e => by
  rw [w.oth b (fun z => by rw [z, off] at e; cases e)]
  exact s b u e
section
variable {X : Cx} {es : List Expr} {t : TA} {pos : Pos}
def tTupV (t : TA) : TE := fun σ H Q => t σ H fun xs H1 => xs.length ≤ sizeLine ∧ ∀ p H', Nw H1 p (.tup xs) H' → Q (.ref p) H'
def tLstV (t : TA) : TE := fun σ H Q => t σ H fun xs H1 => xs.length ≤ sizeLine ∧ ∀ p H', Nw H1 p (.lst xs) H' → Q (.ref p) H'
theorem pe_tupV {x1} (h : PA X es t) : PE X (.Tuple es x1 pos) (tTupV t) := by
  refine ⟨fun pins s σ H Q I hq => ?_⟩
  refine wpAny_Tuple_spliced (thn (h.run pos pins s σ H _ I hq) fun us s1 hh => ?_)
  obtain ⟨xs, H1, I1, r, z, q⟩ := hh
  refine ⟨by rw [← r.length]; exact z, ?_⟩
  have hf : H1 s1.heap.objs.size = none := I1.hok.fresh (Nat.le_refl _)
  have new : ObjOk X.prog X.w (upd H1 s1.heap.objs.size (.tup xs)) (s1.heap.push { cls := .type "tuple", data := .seq us.toArray }) s1.heap.objs.size (.tup xs) := ⟨z, us, r, ⟨_, Heap.get?_push_size _ rfl, rfl, _, rfl⟩⟩
  exact ⟨.ref s1.heap.objs.size, _, I1.laid (t' := s1.toks) (fun b u e => Heap.get?_push_of_some _ e) (Nat.le_refl _) new, rfl, q _ _ (.of hf)⟩
theorem pe_lstV (h : PA X es t) : PE X (.List es pos) (tLstV t) := by
  refine ⟨fun pins s σ H Q I hq => ?_⟩
  refine wpAny_List_spliced (thn (h.run pos pins s σ H _ I hq) fun us s1 hh => ?_)
  obtain ⟨xs, H1, I1, r, z, q⟩ := hh
  refine ⟨by rw [← r.length]; exact z, ?_⟩
  have hf : H1 s1.heap.objs.size = none := I1.hok.fresh (Nat.le_refl _)
  have new : ObjOk X.prog X.w (upd H1 s1.heap.objs.size (.lst xs)) (s1.heap.push { cls := .type "list", data := .seq us.toArray }) s1.heap.objs.size (.lst xs) := ⟨z, us, 0, r, Heap.get?_push_size _ rfl⟩
  exact ⟨.ref s1.heap.objs.size, _, I1.laid (t' := s1.toks) (fun b u e => Heap.get?_push_of_some _ e) (Nat.le_refl _) new, rfl, q _ _ (.of hf)⟩
/-- xs[k] = v -/
def rSetV : TSet := fun o i v H Q => ∃ p xs k j ys, o = .ref p ∧ i = .int k ∧ H p = some (.lst xs) ∧ ixN xs.length k = some j ∧ xs.set j v = ys ∧ ∀ H', Wr H p (.lst ys) H' → Q H'
theorem set_listV : PSet X rSetV := by
  intro pins s σ H o i v ov iv u Q I ro ri rv h
  obtain ⟨p, xs, k, j, ys, e1, e2, hp, hj, e3, q⟩ := h
  subst e3
  exact set_list pins s σ H o i v ov iv u Q I ro ri rv ⟨p, xs, k, j, e1, e2, hp, hj, q _ .of⟩
def rAppendV : V → List V → Hp → VK → Prop := fun x vs H Q => ∃ l xs y, x = .ref l ∧ vs = [y] ∧ H l = some (.lst xs) ∧ xs.length < sizeLine ∧ ∀ H', Wr H l (.lst (xs ++ [y])) H' → Q .non H'
theorem mt_appendV : MtM X "list.append" rAppendV := by
  intro pins s σ H x vs v us Q I rx rv h
  obtain ⟨l, xs, y, e1, e2, hH, hz, q⟩ := h
  exact mt_append pins s σ H x vs v us Q I rx rv ⟨l, xs, y, e1, e2, hH, hz, q _ .of⟩
/-- xs.pop() of a list told by its last item -/
def rPopV : V → List V → Hp → VK → Prop := fun x vs H Q => ∃ l xs y, x = .ref l ∧ vs = [] ∧ H l = some (.lst (xs ++ [y])) ∧ ∀ H', Wr H l (.lst xs) H' → Q y H'
theorem mt_popV : MtM X "list.pop" rPopV := by
  intro pins s σ H x vs v us Q I rx rv h
  obtain ⟨l, xs, y, e1, e2, hH, q⟩ := h
  refine mt_pop pins s σ H x vs v us Q I rx rv ⟨l, xs ++ [y], y, e1, e2, hH, by simp, ?_⟩
  rw [List.dropLast_concat]
  exact q _ .of
def rSlLV (K : PySem.W.Frag) : V → Option Int → Option Int → Hp → VK → Prop := fun x lo hi H Q => ∃ a xs, x = .ref a ∧ SqL K H a xs ∧ ∀ p H', Nw H p (.lst (cutV xs lo hi)) H' → Q (.ref p) H'
theorem sl_listV : SlR X (rSlLV X.K) := by
  intro pins s σ H x v vl vu lo hi sl Q I rx hs pl pu h
  obtain ⟨a, xs, e, hq, q⟩ := h
  exact sl_list pins s σ H x v vl vu lo hi sl Q I rx hs pl pu ⟨a, xs, e, hq, fun p hp => q p _ (.of hp)⟩
theorem call_list_ofV : CallR X (.type "list") (fun xs H Q => ∃ p ys, xs = [.ref p] ∧ (SqL X.K H p ys ∨ SqT X.K H p ys) ∧ ∀ l H', Nw H l (.lst ys) H' → Q (.ref l) H') := by
  intro pins s σ H xs us Q I r h
  obtain ⟨p, ys, e, hq, q⟩ := h
  exact call_list_of pins s σ H xs us Q I r ⟨p, ys, e, hq, fun l hl => q l _ (.of hl)⟩
end
/-! ### walks -/
/-- the walk J has n turns over the heaps that P tells; the i-th item is one that item tells, the heap grows by it -/
structure Walk (P : Nat → Hp → Prop) (J : It) (n : Nat) (item : Nat → V → Hp → Hp → Prop) : Prop where
  go : ∀ i H, i < n → P i H → J.go i H
  stop : ∀ H, P n H → J.stop n H
  yld : ∀ i H x H', i < n → P i H → J.yld i H x H' → item i x H H'
theorem walk_str {P : Nat → Hp → Prop} (l : List Nat) : Walk P (Its (tx l)) l.length (fun i v H H' => H' = H ∧ ∃ c, l[i]? = some c ∧ v = T [c]) where
  go := fun i H h _ => by show i < (tx l).cps.size; simpa using h
  stop := fun H _ => by show (tx l).cps.size ≤ l.length; simp
  yld := fun i H x H' h _ y => by
    obtain ⟨e, c, hc, rfl⟩ := y
    exact ⟨e, c, by simpa using hc, rfl⟩
theorem walk_enum {P : Nat → Hp → Prop} (l : List Nat) : Walk P (Itn (tx l)) l.length (fun i v H H' => ∃ t c, v = .ref t ∧ Nw H t (.tup [.int (i : Nat), T [c]]) H' ∧ l[i]? = some c) where
  go := fun i H h _ => by show i < (tx l).cps.size; simpa using h
  stop := fun H _ => by show (tx l).cps.size ≤ l.length; simp
  yld := fun i H x H' h _ y => by
    obtain ⟨t, c, rfl, hn, rfl, hc⟩ := y
    exact ⟨t, c, rfl, .of hn, by simpa using hc⟩
theorem walk_range {P : Nat → Hp → Prop} (lo : Int) (n : Nat) : Walk P (Itr lo n) n (fun i v H H' => H' = H ∧ v = .int (lo + i)) where
  go := fun i H h _ => h
  stop := fun H _ => Nat.le_refl _
  yld := fun i H x H' h _ y => y
theorem walk_list {K : PySem.W.Frag} {P : Nat → Hp → Prop} {a : Addr} {xs : List V} (hl : ∀ i H, i ≤ xs.length → P i H → SqL K H a xs) : Walk P (Itl K a) xs.length (fun i v H H' => H' = H ∧ xs[i]? = some v) where
  go := fun i H h p => ⟨xs, xs[i], hl i H (Nat.le_of_lt h) p, by simp [h]⟩
  stop := fun H p => ⟨xs, hl _ H (Nat.le_refl _) p, Nat.le_refl _⟩
  yld := fun i H x H' h p y => ⟨y.1, y.2 xs (hl i H (Nat.le_of_lt h) p)⟩
theorem walk_tup {K : PySem.W.Frag} {P : Nat → Hp → Prop} {a : Addr} {xs : List V} (hl : ∀ i H, i ≤ xs.length → P i H → SqT K H a xs) : Walk P (Itt K a) xs.length (fun i v H H' => H' = H ∧ xs[i]? = some v) where
  go := fun i H h p => ⟨xs, xs[i], hl i H (Nat.le_of_lt h) p, by simp [h]⟩
  stop := fun H p => ⟨xs, hl _ H (Nat.le_refl _) p, Nat.le_refl _⟩
  yld := fun i H x H' h p y => ⟨y.1, y.2 xs (hl i H (Nat.le_of_lt h) p)⟩
/-- for x in ..: the invariant Pv i σ H ahead of the i-th turn -/
theorem for_by {J : It} {n : Nat} {item : Nat → V → Hp → Hp → Prop} {g : TG} {tb : TS} {D : Ends} {σ : St} {H : Hp} (Pv : Nat → St → Hp → Prop) (wk : Walk (fun i H => ∃ σ, Pv i σ H) J n item) (h0 : Pv 0 σ H)
    (turn : ∀ i x σ H H', i < n → Pv i σ H → item i x H H' → g x σ H' fun σ2 H2 => tb { D with nx := Pv (i + 1), ct := Pv (i + 1), bk := D.nx } σ2 H2) (done : ∀ σ H, Pv n σ H → D.nx σ H) :
    ∃ W : Nat → Nat → St → Hp → Prop, (∃ m, W 0 m σ H) ∧ ∀ i m σ H, W i m σ H →
      (J.stop i H ∧ D.nx σ H) ∨ (J.go i H ∧ ∃ N : St → Hp → Prop, (∀ σ' H', N σ' H' → ∃ m', m' < m ∧ W (i + 1) m' σ' H') ∧ ∀ x H', J.yld i H x H' → g x σ H' fun σ2 H2 => tb { D with nx := N, ct := N, bk := D.nx } σ2 H2) := by
  refine ⟨fun i m σ H => m = n - i ∧ i ≤ n ∧ Pv i σ H, ⟨n, by simp, Nat.zero_le _, h0⟩, ?_⟩
  rintro i m σ H ⟨rfl, hi, p⟩
  by_cases hlt : i < n
  · exact .inr ⟨wk.go i H hlt ⟨σ, p⟩, Pv (i + 1), fun σ' H' p' => ⟨n - (i + 1), by omega, rfl, hlt, p'⟩, fun x H' y => turn i x σ H H' hlt p (wk.yld i H x H' hlt ⟨σ, p⟩ y)⟩
  · obtain rfl : i = n := by omega
    exact .inl ⟨wk.stop H ⟨σ, p⟩, done σ H p⟩
/-- what stands behind i turns of [e for x in ..]: acc in the new list at D -/
def LcI (D : Addr) (Pv : Nat → List V → Hp → Prop) (i : Nat) : Hp → Prop := fun H => ∃ acc, acc.length ≤ i ∧ Pv i acc H ∧ H D = some (.lst acc)
/-- the item y is put -/
def LcK (D : Addr) (N : Hp → Prop) : VK := fun y H4 => ∃ acc, H4 D = some (.lst acc) ∧ acc.length < sizeLine ∧ N (upd H4 D (.lst (acc ++ [y])))
theorem lc_put {D : Addr} {Pv : Nat → List V → Hp → Prop} {i : Nat} {acc : List V} {y : V} {H : Hp} (h : H D = some (.lst acc)) (hl : acc.length ≤ i) (hi : i < 1000000) (hp : ∀ H', Wr H D (.lst (acc ++ [y])) H' → Pv (i + 1) (acc ++ [y]) H') : LcK D (LcI D Pv (i + 1)) y H :=
  ⟨acc, h, Nat.lt_of_lt_of_le (Nat.lt_of_le_of_lt hl hi) (by rw [sizeLine_eq]; decide), acc ++ [y], by simp; omega, hp _ .of, upd_same⟩
theorem lc_by {J : It} {n : Nat} {item : Nat → V → Hp → Hp → Prop} {g : TG} {tt : TT} {te : TE} {vs : List Nat} {σ : St} {H1 : Hp} {D : Addr} {Qd : Hp → Prop} (hD : H1 D = none) (Pv : Nat → List V → Hp → Prop)
    (wk : Walk (fun i H => ∃ acc, Pv i acc H) J n item) (h0 : ∀ H', Nw H1 D (.lst []) H' → Pv 0 [] H')
    (turn : ∀ i x acc H H', i < n → Pv i acc H → H D = some (.lst acc) → acc.length ≤ i → item i x H H' → g x (wipe σ vs) H' fun σ2 H2 => wipe σ2 vs = wipe σ vs ∧ tt σ2 H2 fun b H3 => if b = true then te σ2 H3 (LcK D (LcI D Pv (i + 1))) else LcI D Pv (i + 1) H3)
    (done : ∀ acc H, Pv n acc H → H D = some (.lst acc) → acc.length ≤ n → Qd H) :
    ∃ W : Nat → Nat → Hp → Prop, (∃ m, W 0 m (upd H1 D (.lst []))) ∧ ∀ i m H, W i m H →
      (J.stop i H ∧ Qd H) ∨ (J.go i H ∧ ∃ Nx : Hp → Prop, (∀ H', Nx H' → ∃ m', m' < m ∧ W (i + 1) m' H') ∧ ∀ x H', J.yld i H x H' → g x (wipe σ vs) H' fun σ2 H2 => wipe σ2 vs = wipe σ vs ∧ tt σ2 H2 fun b H3 =>
        if b = true then te σ2 H3 fun y H4 => ∃ acc, H4 D = some (.lst acc) ∧ acc.length < sizeLine ∧ Nx (upd H4 D (.lst (acc ++ [y]))) else Nx H3) := by
  refine ⟨fun i m H => m = n - i ∧ i ≤ n ∧ LcI D Pv i H, ⟨n, by simp, Nat.zero_le _, [], Nat.le_refl _, h0 _ (.of hD), upd_same⟩, ?_⟩
  rintro i m H ⟨rfl, hi, acc, hl, p, hd⟩
  by_cases hlt : i < n
  · exact .inr ⟨wk.go i H hlt ⟨acc, p⟩, LcI D Pv (i + 1), fun H' p' => ⟨n - (i + 1), by omega, rfl, hlt, p'⟩, fun x H' y => turn i x acc H H' hlt p hd hl (wk.yld i H x H' hlt ⟨acc, p⟩ y)⟩
  · obtain rfl : i = n := by omega
    exact .inl ⟨wk.stop H ⟨acc, p⟩, done acc H p hd hl⟩
end L2

end
section
set_option maxHeartbeats 1000000
/-! The pen that draws; heaps that grow. -/
namespace SB
open PySem PySem.Spec PyProof.Rows L2 SBX

/-- a new object -/
theorem new_at {H : Hp} {a : Addr} {o : HO} {R : Hp → Prop} (hn : H a = none) (h : ∀ H', Same H H' → H' a = some o → (∀ b, b ≠ a → H' b = H b) → R H') : R (upd H a o) :=
  h _ (fun b u e => by rw [upd_ne (ne_of_none e hn)]; exact e) upd_same fun b hb => upd_ne hb
/-- the pen at p behind at most n draws, its cells at c; F: what stands beside it -/
structure Pen (F H : Hp) (p c : Addr) (n : Nat) : Prop where
  ex : ∃ (xs : List Int) (spot rest : Int), H p = some (.lst [.ref c, .int spot, .int rest]) ∧ F c = some (.lst (xs.map V.int)) ∧ xs.length ≤ 63 ∧ 0 ≤ spot ∧ spot ≤ n ∧ 0 ≤ rest
  same : Same F H
  off : F p = none
theorem Pen.mono {F H : Hp} {p c : Addr} {m n : Nat} (P : Pen F H p c m) (h : m ≤ n) : Pen F H p c n := by
  obtain ⟨⟨xs, spot, rest, h1, h2, h3, h4, h5, h6⟩, s, o⟩ := P
  exact ⟨⟨xs, spot, rest, h1, h2, h3, h4, by omega, h6⟩, s, o⟩
/-- the heap grows beside the pen, nothing of it is kept in mind -/
theorem Pen.ext {F H H' : Hp} {p c : Addr} {n : Nat} (P : Pen F H p c n) (s : Same H H') : Pen F H' p c n := by
  obtain ⟨⟨xs, spot, rest, h1, h2, h3, h4, h5, h6⟩, s0, off⟩ := P
  exact ⟨⟨xs, spot, rest, s _ _ h1, h2, h3, h4, h5, h6⟩, s0.trans s, off⟩
/-- what is kept in mind is all that the heap holds beside the pen -/
def offP (H : Hp) (p : Addr) : Hp := fun b => if b = p then none else H b
theorem offP_at {H : Hp} {p b : Addr} {o : HO} (h : H b = some o) (hb : b ≠ p) : offP H p b = some o := by
  unfold offP; rw [if_neg hb]; exact h
/-- all that stands now is kept in mind -/
theorem Pen.all {F H : Hp} {p c : Addr} {n : Nat} (P : Pen F H p c n) : Pen (offP H p) H p c n ∧ Same F (offP H p) := by
  obtain ⟨⟨xs, spot, rest, h1, h2, h3, h4, h5, h6⟩, s0, off⟩ := P
  have hs : Same F (offP H p) := fun b o e => offP_at (s0 _ _ e) (fun z => by rw [z, off] at e; cases e)
  exact ⟨⟨⟨xs, spot, rest, h1, hs _ _ h2, h3, h4, h5, h6⟩, fun b o e => by
    unfold offP at e
    by_cases hb : b = p
    · rw [if_pos hb] at e; cases e
    · rw [if_neg hb] at e; exact e, by unfold offP; rw [if_pos rfl]⟩, hs⟩
/-- a new object is kept in mind, too -/
theorem Pen.nw {F H H' : Hp} {p c a : Addr} {o : HO} {n : Nat} (P : Pen F H p c n) (w : Nw H a o H') : Pen (offP H' p) H' p c n ∧ Same F (offP H' p) ∧ offP H' p a = some o := by
  obtain ⟨P1, s1⟩ := (P.ext w.same).all
  obtain ⟨⟨xs, spot, rest, h1, _⟩, _, _⟩ := P
  exact ⟨P1, s1, offP_at w.at_ (ne_of_none h1 w.free).symm⟩
/-- something beside the pen is written that is not kept in mind -/
theorem Pen.wr {F H H' : Hp} {p c a : Addr} {o : HO} {n : Nat} (P : Pen F H p c n) (w : Wr H a o H') (hp : p ≠ a) (hF : F a = none) : Pen F H' p c n := by
  obtain ⟨⟨xs, spot, rest, h1, h2, h3, h4, h5, h6⟩, s0, off⟩ := P
  exact ⟨⟨xs, spot, rest, by rw [w.oth p hp]; exact h1, h2, h3, h4, h5, h6⟩, w.same s0 hF, off⟩
theorem Pen.at_ {F H : Hp} {p c : Addr} {n : Nat} (P : Pen F H p c n) : ∃ o, H p = some o := by
  obtain ⟨⟨xs, spot, rest, h1, _⟩, _, _⟩ := P
  exact ⟨_, h1⟩
/-- less is kept in mind -/
theorem Pen.back {F F' H H' : Hp} {p c : Addr} {m n : Nat} (P0 : Pen F H p c m) (P : Pen F' H' p c n) (s : Same F F') : Pen F H' p c n := by
  obtain ⟨⟨xs0, _, _, _, g2, g3, _⟩, _, _⟩ := P0
  obtain ⟨⟨xs, spot, rest, h1, h2, h3, h4, h5, h6⟩, s0, off⟩ := P
  exact ⟨⟨xs0, spot, rest, h1, g2, g3, h4, h5, h6⟩, s.trans s0, s.free off⟩
theorem Pen.ne {F H : Hp} {p c b : Addr} {n : Nat} {o : HO} (P : Pen F H p c n) (h : F b = some o) : b ≠ p := fun z => by
  rw [z, P.off] at h
  cases h
theorem Same.put {F H : Hp} {p : Addr} {o : HO} (s : Same F H) (off : F p = none) : Same F (upd H p o) := fun b u e => by
  have hb : b ≠ p := fun z => by rw [z, off] at e; cases e
  rw [upd_ne hb]; exact s b u e
theorem Same.new {F H : Hp} {l : Addr} {o : HO} (s : Same F H) (hl : H l = none) : Same F (upd H l o) := fun b u e => by
  rw [upd_ne (ne_of_none (s b u e) hl)]; exact s b u e
theorem atI_ints {xs : List Int} {i : Int} (hne : xs ≠ []) (h0 : 0 ≤ i) (h1 : i < xs.length) : ∃ z : Int, atI (xs.map V.int) i = some (.int z) := by
  obtain ⟨j, rfl⟩ := Int.eq_ofNat_of_zero_le h0
  have hj : j < xs.length := by omega
  exact ⟨xs[j], atI_nat (by simp [hj])⟩
theorem cpow {i : Int} {j : Int} (h0 : 0 ≤ i) (h1 : i < 18446744073709551616) (h2 : 0 ≤ j) (h3 : j ≤ 1000000) : CPow i j := ⟨h2, h3, by omega⟩
theorem cmulL {i j : Int} (h0 : -18446744073709551616 < i) (h1 : i < 18446744073709551616) : CMul i j := .inl ⟨by omega, by omega⟩

theorem dp_ints {K : PySem.W.Frag} {H : Hp} : ∀ xs : List Int, DpAll K H (xs.map V.int) (xs.map PyData.int)
  | [] => .nil
  | x :: xs => .cons (.int x) (dp_ints xs)
theorem canLay_ints : ∀ xs : List Int, PyData.canLayAll0 (xs.map PyData.int) = true
  | [] => rfl
  | x :: xs => by
    show (PyData.canLay0 (.int x) && PyData.canLayAll0 (xs.map PyData.int)) = true
    rw [canLay_ints xs]; rfl
theorem depth_ints : ∀ xs : List Int, PyData.depthAll (xs.map PyData.int) ≤ 1
  | [] => by decide
  | x :: xs => by
    have := depth_ints xs
    show max _ (PyData.depthAll (xs.map PyData.int)) ≤ 1
    simp [PyData.depth]; omega
theorem shaped_ints (xs : List Int) : SeqAt.shaped (.list (xs.map PyData.int)) = true := by
  have := depth_ints xs
  unfold SeqAt.shaped
  rw [Bool.and_eq_true]
  refine ⟨?_, decide_eq_true ?_⟩
  · show PyData.canLayAll0 _ = true
    exact canLay_ints xs
  · simp only [PyData.depth]; omega
theorem eqv_nil (xs : List Int) : PyData.eqv (.list (xs.map PyData.int)) (.list []) = decide (xs = []) := by
  cases xs with
  | nil => rfl
  | cons x xs => rfl
/-- cells != [] -/
theorem rd_neNil {K : PySem.W.Frag} {H : Hp} {c l : Addr} {xs : List Int} {Q : VK} (hx : SqL K H c (xs.map V.int)) (hl : SqL K H l []) (h : Q (.bl (!decide (xs = []))) H) : rNeD K (.ref c) (.ref l) H Q :=
  ⟨_, _, .lst hx (dp_ints xs), .lst hl .nil, shaped_ints xs, by decide +kernel, by rw [eqv_nil]; exact h⟩
theorem iteD {c A B : Prop} [Decidable c] (h1 : c → A) (h2 : ¬ c → B) : if decide c = true then A else B := by
  by_cases h : c
  · rw [if_pos (decide_eq_true h)]; exact h1 h
  · rw [if_neg (by simp [h])]; exact h2 h
theorem iteDT {c A B : Prop} [Decidable c] (hc : c) (h : A) : if decide c = true then A else B := by
  rw [if_pos (decide_eq_true hc)]; exact h
theorem iteDF {c A B : Prop} [Decidable c] (hc : ¬ c) (h : B) : if decide c = true then A else B := by
  rw [if_neg (by simp [hc])]; exact h
theorem iteN {c A B : Prop} [Decidable c] (h1 : ¬ c → A) (h2 : c → B) : if (!decide c) = true then A else B := by
  by_cases h : c
  · rw [if_neg (by simp [h])]; exact h2 h
  · rw [if_pos (by simp [h])]; exact h1 h
theorem yes_ {te : TE} {σ : L2.St} {H : Hp} {k : VK} {R : Hp → Prop} (h : te σ H k) : tYes σ H (fun b H3 => if b = true then te σ H3 k else R H3) := by
  show (if true = true then te σ H k else R H)
  rw [if_pos rfl]
  exact h
end SB

end
section
set_option maxHeartbeats 1000000
/-! Words: what is left, what is refused; plain Lean. -/
namespace SB
open PySem PySem.Spec PyProof.Rows L2 SBX

def ABC : List Nat := ("ABCDabcd" : Str).cps.toList
theorem abc_eq : ABC = [65, 66, 67, 68, 97, 98, 99, 100] := by decide +kernel
/-- a letter -/
def isL (c : Nat) : Bool := decide (c ∈ ABC)
theorem isL_iff {c : Nat} : isL c = true ↔ (c = 65 ∨ c = 66 ∨ c = 67 ∨ c = 68 ∨ c = 97 ∨ c = 98 ∨ c = 99 ∨ c = 100) := by
  unfold isL
  rw [abc_eq]
  simp
/-- the undoing of a letter, any other sign itself -/
def und (c : Nat) : Nat := if isL c then (if c < 97 then c + 32 else c - 32) else c
theorem und_L {c : Nat} (h : isL c = true) : isL (und c) = true := by
  rcases isL_iff.mp h with rfl | rfl | rfl | rfl | rfl | rfl | rfl | rfl <;> decide +kernel
theorem und_und {c : Nat} (h : isL c = true) : und (und c) = c := by
  rcases isL_iff.mp h with rfl | rfl | rfl | rfl | rfl | rfl | rfl | rfl <;> decide +kernel
theorem und_ne {c : Nat} (h : isL c = true) : und c ≠ c := by
  rcases isL_iff.mp h with rfl | rfl | rfl | rfl | rfl | rfl | rfl | rfl <;> decide +kernel
theorem swap_L {c : Nat} (h : isL c = true) : Txt.swapcase (tx [c]) = tx [und c] := by
  rcases isL_iff.mp h with rfl | rfl | rfl | rfl | rfl | rfl | rfl | rfl <;> decide +kernel
theorem swap_nil : Txt.swapcase (tx []) = tx [] := by decide +kernel
theorem tx_inj {a b : List Nat} (h : tx a = tx b) : a = b := by
  have := congrArg (fun s : Str => s.cps.toList) h
  simpa using this
theorem T_inj {a b : List Nat} : T a = T b ↔ a = b := ⟨fun h => tx_inj (V.str.inj h), fun h => by rw [h]⟩

/-- the i-th sign cannot stand -/
def badAt (l : List Nat) (i : Nat) : Bool := match l[i]? with
  | none => false
  | some c => !isL c || (match i with
    | 0 => false
    | j + 1 => decide (l[j]? = some (und c)))
def oddAt (l : List Nat) (i : Nat) : Bool := match l[i]? with
  | none => false
  | some c => !isL c
def firstBad (l : List Nat) : Option Nat := (List.range l.length).find? (badAt l)
def firstOdd (l : List Nat) : Option Nat := (List.range l.length).find? (oddAt l)
theorem first_some {p : Nat → Bool} {n w : Nat} (hw : w < n) (hp : p w = true) (hb : ∀ j, j < w → p j = false) : (List.range n).find? p = some w := by
  rw [List.find?_range_eq_some]
  exact ⟨hp, by simpa using hw, fun j hj => by simp [hb j hj]⟩
theorem first_none {p : Nat → Bool} {n : Nat} (h : ∀ j, j < n → p j = false) : (List.range n).find? p = none := by
  rw [List.find?_eq_none]
  intro x hx
  simp [h x (List.mem_range.mp hx)]
theorem first_inv {p : Nat → Bool} {n : Nat} {r : Option Nat} (h : (List.range n).find? p = r) : match r with
    | none => ∀ j, j < n → p j = false
    | some w => w < n ∧ p w = true ∧ ∀ j, j < w → p j = false := by
  cases r with
  | none =>
    rw [List.find?_eq_none] at h
    exact fun j hj => by simpa using h j (List.mem_range.mpr hj)
  | some w =>
    rw [List.find?_range_eq_some] at h
    obtain ⟨h1, h2, h3⟩ := h
    exact ⟨by simpa using h2, h1, fun j hj => by simpa using h3 j hj⟩

/-- one letter behind a row: struck out with its undoing -/
def push (s : List Nat) (c : Nat) : List Nat := if s.getLast? = some (und c) then s.dropLast else s ++ [c]
def red (l : List Nat) : List Nat := l.foldl push []
/-- no undoings side by side -/
def Row : List Nat → Prop
  | [] => True
  | [_] => True
  | a :: b :: r => a ≠ und b ∧ Row (b :: r)
def AllL (l : List Nat) : Prop := ∀ c ∈ l, isL c = true
/-- each sign can stand -/
def Good (l : List Nat) : Prop := ∀ j, j < l.length → badAt l j = false
theorem badAt_app {s t : List Nat} {j : Nat} (h : j < s.length) : badAt (s ++ t) j = badAt s j := by
  unfold badAt
  rw [List.getElem?_append_left h]
  cases s[j]? with
  | none => rfl
  | some c =>
    cases j with
    | zero => rfl
    | succ j =>
      show (!isL c || decide ((s ++ t)[j]? = some (und c))) = (!isL c || decide (s[j]? = some (und c)))
      rw [List.getElem?_append_left (by omega)]
theorem badAt_last {s : List Nat} {c : Nat} : badAt (s ++ [c]) s.length = (!isL c || decide (s.getLast? = some (und c))) := by
  unfold badAt
  have e : (s ++ [c])[s.length]? = some c := by simp
  rw [e]
  cases s with
  | nil => simp
  | cons a r =>
    show (!isL c || decide ((a :: r ++ [c])[r.length]? = some (und c))) = _
    have e2 : (a :: r ++ [c])[r.length]? = (a :: r).getLast? := by
      rw [List.getElem?_append_left (by simp), List.getLast?_eq_getElem?]
      simp
    rw [e2]
theorem good_nil : Good [] := fun j h => by simp at h
theorem good_app {s t : List Nat} (h : Good (s ++ t)) : Good s := fun j hj => by
  rw [← badAt_app (t := t) hj]
  exact h j (by rw [List.length_append]; omega)
theorem good_snoc {s : List Nat} {c : Nat} : Good (s ++ [c]) ↔ Good s ∧ isL c = true ∧ s.getLast? ≠ some (und c) := by
  constructor
  · intro h
    have hl := h s.length (by simp)
    rw [badAt_last] at hl
    simp at hl
    exact ⟨good_app h, hl.1, hl.2⟩
  · rintro ⟨h1, h2, h3⟩ j hj
    rw [List.length_append, List.length_singleton] at hj
    by_cases e : j < s.length
    · rw [badAt_app e]; exact h1 j e
    · obtain rfl : j = s.length := by omega
      rw [badAt_last]
      simp [h2, h3]
theorem good_take {l : List Nat} (h : Good l) (n : Nat) : Good (l.take n) := by
  have e := List.take_append_drop n l
  rw [← e] at h
  exact good_app h
theorem snoc_of {s : List Nat} {c : Nat} (h : s.getLast? = some c) : s = s.dropLast ++ [c] := by
  have hne : s ≠ [] := fun e => by rw [e] at h; cases h
  have e := List.dropLast_concat_getLast hne
  have h2 : s.getLast? = some (s.getLast hne) := by
    cases s with
    | nil => exact absurd rfl hne
    | cons a r => rfl
  rw [h2] at h
  rw [← Option.some.inj h]
  exact e.symm
theorem push_good {s : List Nat} {c : Nat} (h : Good s) (hc : isL c = true) : Good (push s c) := by
  unfold push
  split
  · rename_i e
    rw [snoc_of e] at h
    exact good_app h
  · rename_i e
    exact good_snoc.mpr ⟨h, hc, e⟩
theorem foldl_good {l : List Nat} (hl : AllL l) : ∀ {s : List Nat}, Good s → Good (l.foldl push s) := by
  induction l with
  | nil => exact fun h => h
  | cons c r ih =>
    intro s h
    exact ih (fun d hd => hl d (List.mem_cons_of_mem _ hd)) (push_good h (hl c List.mem_cons_self))
theorem red_good {l : List Nat} (hl : AllL l) : Good (red l) := foldl_good hl good_nil
theorem red_snoc (s : List Nat) (c : Nat) : red (s ++ [c]) = push (red s) c := by
  unfold red
  rw [List.foldl_append]
  rfl
theorem red_of_good {l : List Nat} : Good l → red l = l := by
  induction h : l.length generalizing l with
  | zero =>
    intro _
    rw [List.length_eq_zero_iff.mp h]; rfl
  | succ n ih =>
    intro hg
    have hne : l ≠ [] := fun e => by rw [e] at h; cases h
    have e := List.dropLast_concat_getLast hne
    rw [← e] at hg ⊢
    obtain ⟨g1, g2, g3⟩ := good_snoc.mp hg
    rw [red_snoc, ih (by simp [h]) g1]
    unfold push
    rw [if_neg g3]
/-- a pair of undoings side by side -/
theorem push_pair {s : List Nat} {a b : Nat} (h : Good s) (ha : isL a = true) (hb : isL b = true) (e : a = und b) : push (push s a) b = s := by
  subst e
  unfold push
  rw [und_und hb]
  by_cases c : s.getLast? = some b
  · rw [if_pos c]
    have e1 := snoc_of c
    rw [e1] at h
    obtain ⟨_, _, g3⟩ := good_snoc.mp h
    rw [if_neg g3]
    exact e1.symm
  · rw [if_neg c]
    simp
theorem red_pair {x y : List Nat} {a b : Nat} (hx : AllL x) (ha : isL a = true) (hb : isL b = true) (e : a = und b) : red (x ++ a :: b :: y) = red (x ++ y) := by
  unfold red
  rw [List.foldl_append, List.foldl_append]
  show List.foldl push (push (push (List.foldl push [] x) a) b) y = _
  have z := push_pair (red_good hx) ha hb e
  unfold red at z
  rw [z]
theorem push_length (s : List Nat) (c : Nat) : (push s c).length ≤ s.length + 1 := by
  unfold push
  split
  · simp; omega
  · simp
theorem red_length (l : List Nat) : (red l).length ≤ l.length := by
  have : ∀ (l s : List Nat), (l.foldl push s).length ≤ s.length + l.length := by
    intro l
    induction l with
    | nil => intro s; simp
    | cons c r ih =>
      intro s
      have h1 := ih (push s c)
      have h2 := push_length s c
      show (r.foldl push (push s c)).length ≤ _
      simp only [List.length_cons]
      omega
  have q := this l []
  unfold red
  simpa using q
theorem good_allL {l : List Nat} (h : Good l) : AllL l := by
  intro c hc
  obtain ⟨i, hi, rfl⟩ := List.getElem_of_mem hc
  have := h i hi
  unfold badAt at this
  rw [List.getElem?_eq_getElem hi] at this
  simp at this
  exact this.1
theorem firstBad_good {l : List Nat} (h : Good l) : firstBad l = none := first_none h
theorem good_of_none {l : List Nat} (h : firstBad l = none) : Good l := first_inv h
theorem firstOdd_allL {l : List Nat} (h : AllL l) : firstOdd l = none := first_none fun j hj => by
  unfold oddAt
  rw [List.getElem?_eq_getElem hj]
  simp [h _ (List.getElem_mem hj)]
theorem allL_of_none {l : List Nat} (h : firstOdd l = none) : AllL l := by
  intro c hc
  obtain ⟨i, hi, rfl⟩ := List.getElem_of_mem hc
  have := (first_inv h : ∀ j, j < l.length → oddAt l j = false) i hi
  unfold oddAt at this
  rw [List.getElem?_eq_getElem hi] at this
  simpa using this

/-! ### what the making of a word says -/
inductive Res where
  | ok (l : List Nat)
  | bad (w : Nat)
  | many
def wordRes (l : List Nat) : Res := match firstBad l with
  | some w => .bad w
  | none => if l.length ≤ 4000 then .ok l else .many
def ofRes (l : List Nat) : Res := match firstOdd l with
  | some w => .bad w
  | none => if (red l).length ≤ 4000 then .ok (red l) else .many
theorem wordRes_red {l : List Nat} (h : AllL l) : wordRes (red l) = if (red l).length ≤ 4000 then .ok (red l) else .many := by
  unfold wordRes
  rw [firstBad_good (red_good h)]
/-- the fields of a word -/
def wf (l : List Nat) : List (Str × V) := [("letters", T l), ("size", .int (l.length : Nat))]
/-- a word of these letters stands at a -/
def WordAt (K : PySem.W.Frag) (H : Hp) (a : Addr) (l : List Nat) : Prop := ∃ dx, H a = some (.ins (He.ga K "Word") dx (wf l)) ∧ l.length ≤ 4000
theorem WordAt.same {K : PySem.W.Frag} {H H' : Hp} {a : Addr} {l : List Nat} (w : WordAt K H a l) (s : Same H H') : WordAt K H' a l := by
  obtain ⟨dx, e, h⟩ := w
  exact ⟨dx, s _ _ e, h⟩
/-- an exception of the class at C with these fields goes out -/
def Rz (H : Hp) (C : Addr) (fs : List (Str × V)) (E : XK) : Prop := ∀ d H', Same H H' → H d = none → H' d = some (.xd fs) → E (.ref C) (some d) H'
theorem Rz.same {H H1 : Hp} {C : Addr} {fs : List (Str × V)} {E : XK} (r : Rz H C fs E) (s : Same H H1) : Rz H1 C fs E := fun d H' s' n e => r d H' (s.trans s') (s.free n) e
theorem Rz.go {H : Hp} {C : Addr} {fs : List (Str × V)} {E : XK} (r : Rz H C fs E) : ∀ d, H d = none → E (.ref C) (some d) (upd H d (.xd fs)) := fun d hd => r d _ (fun b u e => by rw [upd_ne (ne_of_none e hd)]; exact e) hd upd_same
def ResR (K : PySem.W.Frag) (H : Hp) (Q : VK) (E : XK) : Res → Prop
  | .ok l => ∀ a H', Same H H' → H a = none → WordAt K H' a l → Q (.ref a) H'
  | .bad w => Rz H (He.ga K "BadWord") [("at", .int (w : Nat))] E
  | .many => Rz H (He.ga K "TooMany") [("what", .str "letters"), ("most", .int 4000)] E
theorem ResR.same {K : PySem.W.Frag} {H H1 : Hp} {Q : VK} {E : XK} {r : Res} (h : ResR K H Q E r) (s : Same H H1) : ResR K H1 Q E r := by
  cases r with
  | ok l => exact fun a H' s' n w => h a H' (s.trans s') (s.free n) w
  | bad w => exact Rz.same h s
  | many => exact Rz.same h s
/-- what the value v makes: f of its text, or no text -/
def ValR (K : PySem.W.Frag) (f : List Nat → Res) (v : V) (H : Hp) (Q : VK) (E : XK) : Prop :=
  (∃ l, v = T l ∧ l.length ≤ 1000000 ∧ ResR K H Q E (f l)) ∨ (∃ t, TyZ K H v t ∧ PySem.W.kitOne K t (.type "str") = some false ∧ ResR K H Q E (.bad 0))
end SB

end
section
set_option maxHeartbeats 1000000
/-! Calls of classes and static methods by what they make. -/
namespace L2
open PySem PySem.Spec PyProof.Rows SB
theorem TyZ.same {K : PySem.W.Frag} {H H' : Hp} {x : V} {t : Value} (h : TyZ K H x t) (s : Same H H') : TyZ K H' x t := by
  cases h with
  | base b =>
    refine .base ?_
    cases b with
    | base c =>
      refine .base ?_
      cases c with
      | non => exact .non
      | bl x => exact .bl x
      | int i => exact .int i
      | str x => exact .str x
      | flt x => exact .flt x
      | lst e => exact .lst (s _ _ e)
      | frz e => exact .frz (s _ _ e)
      | tup e => exact .tup (s _ _ e)
      | dK e => exact .dK (s _ _ e)
      | dT e => exact .dT (s _ _ e)
      | ins e cl ha hn ht hm => exact .ins (s _ _ e) cl ha hn ht hm
    | byt b => exact .byt b
    | set e => exact .set (s _ _ e)
    | kList e c => exact .kList e c
    | kTuple e c => exact .kTuple e c
    | kDict e c => exact .kDict e c
    | fTuple e => exact .fTuple (s _ _ e)
    | fDict e => exact .fDict (s _ _ e)
  | exc e hd c => exact .exc (s _ _ e) (fun b hb => let ⟨fs, q⟩ := hd b hb; ⟨fs, s _ _ q⟩) c
section
variable {X : Cx} {x f : Str} {p pos pos' apos : Pos} {e o value : Expr} {es : List Expr} {t tk : TA} {ta tv : TE} {a : Addr} {r : List V → Hp → VK → Prop} {kws : List Keyword} {ks : List Str}
/-- o.f = value, the fields behind it named -/
def sFldV (K : PySem.W.Frag) (ta tv : TE) (f : Str) : TS := fun D σ H => tv σ H fun y H1 => ta σ H1 fun x H2 => ∃ a C dx fs fs', x = .ref a ∧ H2 a = some (.ins C dx fs) ∧ Cls K C ∧ NoAttr K C f ∧ fs.length < 1000 ∧ putF f y fs = fs' ∧
  ∀ H', Wr H2 a (.ins C dx fs') H' → D.nx σ H'
theorem ps_fldV (ha : PE X o ta) (hv : PE X value tv) (hs : swapsWith value (some (.Attribute o f pos')) pos.line X.env = pure false := by rfl) : PS X (.Assign [.Attribute o f pos'] value pos) (sFldV X.K ta tv f) := by
  refine ⟨fun pins s σ H D I h => ?_⟩
  refine plainObj_wpAny_Assign_Attribute (thn (hv.run pins s σ H _ I h) fun u s1 hh => ?_) hs
  obtain ⟨y, H1, I1, ry, q⟩ := hh
  refine thn (ha.run pins s1 σ H1 _ I1 q) fun ov s2 hh => ?_
  obtain ⟨x, H2, I2, rx, a, C, dx, fs, fs', ex, ea, c, n, l, efs, q2⟩ := hh
  subst ex efs
  obtain rfl : ov = Value.ref a := rx
  exact setattr_ok I2 ea c n l ry fun s3 I3 => ⟨σ, _, I3, q2 _ .of⟩
/-- g(e, ..), g a global name of an object of the text -/
theorem pe_callRef (hc : CallR X (.ref a) r) (hm : X.mg x = some (.ref a)) (hk : PySem.W.keepIn X.K (.ref a) = true) (ha : PA X (e :: es) t) (hg : Gl X x := by rfl) (hdb : (x == ("__debug__" : Str)) = false := by decide)
    (he : starEach (e :: es) X.env = (false, eval e X.env) :: starEach es X.env := by rfl) (hpl : (backTo pos (starEach es X.env)).any (·.1) = false := by rfl) : PE X (.Call (.Name x p) (e :: es) [] pos) (tCB r t) := by
  refine ⟨fun pins s σ H Q I h => ?_⟩
  refine wpAny_Call_Name_kw (ld_glob I hg hm ?_ hdb)
  refine PySem.W.callWith_K (h₀ := X.base) I.ok.mod.kin hk (thn (ha.run pos pins s σ H _ I h) fun us s1 hh => ?_) he hpl
  obtain ⟨vs, H1, I1, r1, q⟩ := hh
  exact ⟨I1.kIn, hc pins s1 σ H1 vs us Q I1 r1 q⟩
theorem pe_callRef0 (hc : CallR X (.ref a) r) (hm : X.mg x = some (.ref a)) (hk : PySem.W.keepIn X.K (.ref a) = true) (hg : Gl X x := by rfl) (hdb : (x == ("__debug__" : Str)) = false := by decide) : PE X (.Call (.Name x p) [] [] pos) (tCB r tNil) := by
  refine ⟨fun pins s σ H Q I h => ?_⟩
  refine wpAny_Call_Name_kw (ld_glob I hg hm ?_ hdb)
  exact PySem.W.callWith_K0 I.kIn hk (hc pins s σ H [] [] Q I .nil h)
/-- g(k = v, ..) -/
theorem pe_callRefK {rk : List V → List V → Hp → VK → Prop} (hc : CallRK X (.ref a) ks rk) (hm : X.mg x = some (.ref a)) (hk : PySem.W.keepIn X.K (.ref a) = true) (hkw : PK X kws tk) (hg : Gl X x := by rfl)
    (hall : (backToKw pos (keywordEach kws X.env)).all (·.1.isSome) = true := by rfl) (hks : (backToKw pos (keywordEach kws X.env)).filterMap (·.1) = ks := by rfl)
    (hdb : (x == ("__debug__" : Str)) = false := by decide) (hpl : ((backTo pos (starEach [] X.env)).any (·.1) || (backToKw pos (keywordEach kws X.env)).any (·.1.isNone)) = false := by rfl) :
    PE X (.Call (.Name x p) [] kws pos) (tCB (fun zs H Q => rk [] zs H Q) tk) := by
  refine ⟨fun pins s σ H Q I h => ?_⟩
  refine wpAny_Call_Name_kw (ld_glob I hg hm ?_ hdb)
  refine PySem.W.callWith_KW0 (h₀ := X.base) I.ok.mod.kin hk hall ?_ hpl
  refine thn (hkw.run pos pins s σ H _ I h) fun ws s2 hh => ?_
  obtain ⟨zs, H2, I2, rz, q2⟩ := hh
  refine ⟨I2.kIn, ?_⟩
  rw [hks]
  exact hc pins s2 σ H2 [] zs [] ws Q I2 .nil rz q2
/-- C.m(e, ..), C.m(k = v, ..): static methods -/
theorem pe_smethR {C g : Addr} {m : Str} {pl : Sem Bool} (he : PE X o (tC (.ref C))) (c : SMet X.K C m g) (hc : CallR X (.ref g) r) (hk : PySem.W.keepIn X.K (.ref g) = true) (ha : PA X (e :: es) t)
    (hst : starEach (e :: es) X.env = (false, eval e X.env) :: starEach es X.env := by rfl) (hpl : (backTo pos (starEach es X.env)).any (·.1) = false := by rfl)
    (ht : eval (.Call (.Attribute o m apos) (e :: es) [] pos) X.env = (do
      let ov ← eval o X.env
      standAt apos.atName
      let (f, first) ← holding [ov] (getMethod ov m pl)
      callWith pos f first (backTo pos (starEach (e :: es) X.env)) (backToKw pos (keywordEach [] X.env))) := by rfl) :
    PE X (.Call (.Attribute o m apos) (e :: es) [] pos) (tCB r t) := by
  refine ⟨fun pins s σ H Q I h => ?_⟩
  refine PySem.W.methodCall_KW (pl := pl) (thn (he.run pins s σ H (fun x H1 => x = .ref C ∧ H1 = H) I ⟨rfl, rfl⟩) fun u s1 hh => ?_) ht
  obtain ⟨x, H1, I1, rx, ex, eh⟩ := hh
  subst ex eh
  obtain rfl : u = Value.ref C := rx
  refine getmethsm_ok I1 c fun s2 I2 => ?_
  refine PySem.W.callWith_K (h₀ := X.base) I.ok.mod.kin hk (thn (ha.run pos pins s2 σ _ _ I2 h) fun us s3 hh => ?_) hst hpl
  obtain ⟨vs, H2, I3, r1, q2⟩ := hh
  exact ⟨I3.kIn, hc pins s3 σ H2 vs us Q I3 r1 q2⟩
theorem pe_smethRK {C g : Addr} {m : Str} {pl : Sem Bool} {rk : List V → List V → Hp → VK → Prop} (he : PE X o (tC (.ref C))) (c : SMet X.K C m g) (hc : CallRK X (.ref g) ks rk) (hk : PySem.W.keepIn X.K (.ref g) = true) (hkw : PK X kws tk)
    (hall : (backToKw pos (keywordEach kws X.env)).all (·.1.isSome) = true := by rfl) (hks : (backToKw pos (keywordEach kws X.env)).filterMap (·.1) = ks := by rfl)
    (hpl : ((backTo pos (starEach [] X.env)).any (·.1) || (backToKw pos (keywordEach kws X.env)).any (·.1.isNone)) = false := by rfl)
    (ht : eval (.Call (.Attribute o m apos) [] kws pos) X.env = (do
      let ov ← eval o X.env
      standAt apos.atName
      let (f, first) ← holding [ov] (getMethod ov m pl)
      callWith pos f first (backTo pos (starEach [] X.env)) (backToKw pos (keywordEach kws X.env))) := by rfl) :
    PE X (.Call (.Attribute o m apos) [] kws pos) (tCB (fun zs H Q => rk [] zs H Q) tk) := by
  refine ⟨fun pins s σ H Q I h => ?_⟩
  refine PySem.W.methodCall_KW (pl := pl) (thn (he.run pins s σ H (fun x H1 => x = .ref C ∧ H1 = H) I ⟨rfl, rfl⟩) fun u s1 hh => ?_) ht
  obtain ⟨x, H1, I1, rx, ex, eh⟩ := hh
  subst ex eh
  obtain rfl : u = Value.ref C := rx
  refine getmethsm_ok I1 c fun s2 I2 => ?_
  refine PySem.W.callWith_KW0 (h₀ := X.base) I.ok.mod.kin hk hall ?_ hpl
  refine thn (hkw.run pos pins s2 σ _ _ I2 h) fun ws s3 hh => ?_
  obtain ⟨zs, H2, I3, rz, q2⟩ := hh
  refine ⟨I3.kIn, ?_⟩
  rw [hks]
  exact hc pins s3 σ H2 [] zs [] ws Q I3 .nil rz q2
end
end L2
namespace SB
open PySem PySem.Spec PyProof.Rows L2 SBX
/-- need_row, need_letters: a text is looked through, anything else is refused -/
def spNeed (K : PySem.W.Frag) (first : List Nat → Option Nat) : Sp := fun vs H Q E => ∃ v, vs = [v] ∧
  ((∃ l, v = T l ∧ l.length ≤ 1000000 ∧ match first l with
      | none => ∀ H', Same H H' → Q .non H'
      | some w => Rz H (He.ga K "BadWord") [("at", .int (w : Nat))] E) ∨
   (∃ t, TyZ K H v t ∧ PySem.W.kitOne K t (.type "str") = some false ∧ Rz H (He.ga K "BadWord") [("at", .int (0 : Nat))] E))
/-- the init of a word; F: what stands beside it -/
def spWInit (K : PySem.W.Frag) : Sp := fun vs H Q E => ∃ x dx v F, vs = [.ref x, v] ∧ H x = some (.ins (He.ga K "Word") dx []) ∧ Same F H ∧ F x = none ∧
  ((∃ l, v = T l ∧ l.length ≤ 1000000 ∧ match wordRes l with
      | .ok l => ∀ H', Same F H' → H' x = some (.ins (He.ga K "Word") dx (wf l)) → l.length ≤ 4000 → Q .non H'
      | .bad w => Rz H (He.ga K "BadWord") [("at", .int (w : Nat))] E
      | .many => Rz H (He.ga K "TooMany") [("what", .str "letters"), ("most", .int 4000)] E) ∨
   (∃ t, TyZ K H v t ∧ PySem.W.kitOne K t (.type "str") = some false ∧ Rz H (He.ga K "BadWord") [("at", .int (0 : Nat))] E))
theorem init_of {K : PySem.W.Frag} {v : V} {H : Hp} {Q : VK} {E : XK} (h : ValR K wordRes v H Q E) {x dx : Addr} (hx : H x = none) (hd : H dx = none) (hne : dx ≠ x) :
    spWInit K [.ref x, v] (upd (upd H dx (.own x)) x (.ins (He.ga K "Word") dx [])) (fun u H2 => u = .non ∧ Q (.ref x) H2) E := by
  have s : Same H (upd (upd H dx (.own x)) x (.ins (He.ga K "Word") dx [])) := fun b o e => by
    rw [upd_ne (ne_of_none e hx), upd_ne (ne_of_none e hd)]; exact e
  refine ⟨x, dx, v, H, rfl, upd_same, s, hx, ?_⟩
  rcases h with ⟨l, rfl, hl, hr⟩ | ⟨t, ty, k, hr⟩
  · refine .inl ⟨l, rfl, hl, ?_⟩
    cases e : wordRes l with
    | ok m => rw [e] at hr; exact fun H' s' w hm => ⟨rfl, hr x H' s' hx ⟨dx, w, hm⟩⟩
    | bad w => rw [e] at hr; exact Rz.same hr s
    | many => rw [e] at hr; exact Rz.same hr s
  · exact .inr ⟨t, ty.same s, k, Rz.same hr s⟩
/-- Word.of -/
def spOf (K : PySem.W.Frag) : Sp := fun vs H Q E => ∃ v, vs = [v] ∧ ValR K ofRes v H Q E
/-- struck -/
def spStruck : Sp := fun vs H Q _ => ∃ l, vs = [T l] ∧ AllL l ∧ l.length ≤ 1000000 ∧ ∀ H', Same H H' → Q (T (red l)) H'
end SB
namespace L2
open PySem PySem.Spec PyProof.Rows SB
section
variable {X : Cx} {k : Nat} {f : Addr} {fd : FuncData} {ps ks : List Str} {sp : Sp} {E : XK} {g : List Value → List Value → List Value}
theorem callR_of (F : FnOk X.prog X.w X.K X.mg X.base (L2.CX X.prog X.w) k f fd ps sp) (hb : Binds X.K fd ps []) (hr : Room k X.A) (hx : Passes (L2.CX X.prog X.w) X E) : CallR X (.ref f) (fun xs H Q => sp xs H Q E) := by
  intro pins s σ H xs us Q I r h
  exact run_fn (ds := []) (dvs := []) F hr hb .nil hx I r (by rw [List.append_nil]; exact h)
theorem callRK_of (F : FnOk X.prog X.w X.K X.mg X.base (L2.CX X.prog X.w) k f fd ps sp) (hb : KBn X.K fd ps 0 ks g (fun _ zs => zs)) (hr : Room k X.A) (hx : Passes (L2.CX X.prog X.w) X E) :
    CallRK X (.ref f) ks (fun xs zs H Q => xs = [] ∧ zs.length = ks.length ∧ sp zs H Q E) := by
  intro pins s σ H xs zs us ws Q I r rz h
  obtain ⟨rfl, hl, q⟩ := h
  exact run_fnN F hr hb hx I r rz rfl hl q
end
end L2
namespace SB
open PySem PySem.Spec PyProof.Rows L2 SBX
/-- a static method with no defaults keeps the promise sp -/
structure StOk (P : Program) (w : World) (K : PySem.W.Frag) (mg : Str → Option Value) (base : Heap) (k : Nat) (f : Addr) (ps : List Str) (sp : Sp) : Prop where
  ex : ∃ (fd : FuncData), FnOk P w K mg base (L2.CX P w) k f fd ps sp ∧ PySem.W.keepIn K (.ref f) = true ∧ Binds K fd ps [] ∧ ∃ g, KBn K fd ps 0 ps g (fun _ zs => zs)
/-- the class Word -/
structure WordOk (P : Program) (w : World) (K : PySem.W.Frag) (mg : Str → Option Value) (base : Heap) (k : Nat) : Prop where
  ex : ∃ (fI : Addr) (fd : FuncData), Mk K (He.ga K "Word") fI ∧ FnOk P w K mg base (L2.CX P w) k fI fd ["self", "letters"] (spWInit K) ∧ Binds K fd ["self", "letters"] [] ∧ (∃ ds, Vals [.str ""] ds ∧ Binds K fd ["self", "letters"] ds) ∧
    ∃ g, KBn K fd ["self", "letters"] 1 ["letters"] g (fun vs zs => vs ++ zs)
section
variable {X : Cx} {k : Nat} {E : XK} {f : Addr} {ps : List Str} {sp : Sp}
theorem callSt (S : StOk X.prog X.w X.K X.mg X.base k f ps sp) (hr : Room k X.A) (hx : Passes (L2.CX X.prog X.w) X E) : CallR X (.ref f) (fun xs H Q => sp xs H Q E) := by
  obtain ⟨fd, F, kp, b, _⟩ := S.ex
  exact callR_of F b hr hx
theorem callStK (S : StOk X.prog X.w X.K X.mg X.base k f ps sp) (hr : Room k X.A) (hx : Passes (L2.CX X.prog X.w) X E) : CallRK X (.ref f) ps (fun xs zs H Q => xs = [] ∧ zs.length = ps.length ∧ sp zs H Q E) := by
  obtain ⟨fd, F, kp, _, g, b⟩ := S.ex
  exact callRK_of F b hr hx
theorem StOk.kp {P : Program} {w : World} {K : PySem.W.Frag} {mg : Str → Option Value} {base : Heap} {k : Nat} {f : Addr} {ps : List Str} {sp : Sp} (S : StOk P w K mg base k f ps sp) : PySem.W.keepIn K (.ref f) = true := by
  obtain ⟨fd, F, kp, _⟩ := S.ex
  exact kp
theorem callW1 (W : WordOk X.prog X.w X.K X.mg X.base k) (hr : Room (k + 1) X.A) (hx : Passes (L2.CX X.prog X.w) X E) : CallR X (.ref (He.ga X.K "Word")) (fun xs H Q => ∃ v, xs = [v] ∧ ValR X.K wordRes v H Q E) := by
  intro pins s σ H xs us Q I r h
  obtain ⟨v, rfl, h⟩ := h
  obtain ⟨fI, fd, M, F, b, _, _⟩ := W.ex
  exact run_make M F hr b .nil hx I r fun x dx hx hd hne => init_of h hx hd hne
theorem callW0 (W : WordOk X.prog X.w X.K X.mg X.base k) (hr : Room (k + 1) X.A) (hx : Passes (L2.CX X.prog X.w) X E) : CallR X (.ref (He.ga X.K "Word")) (fun xs H Q => xs = [] ∧ ResR X.K H Q E (.ok [])) := by
  intro pins s σ H xs us Q I r h
  obtain ⟨rfl, h⟩ := h
  obtain ⟨fI, fd, M, F, _, ⟨ds, hv, b⟩, _⟩ := W.ex
  exact run_make M F hr b hv hx I r fun x dx hx hd hne => init_of (v := .str "") (.inl ⟨[], rfl, Nat.zero_le _, h⟩) hx hd hne
theorem callWK (W : WordOk X.prog X.w X.K X.mg X.base k) (hr : Room (k + 1) X.A) (hx : Passes (L2.CX X.prog X.w) X E) : CallRK X (.ref (He.ga X.K "Word")) ["letters"] (fun xs zs H Q => xs = [] ∧ ∃ v, zs = [v] ∧ ValR X.K wordRes v H Q E) := by
  intro pins s σ H xs zs us ws Q I r rz h
  obtain ⟨rfl, v, rfl, h⟩ := h
  obtain ⟨fI, fd, M, F, _, _, g, b⟩ := W.ex
  exact run_makeN M F hr b hx I r rz rfl rfl fun x dx hx hd hne => init_of h hx hd hne
end
theorem ty_txt {K : PySem.W.Frag} {H : Hp} (x : Str) : TyZ K H (.str x) (.type "str") := .base (.base (.str x))
theorem kit_str {K : PySem.W.Frag} : PySem.W.kitOne K (.type "str") (.type "str") = some true := kit_ty (by decide +kernel)
/-- the sign ahead of the i-th -/
def prev (l : List Nat) : Nat → List Nat
  | 0 => []
  | j + 1 => match l[j]? with
    | none => []
    | some c => [c]
theorem prev_succ {l : List Nat} {i c : Nat} (h : l[i]? = some c) : prev l (i + 1) = [c] := by
  show (match l[i]? with
    | none => []
    | some c => [c]) = [c]
  rw [h]
theorem badAt_of {l : List Nat} {i c : Nat} (h : l[i]? = some c) : badAt l i = (!isL c || decide ([und c] = prev l i)) := by
  unfold badAt
  rw [h]
  cases i with
  | zero => simp [prev]
  | succ j =>
    show (!isL c || decide (l[j]? = some (und c))) = (!isL c || decide ([und c] = match l[j]? with
      | none => []
      | some c => [c]))
    congr 1
    cases l[j]? with
    | none => simp
    | some d =>
      by_cases e : und c = d
      · subst e; simp
      · have e2 : ¬ d = und c := fun z => e z.symm
        simp [e, e2]
theorem oddAt_of {l : List Nat} {i c : Nat} (h : l[i]? = some c) : oddAt l i = !isL c := by
  unfold oddAt
  rw [h]
/-- the sign ahead of the i-th is none or a letter, where none was bad -/
theorem prev_L {l : List Nat} {i : Nat} (h : ∀ j, j < i → badAt l j = false) : prev l i = [] ∨ ∃ c, prev l i = [c] ∧ isL c = true := by
  cases i with
  | zero => exact .inl rfl
  | succ j =>
    cases e : l[j]? with
    | none => exact .inl (by show (match l[j]? with | none => [] | some c => [c]) = []; rw [e])
    | some c =>
      have := h j (Nat.lt_succ_self j)
      rw [badAt_of e] at this
      simp at this
      exact .inr ⟨c, prev_succ e, this.1⟩
/-- sign == ahead.swapcase() -/
theorem swap_prev {l : List Nat} {i c : Nat} (h : ∀ j, j < i → badAt l j = false) (hc : isL c = true) : decide (T [c] = V.str (Txt.swapcase (tx (prev l i)))) = decide ([und c] = prev l i) := by
  rcases prev_L h with e | ⟨d, e, hd⟩
  · rw [e, swap_nil]
    have : ¬ T [c] = V.str (tx []) := fun z => by cases T_inj.mp z
    simp [this]
  · rw [e, swap_L hd]
    by_cases q : c = und d
    · subst q
      rw [und_und hd]
      simp
    · have q2 : ¬ und c = d := fun z => q (by rw [← z, und_und hc])
      have q3 : ¬ T [c] = V.str (tx [und d]) := fun z => q (by have := T_inj.mp z; simpa using this)
      simp [q2, q3]
/-- the signs of a row, one by one -/
def sgl (l : List Nat) : List Str := l.map fun c => tx [c]
def sglV (l : List Nat) : List V := l.map fun c => T [c]
theorem sgl_map (l : List Nat) : (sgl l).map V.str = sglV l := by simp [sgl, sglV]
theorem join_sgl (l : List Nat) : Txt.join "" (sgl l) = tx l := (PySem.StrLaws.glued_eq_join _ _).trans (join_nil_signs (tx l))
theorem dp_txts {K : PySem.W.Frag} {H : Hp} : ∀ xs : List Str, DpAll K H (xs.map V.str) (xs.map PyData.str)
  | [] => .nil
  | x :: xs => .cons (.str x) (dp_txts xs)
theorem canLay_txts : ∀ xs : List Str, (∀ x ∈ xs, PySem.PyData.strOk x = true) → PyData.canLayAll0 (xs.map PyData.str) = true
  | [], _ => rfl
  | x :: xs, h => by
    show (PySem.PyData.strOk x && PyData.canLayAll0 (xs.map PyData.str)) = true
    rw [canLay_txts xs fun y hy => h y (List.mem_cons_of_mem _ hy), Bool.and_true]
    exact h x List.mem_cons_self
theorem depth_txts : ∀ xs : List Str, PyData.depthAll (xs.map PyData.str) ≤ 1
  | [] => by decide
  | x :: xs => by
    have := depth_txts xs
    show max _ (PyData.depthAll (xs.map PyData.str)) ≤ 1
    simp [PyData.depth]; omega
theorem shaped_txts (xs : List Str) (h : ∀ x ∈ xs, PySem.PyData.strOk x = true) : SeqAt.shaped (.list (xs.map PyData.str)) = true := by
  have := depth_txts xs
  unfold SeqAt.shaped
  rw [Bool.and_eq_true]
  refine ⟨?_, decide_eq_true ?_⟩
  · show PyData.canLayAll0 _ = true
    exact canLay_txts xs h
  · simp only [PyData.depth]; omega
theorem eqv_txts : ∀ xs ys : List Str, PyData.eqv (.list (xs.map PyData.str)) (.list (ys.map PyData.str)) = decide (xs = ys)
  | [], [] => rfl
  | [], y :: ys => rfl
  | x :: xs, [] => rfl
  | x :: xs, y :: ys => by
    have ih := eqv_txts xs ys
    show (x == y && PyData.eqvAll (xs.map PyData.str) (ys.map PyData.str)) = _
    have ih2 : PyData.eqvAll (xs.map PyData.str) (ys.map PyData.str) = decide (xs = ys) := ih
    rw [ih2]
    by_cases e : x = y
    · subst e; simp
    · simp [e]
/-- signs of texts -/
def Cps (l : List Nat) : Prop := ∀ c ∈ l, c < 1114112
theorem sgl_ok {l : List Nat} (h : Cps l) : ∀ x ∈ sgl l, PySem.PyData.strOk x = true := fun x hx => by
  obtain ⟨c, hc, rfl⟩ := List.mem_map.mp hx
  unfold PySem.PyData.strOk
  simpa using h c hc
theorem allL_cps {l : List Nat} (h : AllL l) : Cps l := fun c hc => by
  rcases isL_iff.mp (h c hc) with rfl | rfl | rfl | rfl | rfl | rfl | rfl | rfl <;> decide
theorem sgl_inj {xs ys : List Nat} : decide (sgl xs = sgl ys) = decide (xs = ys) := by
  by_cases q : xs = ys
  · subst q; simp
  · have q2 : ¬ sgl xs = sgl ys := fun z => q ((List.map_inj_right (fun x y h => by have := tx_inj h; simpa using this)).mp z)
    simp [q, q2]
/-- rows of signs: == and != -/
theorem rd_neSgl {K : PySem.W.Frag} {H : Hp} {a b : Addr} {xs ys : List Nat} {Q : VK} (cx : Cps xs) (cy : Cps ys) (hx : SqL K H a (sglV xs)) (hy : SqL K H b (sglV ys)) (h : Q (.bl (!decide (xs = ys))) H) : rNeD K (.ref a) (.ref b) H Q := by
  rw [← sgl_map] at hx hy
  refine ⟨_, _, .lst hx (dp_txts _), .lst hy (dp_txts _), shaped_txts _ (sgl_ok cx), shaped_txts _ (sgl_ok cy), ?_⟩
  rw [eqv_txts, sgl_inj]
  exact h
theorem rd_eqSgl {K : PySem.W.Frag} {H : Hp} {a b : Addr} {xs ys : List Nat} {Q : VK} (cx : Cps xs) (cy : Cps ys) (hx : SqL K H a (sglV xs)) (hy : SqL K H b (sglV ys)) (h : Q (.bl (decide (xs = ys))) H) : rEqD K (.ref a) (.ref b) H Q := by
  rw [← sgl_map] at hx hy
  refine ⟨_, _, .lst hx (dp_txts _), .lst hy (dp_txts _), shaped_txts _ (sgl_ok cx), shaped_txts _ (sgl_ok cy), ?_⟩
  rw [eqv_txts, sgl_inj]
  exact h
theorem atI_last {ys : List V} {y : V} : atI (ys ++ [y]) (-1) = some y := by
  unfold atI ixN
  have h1 : ¬ (0 : Int) ≤ -1 := by decide
  have h2 : -(((ys ++ [y]).length : Nat) : Int) ≤ -1 := by simp; omega
  rw [if_neg h1, if_pos h2]
  have h3 : (-1 + (((ys ++ [y]).length : Nat) : Int)).toNat = ys.length := by simp; omega
  rw [h3]
  simp
theorem sglV_snoc (l : List Nat) (c : Nat) : sglV (l ++ [c]) = sglV l ++ [T [c]] := by simp [sglV]
theorem sglV_len (l : List Nat) : (sglV l).length = l.length := by simp [sglV]
theorem kbn1 {K : PySem.W.Frag} {x qual p : Str} {params : Arguments} {body : List Stmt} {scope : Scope} {f : Addr} {fd : FuncData} (F : FunD K x qual params body scope [] [] f fd)
    (h : ∀ (kV doc pm : Value) (an : Option Addr) (cdv ct : Value) (u : Value), bindArgs (PySem.W.fnOf x qual params body scope .none kV doc pm an cdv ct) ⟨[], [(p, u)]⟩ = pure [(p, u)]) : KBn K fd [p] 0 [p] (fun _ ws => ws) (fun _ zs => zs) := by
  obtain ⟨oc, od, dV, kV, doc, pm, an, cdv, ct, osl, rfl, lk, hcd, hD, hK⟩ := F.ex
  rcases hD with ⟨_, rfl⟩ | ⟨e, _⟩
  · refine ⟨fun s us ws X l1 l2 => ?_, fun _ r => r⟩
    match us, ws, l1, l2 with
    | [], [u], _, _ => exact .of_eq (h kV doc pm an cdv ct u)
  · exact absurd rfl e
/-- len(word), str(word) -/
def spLenW (K : PySem.W.Frag) : Sp := fun vs H Q _ => ∃ a l, vs = [.ref a] ∧ WordAt K H a l ∧ ∀ H', Same H H' → Q (.int (l.length : Nat)) H'
def told (l : List Nat) : List Nat := if l = [] then [45] else l
def spStrW (K : PySem.W.Frag) : Sp := fun vs H Q _ => ∃ a l, vs = [.ref a] ∧ WordAt K H a l ∧ ∀ H', Same H H' → Q (T (told l)) H'
theorem wf_letters (l : List Nat) : (wf l).lookup ("letters" : Str) = some (T l) := lk_self
theorem wf_size (l : List Nat) : (wf l).lookup ("size" : Str) = some (.int (l.length : Nat)) := by
  unfold wf
  rw [lk_ne (by decide +kernel), lk_self]
theorem putF1 (l : List Nat) : putF "letters" (T l) [] = [(("letters" : Str), T l)] := rfl
theorem putF2 (l : List Nat) : putF "size" (.int (l.length : Nat)) [(("letters" : Str), T l)] = wf l := by
  show (if ("letters" : Str) = "size" then _ else (("letters" : Str), T l) :: putF "size" (V.int (l.length : Nat)) []) = wf l
  rw [if_neg (by decide +kernel)]
  rfl
theorem small_tx {l : List Nat} (h : l.length ≤ 1000000) : (tx l).length ≤ sizeLine := by
  rw [sizeLine_eq]
  show l.toArray.size ≤ _
  rw [List.size_toArray]
  omega
theorem len_tx (l : List Nat) : (tx l).length = l.length := by
  show l.toArray.size = _
  rw [List.size_toArray]
/-! ### the law's reading of letters -/
def idx (c : Nat) : Nat := if c < 97 then c - 65 else c - 97 + 4
theorem occ_L {c : Nat} (h : isL c = true) : Builtin.Str.occurrences "ABCDabcd" (tx [c]) 0 ("ABCDabcd" : Str).length 1 = idx c :: [] := by
  rcases isL_iff.mp h with rfl | rfl | rfl | rfl | rfl | rfl | rfl | rfl <;> decide +kernel
theorem at_L {c : Nat} (h : isL c = true) : atI ("ABCDabcd" : Str).cps.toList (((idx c : Nat) + (4 : Int)) % 8) = some (und c) := by
  rcases isL_iff.mp h with rfl | rfl | rfl | rfl | rfl | rfl | rfl | rfl <;> decide +kernel
theorem und_other {c : Nat} (h : isL c = false) : und c = c := by
  unfold und
  rw [h]
  rfl
def optI : Option Nat → Int
  | some w => w
  | none => -1
theorem walk_range0 {P : Nat → Hp → Prop} (n : Nat) : Walk P (Itr 0 ((n : Int)).toNat) n (fun i v H H' => H' = H ∧ v = .int i) := by
  have h := walk_range (P := P) 0 n
  have e : ((n : Int)).toNat = n := by simp
  rw [e]
  exact ⟨h.go, h.stop, fun i H x H' hi hp y => by
    obtain ⟨e1, e2⟩ := h.yld i H x H' hi hp y
    rw [Int.zero_add] at e2
    exact ⟨e1, e2⟩⟩
theorem atI_txt {l : List Nat} {i : Nat} {c : Nat} (h : l[i]? = some c) : atI (tx l).cps.toList (i : Int) = some c := atI_nat (by simpa using h)
theorem badAt_law {l : List Nat} {i c d : Nat} (h : l[i + 1]? = some c) (hd : l[i]? = some d) (hc : isL c = true) (hdl : isL d = true) : badAt l (i + 1) = decide (c = und d) := by
  rw [badAt_of h, prev_succ hd, hc]
  by_cases e : c = und d
  · have : und c = d := by rw [e, und_und hdl]
    simp [e, this, und_und hdl]
  · have : ¬ und c = d := fun z => e (by rw [← z, und_und hc])
    simp [e, this]
theorem cutS_to (l : List Nat) (n : Nat) (h : n ≤ l.length) : cutS (tx l) none (some (n : Int)) = tx (l.take n) := by
  unfold cutS
  have e1 : HT.sIx (tx l).length 0 none = 0 := rfl
  have e2 : HT.sIx (tx l).length (tx l).length (some (n : Int)) = n := by
    rw [len_tx]
    have : ¬ (n : Int) < 0 := by omega
    simp [HT.sIx, this]
    omega
  rw [e1, e2]
  simp
theorem cutS_from (l : List Nat) (n : Nat) (h : n ≤ l.length) : cutS (tx l) (some (n : Int)) none = tx (l.drop n) := by
  unfold cutS
  have e1 : HT.sIx (tx l).length (tx l).length none = l.length := by rw [len_tx]; rfl
  have e2 : HT.sIx (tx l).length 0 (some (n : Int)) = n := by
    rw [len_tx]
    have : ¬ (n : Int) < 0 := by omega
    simp [HT.sIx, this]
    omega
  rw [e1, e2]
  congr 1
  simp
  exact List.take_of_length_le (by simp)
theorem tx_app (a b : List Nat) : tx a ++ tx b = tx (a ++ b) := by
  show (⟨a.toArray ++ b.toArray⟩ : Str) = _
  simp
/-- the law's striking out: a state of it -/
structure Left (l m : List Nat) (at_ : Nat) : Prop where
  allL : AllL m
  red : red m = red l
  good : Good (m.take (at_ + 1))
  len : m.length ≤ l.length
theorem good_one {c : Nat} (h : isL c = true) : Good [c] := by
  have := good_snoc (s := []) (c := c)
  exact this.mpr ⟨good_nil, h, fun z => nomatch z⟩
theorem left_0 {l : List Nat} (h : AllL l) : Left l l 0 := by
  refine ⟨h, rfl, ?_, Nat.le_refl _⟩
  cases l with
  | nil => exact good_nil
  | cons c r => exact good_one (h c List.mem_cons_self)
theorem left_end {l m : List Nat} {i : Nat} (L : Left l m i) (h : m.length ≤ i + 1) : m = SB.red l := by
  have g := L.good
  rw [List.take_of_length_le h] at g
  rw [← L.red, red_of_good g]
theorem left_next {l m : List Nat} {i a b : Nat} (L : Left l m i) (ha : m[i]? = some a) (hb : m[i + 1]? = some b) (hne : ¬ a = und b) : Left l m (i + 1) := by
  refine ⟨L.allL, L.red, ?_, L.len⟩
  rw [List.take_succ, hb]
  refine good_snoc.mpr ⟨L.good, L.allL b (List.mem_of_getElem? hb), ?_⟩
  have : (m.take (i + 1)).getLast? = some a := by
    rw [List.take_succ, ha]
    simp
  rw [this]
  exact fun z => hne (Option.some.inj z)
theorem left_cut {l m : List Nat} {i a b : Nat} (L : Left l m i) (ha : m[i]? = some a) (hb : m[i + 1]? = some b) (e : a = und b) : Left l (m.take i ++ m.drop (i + 2)) (i - 1) := by
  have hi : i + 1 < m.length := (List.getElem?_eq_some_iff.mp hb).1
  have hsplit : m = m.take i ++ a :: b :: m.drop (i + 2) := by
    have e1 := (List.take_append_drop i m).symm
    have e2 : m.drop i = a :: m.drop (i + 1) := by
      rw [List.drop_eq_getElem_cons (by omega)]
      congr 1
      exact Option.some.inj ((List.getElem?_eq_getElem (by omega)).symm.trans ha)
    have e3 : m.drop (i + 1) = b :: m.drop (i + 2) := by
      rw [List.drop_eq_getElem_cons hi]
      congr 1
      exact Option.some.inj ((List.getElem?_eq_getElem hi).symm.trans hb)
    rw [e2, e3] at e1
    exact e1
  have hall : AllL (m.take i ++ m.drop (i + 2)) := fun c hc => by
    rcases List.mem_append.mp hc with hc | hc
    · exact L.allL c (List.mem_of_mem_take hc)
    · exact L.allL c (List.mem_of_mem_drop hc)
  refine ⟨hall, ?_, ?_, ?_⟩
  · rw [← L.red]
    conv => rhs; rw [hsplit]
    exact (red_pair (fun c hc => L.allL c (List.mem_of_mem_take hc)) (L.allL a (List.mem_of_getElem? ha)) (L.allL b (List.mem_of_getElem? hb)) e).symm
  · cases i with
    | zero =>
      cases q : m.take 0 ++ m.drop 2 with
      | nil => exact good_nil
      | cons c r =>
        have : isL c = true := hall c (by rw [q]; exact List.mem_cons_self)
        exact good_one this
    | succ j =>
      show Good ((m.take (j + 1) ++ m.drop (j + 1 + 2)).take (j + 1))
      rw [List.take_append_of_le_length (by rw [List.length_take]; omega), List.take_take]
      have g := good_take L.good (j + 1)
      rw [List.take_take] at g
      have e1 : min (j + 1) (j + 1 + 1) = j + 1 := by omega
      have e2 : min (j + 1) (j + 1) = j + 1 := by omega
      rw [e1] at g
      rw [e2]
      exact g
  · have h1 := L.len
    rw [List.length_append, List.length_take, List.length_drop]
    omega
/-! ### the same where the body's context is not the def's own (lambdas) -/
/-- X runs the text that the promises tell of -/
structure On (X : Cx) (P : Program) (w : World) (K : PySem.W.Frag) (mg : Str → Option Value) (base : Heap) : Prop where
  P : X.prog = P
  w : X.w = w
  K : X.K = K
  mg : X.mg = mg
  base : X.base = base
section
variable {X : Cx} {P : Program} {w : World} {K : PySem.W.Frag} {mg : Str → Option Value} {base : Heap} {k : Nat} {E : XK} {f : Addr} {ps : List Str} {sp : Sp}
theorem callStX (S : StOk P w K mg base k f ps sp) (hr : Room k X.A) (hx : Passes (L2.CX X.prog X.w) X E) (on : On X P w K mg base := by exact ⟨rfl, rfl, rfl, rfl, rfl⟩) : CallR X (.ref f) (fun xs H Q => sp xs H Q E) := by
  obtain ⟨rfl, rfl, rfl, rfl, rfl⟩ := on
  exact callSt S hr hx
theorem callStKX (S : StOk P w K mg base k f ps sp) (hr : Room k X.A) (hx : Passes (L2.CX X.prog X.w) X E) (on : On X P w K mg base := by exact ⟨rfl, rfl, rfl, rfl, rfl⟩) : CallRK X (.ref f) ps (fun xs zs H Q => xs = [] ∧ zs.length = ps.length ∧ sp zs H Q E) := by
  obtain ⟨rfl, rfl, rfl, rfl, rfl⟩ := on
  exact callStK S hr hx
theorem callW1X (W : WordOk P w K mg base k) (hr : Room (k + 1) X.A) (hx : Passes (L2.CX X.prog X.w) X E) (on : On X P w K mg base := by exact ⟨rfl, rfl, rfl, rfl, rfl⟩) : CallR X (.ref (He.ga K "Word")) (fun xs H Q => ∃ v, xs = [v] ∧ ValR K wordRes v H Q E) := by
  obtain ⟨rfl, rfl, rfl, rfl, rfl⟩ := on
  exact callW1 W hr hx
theorem callW0X (W : WordOk P w K mg base k) (hr : Room (k + 1) X.A) (hx : Passes (L2.CX X.prog X.w) X E) (on : On X P w K mg base := by exact ⟨rfl, rfl, rfl, rfl, rfl⟩) : CallR X (.ref (He.ga K "Word")) (fun xs H Q => xs = [] ∧ ResR K H Q E (.ok [])) := by
  obtain ⟨rfl, rfl, rfl, rfl, rfl⟩ := on
  exact callW0 W hr hx
theorem callWKX (W : WordOk P w K mg base k) (hr : Room (k + 1) X.A) (hx : Passes (L2.CX X.prog X.w) X E) (on : On X P w K mg base := by exact ⟨rfl, rfl, rfl, rfl, rfl⟩) : CallRK X (.ref (He.ga K "Word")) ["letters"] (fun xs zs H Q => xs = [] ∧ ∃ v, zs = [v] ∧ ValR K wordRes v H Q E) := by
  obtain ⟨rfl, rfl, rfl, rfl, rfl⟩ := on
  exact callWK W hr hx
end
end SB

end
section
set_option maxHeartbeats 1000000
/-! Defs that make lambdas; what is heard of a call. -/
namespace SB
open PySem PySem.Spec PyProof.Rows L2 SBX LamX
/-- a def of the text that makes lambdas: its code object is known -/
theorem callOkL {P : Program} {w : World} {K : PySem.W.Frag} {mg : Str → Option Value} {base : Heap} {x qual : Str} {params : Arguments} {body : List Stmt} {scope : Scope} {N ps : List Str} {k : Nat} {sp : Sp} (g : mg x = some (.ref (He.ga K x))) (F : ∃ fd, FunD K x qual params body scope [] [] (He.ga K x) fd) (S : FnScope N ps scope)
    (hb : ∀ (kV doc pm : Value) (an : Option Addr) (cdv ct : Value) (us : List Value), us.length = ps.length → bindArgs (PySem.W.fnOf x qual params body scope .none kV doc pm an cdv ct) ⟨us, []⟩ = pure (ps.zip us))
    (len : ∀ vs H Q E, sp vs H Q E → vs.length = ps.length)
    (hbody : ∀ (A : Around) (outer : List Env) (s : Shared) (H : Hp) (vs : List V) (Q : VK) (E : XK), Room k (A.deeper (envOfC qual scope s.heap.objs.size (He.ga K x) (.ref (He.cT K (x, none)).1))) → sp vs H Q E →
      ∃ t, PSs (cxOf (L2.CX P w) P w K mg base N qual scope (He.ga K x) (.ref (He.cT K (x, none)).1) A outer s H E) body t ∧ t { nx := fun _ H' => Q .non H', rt := Q } (L2.start N vs) H) : CallOk P w K mg base (k + 1) x ps sp := by
  obtain ⟨fd, F⟩ := F
  have hbn := F.bindsN hb
  have hkp := F.kp
  obtain ⟨oc, od, dV, kV, doc, pm, an, cdv, ct, osl, rfl, lk, hcd, hD, hK⟩ := F.ex
  obtain ⟨c, rfl⟩ := He.codeIn_ref hcd
  have e : (He.cT K (x, none)).1 = c := He.codeOf_eq (p := (x, none)) lk rfl
  rw [e] at hbody
  exact ⟨_, _, fn_of lk hcd S len hbody, g, hkp, hbn⟩
/-- the same for a known function object -/
theorem fnOkL {P : Program} {w : World} {K : PySem.W.Frag} {mg : Str → Option Value} {base : Heap} {x qual : Str} {params : Arguments} {body : List Stmt} {scope : Scope} {N ps : List Str} {k : Nat} {sp : Sp} {fd : FuncData} (F : FunD K x qual params body scope [] [] (He.ga K x) fd) (S : FnScope N ps scope)
    (len : ∀ vs H Q E, sp vs H Q E → vs.length = ps.length)
    (hbody : ∀ (A : Around) (outer : List Env) (s : Shared) (H : Hp) (vs : List V) (Q : VK) (E : XK), Room k (A.deeper (envOfC qual scope s.heap.objs.size (He.ga K x) (.ref (He.cT K (x, none)).1))) → sp vs H Q E →
      ∃ t, PSs (cxOf (L2.CX P w) P w K mg base N qual scope (He.ga K x) (.ref (He.cT K (x, none)).1) A outer s H E) body t ∧ t { nx := fun _ H' => Q .non H', rt := Q } (L2.start N vs) H) : FnOk P w K mg base (L2.CX P w) (k + 1) (He.ga K x) fd ps sp := by
  obtain ⟨oc, od, dV, kV, doc, pm, an, cdv, ct, osl, rfl, lk, hcd, hD, hK⟩ := F.ex
  obtain ⟨c, rfl⟩ := He.codeIn_ref hcd
  have e : (He.cT K (x, none)).1 = c := He.codeOf_eq (p := (x, none)) lk rfl
  rw [e] at hbody
  exact fn_of lk hcd S len hbody
theorem noCX2 {P : Program} {w : World} {outer : List Env} {H : Hp} {s s' : Shared} {u : Value} (c : L2.CX P w outer H s (fun _ _ _ => False) u s') : False := noCX c
theorem pass_lam {X : Cx} {A : Around} {outer : List Env} {s : Shared} {H : Hp} {E : XK} {scope : Scope} {f c' : Addr} : Passes (L2.CX X.prog X.w) (lamCx X A outer s H E scope f c') E :=
  passes_call (takes_of rfl rfl rfl rfl) (fun _ _ _ _ h => h)
/-- nothing of it is a table -/
def NoT (F : Hp) : Prop := ∀ b ps, F b ≠ some (.tbl ps)
def noT (F : Hp) : Hp := fun b => match F b with
  | some (.tbl _) => none
  | o => o
theorem noT_at {F : Hp} {b : Addr} {o : HO} (h : F b = some o) (n : ∀ ps, o ≠ .tbl ps) : noT F b = some o := by
  unfold noT
  rw [h]
  cases o <;> first | rfl | exact absurd rfl (n _)
theorem noT_same (F : Hp) : Same (noT F) F := fun b o e => by
  unfold noT at e
  cases q : F b with
  | none => rw [q] at e; cases e
  | some u =>
    rw [q] at e
    cases u <;> first | exact e | cases e
theorem noT_noT (F : Hp) : NoT (noT F) := fun b ps e => by
  unfold noT at e
  cases q : F b with
  | none => rw [q] at e; cases e
  | some u => rw [q] at e; cases u <;> cases e
theorem Pen.noT {F H : Hp} {p c : Addr} {n : Nat} (P : Pen F H p c n) : Pen (SB.noT F) H p c n := by
  obtain ⟨⟨xs, spot, rest, h1, h2, h3, h4, h5, h6⟩, s0, off⟩ := P
  exact ⟨⟨xs, spot, rest, h1, noT_at h2 (fun _ z => nomatch z), h3, h4, h5, h6⟩, (noT_same F).trans s0, (noT_same F).free off⟩
theorem Pen.extN {F H H' : Hp} {p c : Addr} {n : Nat} (P : Pen F H p c n) (nt : NoT F) (e : ExtN H H') : Pen F H' p c n := by
  obtain ⟨⟨xs, spot, rest, h1, h2, h3, h4, h5, h6⟩, s0, off⟩ := P
  exact ⟨⟨xs, spot, rest, e _ _ h1 (fun _ z => nomatch z), h2, h3, h4, h5, h6⟩, fun b o q => e b o (s0 _ _ q) (fun ps z => nt b ps (by rw [q, z])), off⟩
theorem ExtN.ofSame {H H' : Hp} (s : Same H H') : ExtN H H' := fun b o h _ => s b o h
theorem WordAt.extN {K : PySem.W.Frag} {H H' : Hp} {a : Addr} {l : List Nat} (w : WordAt K H a l) (e : ExtN H H') : WordAt K H' a l := by
  obtain ⟨dx, q, h⟩ := w
  exact ⟨dx, e _ _ q (fun _ z => nomatch z), h⟩
/-- a held exception with these fields -/
def ExcAt (H : Hp) (a : Addr) (C : Addr) (fs : List (Str × V)) : Prop := ∃ d, H a = some (XcO (.ref C) (some d) a) ∧ H d = some (.xd fs)
theorem ExcAt.same {H H' : Hp} {a C : Addr} {fs : List (Str × V)} (x : ExcAt H a C fs) (s : Same H H') : ExcAt H' a C fs := by
  obtain ⟨d, h1, h2⟩ := x
  exact ⟨d, s _ _ h1, s _ _ h2⟩
theorem ExcAt.extN {H H' : Hp} {a C : Addr} {fs : List (Str × V)} (x : ExcAt H a C fs) (s : ExtN H H') : ExcAt H' a C fs := by
  obtain ⟨d, h1, h2⟩ := x
  exact ⟨d, s _ _ h1 (fun _ z => by unfold XcO at z; cases z), s _ _ h2 (fun _ z => nomatch z)⟩
/-- the wish of a call that is heard -/
def HeardE (K : PySem.W.Frag) (CS : Addr) (Q : VK) : XK := fun cls d H' => PySem.W.exmOne K cls (.ref CS) = some true ∧ ∀ a, H' a = none → Q (.ref a) (upd H' a (XcO cls d a))
def THeardN (K : PySem.W.Frag) (CS : Addr) : (XK → Hp → VK → Prop) → Hp → VK → Prop := fun tl H Q => tl (HeardE K CS Q) H (fun _ H' => ∃ v, (some (some V.non) : Option (Option V)) = some (some v) ∧ Q v H')
/-- what is heard of a call that ends by the exception -/
theorem heard_rz {K : PySem.W.Frag} {H : Hp} {C CS : Addr} {fs : List (Str × V)} {Q : VK} (hx : PySem.W.exmOne K (.ref C) (.ref CS) = some true) (h : ∀ a H', Same H H' → ExcAt H' a C fs → Q (.ref a) H') :
    Rz H C fs (HeardE K CS Q) := fun d H' s n e => by
  refine ⟨hx, fun a ha => h a _ ?_ ⟨d, upd_same, by rw [upd_ne (ne_of_none e ha)]; exact e⟩⟩
  exact fun b o q => by rw [upd_ne (ne_of_none (s b o q) ha)]; exact s b o q
theorem hu_of {l : List (Addr × Str)} {P : Addr} {q : Str} (nd : (l.map (·.1)).Nodup) (h : (P, q) ∈ l) : ∀ p ∈ l, p.1 = P → p.2 = q := by
  induction l with
  | nil => cases h
  | cons a r ih =>
    rw [List.map_cons, List.nodup_cons] at nd
    intro p hp e
    rcases List.mem_cons.mp hp with e1 | hp1
    · rcases List.mem_cons.mp h with h2 | h2
      · rw [e1, ← h2]
      · exact absurd (List.mem_map.mpr ⟨(P, q), h2, rfl⟩) (by rw [← e, e1]; exact nd.1)
    · rcases List.mem_cons.mp h with h2 | h2
      · have z : p.1 ∈ r.map (·.1) := List.mem_map.mpr ⟨p, hp1, rfl⟩
        rw [e] at z
        rw [← h2] at nd
        exact absurd z nd.1
      · exact ih nd.2 h2 p hp1 e
theorem ResR.bad_ {K : PySem.W.Frag} {H : Hp} {Q : VK} {E : XK} {r : Res} {w : Nat} (e : r = .bad w) (h : Rz H (He.ga K "BadWord") [("at", .int (w : Nat))] E) : ResR K H Q E r := by subst e; exact h
theorem ResR.ok_ {K : PySem.W.Frag} {H : Hp} {Q : VK} {E : XK} {r : Res} {l : List Nat} (e : r = .ok l) (h : ∀ a H', Same H H' → H a = none → WordAt K H' a l → Q (.ref a) H') : ResR K H Q E r := by subst e; exact h
theorem ResR.many_ {K : PySem.W.Frag} {H : Hp} {Q : VK} {E : XK} {r : Res} (e : r = .many) (h : Rz H (He.ga K "TooMany") [("what", .str "letters"), ("most", .int 4000)] E) : ResR K H Q E r := by subst e; exact h
theorem wordRes_bad {l : List Nat} {w : Nat} (h : firstBad l = some w) : wordRes l = .bad w := by unfold wordRes; rw [h]
theorem wordRes_ok {l : List Nat} (h : firstBad l = none) (hl : l.length ≤ 4000) : wordRes l = .ok l := by unfold wordRes; rw [h]; exact if_pos hl
theorem wordRes_many {l : List Nat} (h : firstBad l = none) (hl : 4000 < l.length) : wordRes l = .many := by unfold wordRes; rw [h]; exact if_neg (by omega)
theorem ofRes_bad {l : List Nat} {w : Nat} (h : firstOdd l = some w) : ofRes l = .bad w := by unfold ofRes; rw [h]
theorem ofRes_ok {l : List Nat} (h : AllL l) (hl : (red l).length ≤ 4000) : ofRes l = .ok (red l) := by unfold ofRes; rw [firstOdd_allL h]; exact if_pos hl
theorem ofRes_many {l : List Nat} (h : AllL l) (hl : 4000 < (red l).length) : ofRes l = .many := by unfold ofRes; rw [firstOdd_allL h]; exact if_neg (by omega)
theorem red_red {l : List Nat} (h : AllL l) : red (red l) = red l := red_of_good (red_good h)
/-! ### long rows -/
theorem good_join {s t : List Nat} (hs : Good s) (ht : Good t) (hc : ∀ a b, s.getLast? = some a → t.head? = some b → a ≠ und b) : Good (s ++ t) := by
  intro j hj
  rw [List.length_append] at hj
  by_cases h : j < s.length
  · rw [badAt_app h]; exact hs j h
  · obtain ⟨i, rfl⟩ : ∃ i, j = s.length + i := ⟨j - s.length, by omega⟩
    have hi : i < t.length := by omega
    obtain ⟨c, hcI⟩ : ∃ c, t[i]? = some c := ⟨t[i], by simp [hi]⟩
    have e : (s ++ t)[s.length + i]? = some c := by
      rw [List.getElem?_append_right (by omega)]
      simpa using hcI
    have hb := ht i hi
    rw [badAt_of hcI] at hb
    rw [badAt_of e]
    simp at hb
    simp [hb.1]
    cases i with
    | zero =>
      cases hl : s.length with
      | zero => simp [prev]
      | succ m =>
        have hd : ∃ d, s[m]? = some d := ⟨s[m]'(by omega), by simp⟩
        obtain ⟨d, hd⟩ := hd
        have e2 : (s ++ t)[m]? = some d := by rw [List.getElem?_append_left (by omega)]; exact hd
        show ¬ [und c] = prev (s ++ t) (m + 1)
        rw [prev_succ e2]
        intro z
        have z2 : und c = d := by simpa using z
        have hl2 : s.getLast? = some d := by rw [List.getLast?_eq_getElem?, hl]; exact hd
        have hh : t.head? = some c := by rw [List.head?_eq_getElem?]; exact hcI
        exact hc d c hl2 hh z2.symm
    | succ k =>
      have hd : ∃ d, t[k]? = some d := ⟨t[k]'(by omega), by simp⟩
      obtain ⟨d, hd⟩ := hd
      have e2 : (s ++ t)[s.length + k]? = some d := by
        rw [List.getElem?_append_right (by omega)]
        simpa using hd
      have hb2 := hb.2
      rw [prev_succ hd] at hb2
      show ¬ [und c] = prev (s ++ t) (s.length + k + 1)
      rw [prev_succ e2]
      exact hb2
theorem rep_last {u : List Nat} : ∀ n, (rep (n + 1) u).getLast? = u.getLast? ∨ u = []
  | n => by
    cases u with
    | nil => exact .inr rfl
    | cons a r =>
      left
      show (rep n (a :: r) ++ (a :: r)).getLast? = _
      rw [List.getLast?_append]
      cases h : (a :: r).getLast? with
      | none => simp at h
      | some d => simp
theorem good_rep {u : List Nat} (hu : Good u) (hc : ∀ a b, u.getLast? = some a → u.head? = some b → a ≠ und b) : ∀ n, Good (rep n u)
  | 0 => good_nil
  | n + 1 => by
    refine good_join (good_rep hu hc n) hu fun a b ha hb => ?_
    cases n with
    | zero => cases ha
    | succ m =>
      rcases rep_last (u := u) m with e | e
      · rw [e] at ha
        exact hc a b ha hb
      · rw [e] at hb; cases hb
/-- a row that may be told over and over -/
def unitB (u : List Nat) : Bool := !decide (u = []) && (decide (u.length ≤ 16) && ((List.range u.length).all (fun i => !badAt u i) && (match u.getLast?, u.head? with
  | some a, some b => !decide (a = und b)
  | _, _ => true)))
theorem unitB_ok {u : List Nat} (h : unitB u = true) : u ≠ [] ∧ u.length ≤ 16 ∧ ∀ n, Good (rep n u) := by
  obtain ⟨h1, h⟩ := band h
  obtain ⟨h2, h⟩ := band h
  obtain ⟨h3, h4⟩ := band h
  refine ⟨by simpa using h1, of_decide_eq_true h2, good_rep (fun j hj => ?_) fun a b ha hb => ?_⟩
  · have := List.all_eq_true.mp h3 j (List.mem_range.mpr hj)
    simpa using this
  · rw [ha, hb] at h4
    simpa using h4
theorem red_inv {s : List Nat} (hs : AllL s) : ∀ x : List Nat, AllL x → red (s ++ x ++ (x.map und).reverse) = red s := by
  intro x
  induction h : x.length generalizing x with
  | zero =>
    intro _
    rw [List.length_eq_zero_iff.mp h]
    simp
  | succ n ih =>
    intro hx
    have hne : x ≠ [] := fun e => by rw [e] at h; cases h
    have e := List.dropLast_concat_getLast hne
    generalize x.getLast hne = c at e
    have hx' : AllL x.dropLast := fun d hd => hx d ((List.dropLast_sublist x).subset hd)
    have hc : isL c = true := hx c (by rw [← e]; simp)
    rw [← e]
    have e2 : s ++ (x.dropLast ++ [c]) ++ ((x.dropLast ++ [c]).map und).reverse = (s ++ x.dropLast) ++ c :: und c :: (x.dropLast.map und).reverse := by simp
    rw [e2, red_pair (fun d hd => ?_) hc (und_L hc) (und_und hc).symm]
    · exact ih x.dropLast (by rw [List.length_dropLast, h]; rfl) hx'
    · rcases List.mem_append.mp hd with hd | hd
      · exact hs d hd
      · exact hx' d hd
theorem spoil {m : List Nat} {i : Nat} (hm : Good m) (hi : i < m.length) : firstBad (m.take i ++ [45] ++ m.drop (i + 1)) = some i ∧ firstOdd (m.take i ++ [45] ++ m.drop (i + 1)) = some i := by
  have hl : (m.take i).length = i := by rw [List.length_take]; omega
  have hat : (m.take i ++ [45] ++ m.drop (i + 1))[i]? = some 45 := by
    rw [List.append_assoc, List.getElem?_append_right (by omega), hl]
    simp
  have hlen : i < (m.take i ++ [45] ++ m.drop (i + 1)).length := (List.getElem?_eq_some_iff.mp hat).1
  have hg := good_take hm i
  refine ⟨first_some hlen (by rw [badAt_of hat]; rfl) fun j hj => ?_, first_some hlen (by rw [oddAt_of hat]; rfl) fun j hj => ?_⟩
  · rw [List.append_assoc, badAt_app (by omega)]
    exact hg j (by omega)
  · have hb := hg j (by omega)
    obtain ⟨c, hc⟩ : ∃ c, (m.take i)[j]? = some c := ⟨(m.take i)[j]'(by omega), List.getElem?_eq_getElem (by omega)⟩
    have hc2 : (m.take i ++ [45] ++ m.drop (i + 1))[j]? = some c := by
      rw [List.append_assoc, List.getElem?_append_left (by omega)]
      exact hc
    rw [badAt_of hc] at hb
    rw [oddAt_of hc2]
    simp at hb
    simp [hb.1]
/-! ### tables where lists are written -/
theorem TabS.but {H H' : Hp} {P : Addr} {q : Str} (t : TabS H P q) (e : ∀ b o, H b = some o → (∀ xs, o ≠ .lst xs) → H' b = some o) : TabS H' P q := by
  obtain ⟨ps, h1, h2, h3⟩ := t
  refine ⟨ps, e _ _ h1 (fun _ z => nomatch z), h2, fun pos cv hc => ?_⟩
  obtain ⟨c, e1, e2⟩ := h3 pos cv hc
  exact ⟨c, e1, e _ _ e2 (fun _ z => by unfold CodeO at z; cases z)⟩
theorem Tabs.but {T : List (Addr × Str)} {H H' : Hp} (t : Tabs T H) (e : ∀ b o, H b = some o → (∀ xs, o ≠ .lst xs) → H' b = some o) : Tabs T H' := fun p hp => TabS.but (t p hp) e
theorem Tabs.pen {T : List (Addr × Str)} {F H H' : Hp} {p c : Addr} {n : Nat} (P : Pen F H p c n) (t : Tabs T H) (s : Same (offP H p) H') : Tabs T H' := by
  obtain ⟨⟨xs, spot, rest, h1, _⟩, _, _⟩ := P
  refine Tabs.but t fun b o e n => s b o (offP_at e fun z => ?_)
  rw [z, h1] at e
  exact n _ (Option.some.inj e).symm
theorem Tabs.wr {T : List (Addr × Str)} {H H' : Hp} {a : Addr} {o : HO} {xs : List V} (t : Tabs T H) (w : Wr H a o H') (ha : H a = some (.lst xs)) : Tabs T H' :=
  Tabs.but t fun b u e n => by
    rw [w.oth b fun z => by rw [z, ha] at e; exact n _ (Option.some.inj e).symm]
    exact e
theorem ExcAt.wr {H H' : Hp} {a a0 C : Addr} {fs : List (Str × V)} {o : HO} {xs : List V} (x : ExcAt H a C fs) (w : Wr H a0 o H') (ha : H a0 = some (.lst xs)) : ExcAt H' a C fs := by
  obtain ⟨d, h1, h2⟩ := x
  refine ⟨d, ?_, ?_⟩
  · rw [w.oth a fun z => by rw [z, ha] at h1; unfold XcO at h1; cases h1]; exact h1
  · rw [w.oth d fun z => by rw [z, ha] at h2; cases h2]; exact h2
theorem sgl_sum : ∀ m : List Nat, ((sgl m).map (·.length)).sum = m.length := fun m => by
  induction m with
  | nil => rfl
  | cons a r ih =>
    show (tx [a]).length + ((sgl r).map (·.length)).sum = r.length + 1
    rw [ih, len_tx]
    simp
    omega
theorem join_fits {m : List Nat} (h : m.length ≤ 1000000) : ((sgl m).map (·.length)).sum + (sgl m).length * ("" : Str).length ≤ 16777216 := by
  rw [sgl_sum]
  have e0 : ("" : Str).length = 0 := rfl
  rw [e0]
  omega
theorem app_fits {a b : List Nat} (h : a.length + b.length ≤ 1000000) : (tx a).length + (tx b).length ≤ sizeLine := by
  rw [len_tx, len_tx, sizeLine_eq]
  omega
theorem ExcAt.ty {K : PySem.W.Frag} {H : Hp} {a d C : Addr} {fs : List (Str × V)} (ha : H a = some (XcO (.ref C) (some d) a)) (hd : H d = some (.xd fs)) (c : ExcC K C) : TyZ K H (.ref a) (.ref C) :=
  .exc (d := some d) ha (fun b e => by
    have e2 := Option.some.inj e
    subst e2
    exact ⟨fs, hd⟩) c
theorem TyZ.extN {K : PySem.W.Frag} {H H' : Hp} {x : V} {t : Value} (h : TyZ K H x t) (s : ExtN H H') : TyZ K H' x t := by
  cases h with
  | base b =>
    refine .base ?_
    cases b with
    | base c =>
      refine .base ?_
      cases c with
      | non => exact .non
      | bl x => exact .bl x
      | int i => exact .int i
      | str x => exact .str x
      | flt x => exact .flt x
      | lst e => exact .lst (s _ _ e (fun _ z => nomatch z))
      | frz e => exact .frz (s _ _ e (fun _ z => nomatch z))
      | tup e => exact .tup (s _ _ e (fun _ z => nomatch z))
      | dK e => exact .dK (s _ _ e (fun _ z => nomatch z))
      | dT e => exact .dT (s _ _ e (fun _ z => nomatch z))
      | ins e cl ha hn ht hm => exact .ins (s _ _ e (fun _ z => nomatch z)) cl ha hn ht hm
    | byt b => exact .byt b
    | set e => exact .set (s _ _ e (fun _ z => nomatch z))
    | kList e c => exact .kList e c
    | kTuple e c => exact .kTuple e c
    | kDict e c => exact .kDict e c
    | fTuple e => exact .fTuple (s _ _ e (fun _ z => nomatch z))
    | fDict e => exact .fDict (s _ _ e (fun _ z => nomatch z))
  | exc e hd c => exact .exc (s _ _ e (fun _ z => by unfold XcO at z; cases z)) (fun b hb => let ⟨fs, q⟩ := hd b hb; ⟨fs, s _ _ q (fun _ z => nomatch z)⟩) c
/-- rows of texts: == -/
theorem rd_eqStr {K : PySem.W.Frag} {H : Hp} {a b : Addr} {xs : List Str} {Q : VK} (ok : ∀ x ∈ xs, PySem.PyData.strOk x = true) (hx : SqL K H a (xs.map V.str)) (hy : SqL K H b (xs.map V.str)) (h : Q (.bl true) H) : rEqD K (.ref a) (.ref b) H Q := by
  refine ⟨_, _, .lst hx (dp_txts _), .lst hy (dp_txts _), shaped_txts _ ok, shaped_txts _ ok, ?_⟩
  rw [eqv_txts, decide_eq_true rfl]
  exact h
theorem strOk_tx {l : List Nat} (h : Cps l) : PySem.PyData.strOk (tx l) = true := by
  unfold PySem.PyData.strOk
  unfold Cps at h
  simpa using h
/-- all but the pen and the tables stays -/
def ExtNP (p : Addr) (H H' : Hp) : Prop := ∀ b o, b ≠ p → H b = some o → (∀ ps, o ≠ .tbl ps) → H' b = some o
theorem ExtNP.ofN {p : Addr} {H H' : Hp} (e : ExtN H H') : ExtNP p H H' := fun b o _ h n => e b o h n
theorem ExtNP.ofSame {p : Addr} {H H' : Hp} (e : Same H H') : ExtNP p H H' := fun b o _ h _ => e b o h
theorem ExtNP.ofOff {p : Addr} {H H' : Hp} (e : Same (offP H p) H') : ExtNP p H H' := fun b o hb h _ => e b o (offP_at h hb)
theorem ExtNP.ofOffN {p : Addr} {H H' : Hp} (e : Same (noT (offP H p)) H') : ExtNP p H H' := fun b o hb h n => e b o (noT_at (offP_at h hb) n)
theorem ExtNP.trans {p : Addr} {H H1 H2 : Hp} (a : ExtNP p H H1) (b : ExtNP p H1 H2) : ExtNP p H H2 := fun x o hx h n => b x o hx (a x o hx h n) n
/-- the words that are kept with their texts, in a list at kd -/
structure Kept (K : PySem.W.Frag) (H : Hp) (kd p : Addr) (ws : List (Addr × Addr × List Nat)) : Prop where
  lst : H kd = some (.lst (ws.map fun q => V.ref q.1))
  ne : kd ≠ p
  all : ∀ q ∈ ws, q.1 ≠ p ∧ q.2.1 ≠ p ∧ H q.1 = some (.tup [.ref q.2.1, T q.2.2]) ∧ WordAt K H q.2.1 q.2.2 ∧ Cps q.2.2
theorem Kept.ext {K : PySem.W.Frag} {H H' : Hp} {kd p : Addr} {ws : List (Addr × Addr × List Nat)} (k : Kept K H kd p ws) (e : ExtNP p H H') : Kept K H' kd p ws := by
  refine ⟨e _ _ k.ne k.lst (fun _ z => nomatch z), k.ne, fun q hq => ?_⟩
  obtain ⟨h1, h2, h3, ⟨dx, h4, h5⟩, h6⟩ := k.all q hq
  exact ⟨h1, h2, e _ _ h1 h3 (fun _ z => nomatch z), ⟨dx, e _ _ h2 h4 (fun _ z => nomatch z), h5⟩, h6⟩
theorem Kept.put {K : PySem.W.Frag} {H H' : Hp} {kd p tp a : Addr} {l : List Nat} {ws : List (Addr × Addr × List Nat)} (k : Kept K H kd p ws) (w : Wr H kd (.lst (ws.map (fun q => V.ref q.1) ++ [.ref tp])) H') (ht : H tp = some (.tup [.ref a, T l])) (hw : WordAt K H a l) (hc : Cps l) (h1 : tp ≠ p) (h2 : a ≠ p) :
    Kept K H' kd p (ws ++ [(tp, a, l)]) := by
  have oth : ∀ b o, H b = some o → (∀ xs, o ≠ .lst xs) → H' b = some o := fun b o e n => by
    rw [w.oth b fun z => by rw [z, k.lst] at e; exact n _ (Option.some.inj e).symm]
    exact e
  refine ⟨by rw [w.at_]; simp, k.ne, fun q hq => ?_⟩
  rcases List.mem_append.mp hq with hq | hq
  · obtain ⟨g1, g2, g3, ⟨dx, g4, g5⟩, g6⟩ := k.all q hq
    exact ⟨g1, g2, oth _ _ g3 (fun _ z => nomatch z), ⟨dx, oth _ _ g4 (fun _ z => nomatch z), g5⟩, g6⟩
  · rw [List.mem_singleton.mp hq]
    obtain ⟨dx, g4, g5⟩ := hw
    exact ⟨h1, h2, oth _ _ ht (fun _ z => nomatch z), ⟨dx, oth _ _ g4 (fun _ z => nomatch z), g5⟩, hc⟩
/-! ### rules that name K, for bodies of comprehensions and lambdas -/
section
variable {X : Cx} {K : PySem.W.Frag}
theorem pg_tupK {es : List Expr} {k n : Nat} {t : TGs} {pos : Pos} (hc : X.calm = true) (h : PGs X es t) (hK : X.K = K := by rfl) (hn : (assignEach es X.env).length = n := by rfl) (hst : (assignEach es X.env).findIdx? (·.1) = none := by rfl) : PG X (.Tuple es k pos) (gTup K n t) := by
  subst hK
  exact pg_tup hc h hn hst
theorem pe_fldK {e : Expr} {f : Str} {pos : Pos} {ta : TE} (he : PE X e ta) (hK : X.K = K := by rfl) (hb : attributeBase e f X.env (eval e X.env) = eval e X.env := by rfl) : PE X (.Attribute e f pos) (tFld K ta f) := by
  subst hK
  exact pe_fld he hb
end
theorem Kept.wr {K : PySem.W.Frag} {H H' : Hp} {kd p hd : Addr} {o : HO} {xs : List V} {ws : List (Addr × Addr × List Nat)} (k : Kept K H kd p ws) (w : Wr H hd o H') (hh : H hd = some (.lst xs)) (hne : kd ≠ hd) : Kept K H' kd p ws := by
  have oth : ∀ b u, H b = some u → (∀ ys, u ≠ .lst ys) → H' b = some u := fun b u e n => by
    rw [w.oth b fun z => by rw [z, hh] at e; exact n _ (Option.some.inj e).symm]
    exact e
  refine ⟨by rw [w.oth kd hne]; exact k.lst, k.ne, fun q hq => ?_⟩
  obtain ⟨g1, g2, g3, ⟨dx, g4, g5⟩, g6⟩ := k.all q hq
  exact ⟨g1, g2, oth _ _ g3 (fun _ z => nomatch z), ⟨dx, oth _ _ g4 (fun _ z => nomatch z), g5⟩, g6⟩
/-- the kept words' letters -/
def lets (ws : List (Addr × Addr × List Nat)) : List Str := ws.map fun q => tx q.2.2
theorem lets_ok {K : PySem.W.Frag} {H : Hp} {kd p : Addr} {ws : List (Addr × Addr × List Nat)} (k : Kept K H kd p ws) : ∀ x ∈ lets ws, PySem.PyData.strOk x = true := fun x hx => by
  obtain ⟨q, hq, rfl⟩ := List.mem_map.mp hx
  exact strOk_tx (k.all q hq).2.2.2.2
theorem lets_V (ws : List (Addr × Addr × List Nat)) : (lets ws).map V.str = ws.map fun q => T q.2.2 := by simp [lets]
end SB

end
section
set_option maxHeartbeats 1000000
/-! Own comparisons and operators: ==, !=, <.. of two objects of one class; * ; ~ ; o[i]. -/
namespace SB
open PySem PySem.Spec PyProof.Rows L2 SBX
section
variable {prog : Program} {w : World} {M : Model} {A : Around} {E : Value → Shared → Prop} {s : Shared} {K : PySem.W.Frag} {x C : Addr} {ox : Obj} {od : Option Obj} {name : Str} {id : String}
theorem ifBound_obj {args : List Value} {Q : Option Value → Shared → Prop} (X : K.In s.heap) (I : PySem.W.InstAt s.heap x ox C od) (hs : PySem.W.findIn K (.ref C) name = some (some (.builtin id))) (S : PySem.Slot "object" name id)
    (h : wpAny M A (call (.builtin id) (.ref x :: args)) (fun v => Q (some v)) E s) : wpAny M A (callSpecialIfBound? (.ref x) name args) Q E s := by
  simp only [callSpecialIfBound?, bindSpecialIfBound?]
  refine wpAny_holding (wpAny_bind (wpAny_bind (wpAny_bind (I.type.here ((PySem.W.looks_findIn X hs).here ?_)))))
  refine wpAny_bind (wpAny_askSetting (wpAny_ite ?_))
  have fin : wpAny M A (call (.builtin id) ([.ref x] ++ args) >>= fun v => pure (some v)) Q E s := wpAny_bind (wpAny_mono h (fun v s' h' => wpAny_pure h') fun _ _ h' => h')
  simp only [S.bind]
  split
  · exact wpAny_bind (wpAny_pure (wpAny_pure fin))
  · exact wpAny_tryCatch (wpAny_bind (wpAny_pure (wpAny_pure fin)))
/-- x != b by object's own __ne__ over an own __eq__ -/
theorem ne_K {h₀ : Heap} {L : Addr} {m : Str → Option Value} {b tb : Value} {f : Addr} {Q : Value → Shared → Prop} (hu : A.units + 1 < cLine) (F : Fr h₀ L s.heap m) (X₀ : K.In h₀) (I : PySem.W.InstAt s.heap x ox C od) (hb : PySem.W.Looks (model prog w) s.heap (typeOf b) tb) (hn : PySem.W.notFirst K C tb = true)
    (hm : PySem.W.mroIn K C (.type "object") = some true) (hne : PySem.W.findIn K (.ref C) "__ne__" = some (some (.builtin "object.__ne__")))
    (hs : PySem.W.findIn K (.ref C) "__eq__" = some (some (.ref f))) (hf : PySem.W.isFn K (.ref f) = true)
    (h : wpAny (model prog w) A.in1 (call (.ref f) [.ref x, b]) (fun v s' => ∃ r, v = .bool r ∧ Q (.bool (!r)) s') E s) : wpAny (model prog w) A (richCompare .NotEq (.ref x) b) Q E s := by
  have X := X₀.keeps F.keep
  have inst : PySem.W.Looks (model prog w) s.heap (isInstance (.ref x) (.type "object")) true := by
    unfold isInstance
    exact I.type.andThen (PySem.W.looks_mroIn X hm)
  have hu' : A.in1.units < cLine := hu
  have entry : wpAny (model prog w) A.in1 (Builtin.«object.__ne__» ⟨[.ref x, b], []⟩) (fun fin s' => match fin with
      | .done (.ret v) => ∃ r, v = .bool r ∧ Q (.bool r) s'
      | _ => False) E s := by
    unfold Builtin.«object.__ne__»
    repeat (first
      | with_reducible refine wpAny_cRoomFor hu' ?_
      | (refine wpAny_bind (m := callSpecialIfBound? (.ref x) (Str.ofString "__eq__") [b])
          (PySem.W.ifBound_K X I hs hf (wpAny_mono h (fun r s' hr => by
            obtain ⟨b, rfl, hq⟩ := hr
            repeat (first | exact ⟨_, rfl, hq⟩ | exact wpAny_pure ⟨_, rfl, hq⟩ | exact wpAny_truthy_bool ⟨_, rfl, hq⟩ | (refine wpAny_bind (m := truthy (.bool _)) (wpAny_truthy_bool ?_)) | wp_step)) fun _ _ e => e)))
      | wp_step)
  have one : wpAny (model prog w) A (tryCompare (.ref x) (cmpInfo .NotEq).2.1 b) (fun r s' => ∃ v, r = some v ∧ Q v s') E s := by
    unfold tryCompare
    refine wpAny_bind (ifBound_obj X I hne PySem.F.cmp_object.ne (wpAny_call (codeAny_call_builtin PySem.F.cmp_object.ne.plain PySem.F.cmpEntry_ne
      (PySem.W.check_slot PySem.F.cmpKind_ne PySem.F.cmpSplit_ne inst (PySem.F.cmpArgs_ne _ _) (wpAny_mono entry (fun fin s' hq => ?_) fun _ _ e => e)))))
    cases fin with
    | done fl =>
      cases fl with
      | ret v =>
        obtain ⟨r, rfl, q⟩ := hq
        exact wpAny_pure ⟨_, rfl, q⟩
      | next => exact hq.elim
      | brk => exact hq.elim
      | cont => exact hq.elim
    | again c => exact hq.elim
  unfold richCompare
  simp only [oneThing_ref]
  refine wpAny_holding (wpAny_bind (wpAny_cRoomFor (Nat.lt_of_succ_lt hu) ?_))
  refine wpAny_bind (I.type.here (wpAny_bind (hb.here ?_)))
  split
  · rename_i q
    have e : PySem.W.subIn K tb (.ref C) = some false := by
      rcases Bool.or_eq_true_iff.mp hn with e | e
      · rw [beq_iff_eq.mp e] at q; simp at q
      · exact beq_iff_eq.mp e
    refine wpAny_bind ((PySem.W.looks_subIn X e).here ?_)
    simp only [Bool.false_eq_true, if_false]
    refine wpAny_bind (wpAny_mono one (fun r s' z => ?_) fun _ _ e => e)
    obtain ⟨v, rfl, hq⟩ := z
    exact wpAny_pure hq
  · refine wpAny_bind (wpAny_pure ?_)
    simp only [Bool.false_eq_true, if_false]
    refine wpAny_bind (wpAny_mono one (fun r s' z => ?_) fun _ _ e => e)
    obtain ⟨v, rfl, hq⟩ := z
    exact wpAny_pure hq
end
end SB
namespace L2
open PySem PySem.Spec PyProof.Rows SB
section
variable {X : Cx} {C : Addr} {k : Nat}
/-- x op y of two objects of the class at C, by the promise of its special method -/
def rOwnC (C : Addr) (sp : Sp) (E : XK) : R2 := fun x y H Q => ∃ a dx fs b dy gs, x = .ref a ∧ y = .ref b ∧ H a = some (.ins C dx fs) ∧ H b = some (.ins C dy gs) ∧ sp [.ref a, .ref b] H Q E
theorem op_cmpC {op : CmpOp} {ps : List Str} {sp : Sp} {E : XK} (hop : ∀ a b, compareOp op a b = richCompare op a b) (S : Special X.prog X.w X.K X.mg X.base k C (cmpInfo op).2.1 ps sp) (hr : Room k X.A) (hx : Passes (L2.CX X.prog X.w) X E) : OpR X (compareOp op) (rOwnC C sp E) := by
  intro pins s σ H x y v u Q I rx ry h
  obtain ⟨a, dx, fs, b, dy, gs, rfl, rfl, ha, hb', hq⟩ := h
  obtain rfl : v = Value.ref a := rx
  obtain rfl : u = Value.ref b := ry
  obtain ⟨f, fd, hm, F, hb⟩ := S.ex
  obtain ⟨mA, J, _⟩ := ins_get I.hok ha
  obtain ⟨mB, J', _⟩ := ins_get I.hok hb'
  obtain ⟨od, J, _⟩ := J.look
  obtain ⟨od', J', _⟩ := J'.look
  obtain ⟨m0, hF⟩ := I.fr
  rw [hop]
  refine PySem.W.cmp_K (op := op) (tb := .ref C) hr.units0 hF I.ok.mod.kin J J'.type (by simp [PySem.W.notFirst]) hm.at_ hm.fn (thn (run_at (⟨hr, rfl⟩ : Sub X k X.A) F hb hx I (vs := [.ref a, .ref b]) (.cons rfl (.cons rfl .nil)) hq) fun u s' hh => ?_)
  obtain ⟨z, H', I', rv, q⟩ := hh
  exact SlX.cmpback rv ⟨z, H', I', rv, q⟩
/-- x != y, the class's own == asked -/
theorem op_neC {ps : List Str} {sp : Sp} {E : XK} (S : Special X.prog X.w X.K X.mg X.base k C "__eq__" ps sp) (ty : TyC X.K C) (hne : PySem.W.findIn X.K (.ref C) "__ne__" = some (some (.builtin "object.__ne__"))) (hr : Room (k + 1) X.A) (hx : Passes (L2.CX X.prog X.w) X E) :
    OpR X (compareOp .NotEq) (fun x y H Q => ∃ a dx fs b dy gs, x = .ref a ∧ y = .ref b ∧ H a = some (.ins C dx fs) ∧ H b = some (.ins C dy gs) ∧ sp [.ref a, .ref b] H (fun v H' => ∃ r, v = .bl r ∧ Q (.bl (!r)) H') E) := by
  intro pins s σ H x y v u Q I rx ry h
  obtain ⟨a, dx, fs, b, dy, gs, rfl, rfl, ha, hb', hq⟩ := h
  obtain rfl : v = Value.ref a := rx
  obtain rfl : u = Value.ref b := ry
  obtain ⟨f, fd, hm, F, hb⟩ := S.ex
  obtain ⟨mA, J, _⟩ := ins_get I.hok ha
  obtain ⟨mB, J', _⟩ := ins_get I.hok hb'
  obtain ⟨od, J, _⟩ := J.look
  obtain ⟨od', J', _⟩ := J'.look
  obtain ⟨m0, hF⟩ := I.fr
  have sb : Sub X k X.A.in1 := Sub.in1 (⟨hr, rfl⟩ : Sub X (k + 1) X.A)
  show wpAny (model X.prog X.w) X.A (richCompare .NotEq (.ref a) (.ref b)) (EP X pins σ Q) X.xe s
  refine SB.ne_K (tb := .ref C) sb.room.units0 hF I.ok.mod.kin J J'.type (by simp [PySem.W.notFirst]) ty.hm hne hm.at_ hm.fn (thn (run_at sb F hb hx I (vs := [.ref a, .ref b]) (.cons rfl (.cons rfl .nil)) hq) fun u s' hh => ?_)
  obtain ⟨z, H', I', rv, r, rfl, q⟩ := hh
  cases (show u = Value.bool r from rv)
  exact ⟨r, rfl, .bl (!r), H', I', rfl, q⟩
/-- ~x -/
theorem un_invC {ps : List Str} {sp : Sp} {E : XK} (S : Special X.prog X.w X.K X.mg X.base k C "__invert__" ps sp) (hr : Room k X.A) (hx : Passes (L2.CX X.prog X.w) X E) :
    UnR X (unaryOp .Invert) (fun x H Q => ∃ a dx fs, x = .ref a ∧ H a = some (.ins C dx fs) ∧ sp [.ref a] H Q E) := by
  intro pins s σ H x v Q I rx h
  obtain ⟨a, dx, fs, rfl, ha, hq⟩ := h
  obtain rfl : v = Value.ref a := rx
  obtain ⟨f, fd, hm, F, hb⟩ := S.ex
  obtain ⟨mA, J, _⟩ := ins_get I.hok ha
  obtain ⟨od, J, _⟩ := J.look
  obtain ⟨m0, hF⟩ := I.fr
  exact PySem.W.ksp_inv hF I.ok.mod.kin J hm.at_ hm.fn (run_at (⟨hr, rfl⟩ : Sub X k X.A) F hb hx I (vs := [.ref a]) (.cons rfl .nil) hq)
/-- x op y of two objects of the class at C -/
theorem op_binC {op : Operator} {ps : List Str} {sp : Sp} {E : XK} (S : Special X.prog X.w X.K X.mg X.base k C (PySem.dunder op.info.2) ps sp) (hc : PySem.W.selfFirst X.K C = true) (hr : Room k X.A) (hx : Passes (L2.CX X.prog X.w) X E) : OpR X (binaryOp op) (rOwnC C sp E) := by
  intro pins s σ H x y v u Q I rx ry h
  obtain ⟨a, dx, fs, b, dy, gs, rfl, rfl, ha, hb', hq⟩ := h
  obtain rfl : v = Value.ref a := rx
  obtain rfl : u = Value.ref b := ry
  obtain ⟨f, fd, hm, F, hb⟩ := S.ex
  obtain ⟨mA, J, _⟩ := ins_get I.hok ha
  obtain ⟨mB, J', _⟩ := ins_get I.hok hb'
  obtain ⟨od, J, _⟩ := J.look
  obtain ⟨od', J', _⟩ := J'.look
  obtain ⟨m0, hF⟩ := I.fr
  refine PySem.W.binop_K hF I.ok.mod.kin J J'.type hc hm.at_ hm.fn (thn (run_at (⟨hr, rfl⟩ : Sub X k X.A) F hb hx I (vs := [.ref a, .ref b]) (.cons rfl (.cons rfl .nil)) hq) fun u s' hh => ?_)
  obtain ⟨z, H', I', rv, q⟩ := hh
  exact SlX.cmpback rv ⟨z, H', I', rv, q⟩
end
end L2

end
section
set_option maxHeartbeats 1000000
/-! Texts of words: their items, what reading says; own == of words. -/
namespace SB
open PySem PySem.Spec PyProof.Rows L2 SBX
/-- the items of a text, parted by blanks -/
def itm (l : List Nat) : List (List Nat) := TL.spl [32] 0 [] l
theorem spl_glue : ∀ (l acc : List Nat), TL.spl [32] 0 acc l ≠ [] ∧ TL.joinL [32] (TL.spl [32] 0 acc l) = acc ++ l := by
  intro l
  induction l with
  | nil =>
    intro acc
    rw [TL.spl_nil]
    exact ⟨by simp, by simp [TL.joinL]⟩
  | cons c r ih =>
    intro acc
    cases hp : TL.pre [32] (c :: r) with
    | true =>
      have hc : c = 32 := by
        have e : (c :: r).take 1 = [32] := eq_of_beq hp
        simpa using e
      rw [TL.spl_hit hp]
      refine ⟨by simp, ?_⟩
      obtain ⟨h1, h2⟩ := ih []
      show TL.joinL [32] (acc :: TL.spl [32] 0 [] r) = _
      cases q : TL.spl [32] 0 [] r with
      | nil => exact absurd q h1
      | cons a b =>
        rw [q] at h2
        show acc ++ ([32] ++ TL.joinL [32] (a :: b)) = _
        rw [h2, hc]
        simp
    | false =>
      rw [TL.spl_miss hp]
      obtain ⟨h1, h2⟩ := ih (acc ++ [c])
      exact ⟨h1, by rw [h2]; simp⟩
theorem itm_ne (l : List Nat) : itm l ≠ [] := (spl_glue l []).1
theorem itm_glue (l : List Nat) : TL.joinL [32] (itm l) = l := by
  have := (spl_glue l []).2
  unfold itm
  simpa using this
theorem itm_one {l x : List Nat} (h : itm l = [x]) : x = l := by
  have := itm_glue l
  rw [h] at this
  exact this
theorem itm_head {l x : List Nat} {r : List (List Nat)} (h : itm l = x :: r) : x.length ≤ l.length := by
  have := itm_glue l
  rw [h] at this
  rw [← this]
  cases r with
  | nil => exact Nat.le_refl _
  | cons a b =>
    show x.length ≤ (x ++ ([32] ++ TL.joinL [32] (a :: b))).length
    rw [List.length_append]
    omega
theorem itm_plain {l : List Nat} (h : 32 ∉ l) : itm l = [l] := by
  have := TL.spl_join (s := 32) (S := []) (parts := [l]) (by simp) (fun p hp => by rw [List.mem_singleton.mp hp]; exact h)
  exact this
theorem itm_len (l : List Nat) : (itm l).length ≤ l.length + 1 := by
  have : ∀ (l acc : List Nat), (TL.spl [32] 0 acc l).length ≤ l.length + 1 := by
    intro l
    induction l with
    | nil => intro acc; rw [TL.spl_nil]; simp
    | cons c r ih =>
      intro acc
      cases hp : TL.pre [32] (c :: r) with
      | true =>
        rw [TL.spl_hit hp]
        have := ih []
        simp only [List.length_cons] at this ⊢
        exact Nat.succ_le_succ this
      | false =>
        rw [TL.spl_miss hp]
        have := ih (acc ++ [c])
        simp only [List.length_cons] at this ⊢
        omega
  exact this l []
theorem split_T (l : List Nat) : (Txt.split (tx l) " ").map V.str = (itm l).map T := by
  have h := TL.split_spl (tx l) " " (by decide +kernel) (TL.kind_ok (by decide +kernel))
  have e : TL.tl (" " : Str) = [32] := by decide +kernel
  have e2 : TL.tl (tx l) = l := by show l.toArray.toList = l; simp
  rw [e, e2] at h
  unfold itm
  rw [← h, List.map_map]
  refine List.map_congr_left fun x _ => ?_
  show V.str x = V.str ⟨(TL.tl x).toArray⟩
  congr 1
/-- what reading says: a word, or the first item that cannot stand -/
inductive Rd where
  | ok (l : List Nat)
  | bad (w : Nat)
def rdRow (i : List Nat) (r : List (List Nat)) : Rd := if r = [] then .ok i else .bad 1
def readRes (l : List Nat) : Rd := match itm l with
  | [] => .bad 0
  | i :: r => if i = [45] then rdRow [] r else if i = [] ∨ firstBad i ≠ none ∨ 4000 < i.length then .bad 0 else rdRow i r
def RdR (K : PySem.W.Frag) (H : Hp) (Q : VK) (E : XK) : Rd → Prop
  | .ok l => ∀ a H', Same H H' → H a = none → WordAt K H' a l → Q (.ref a) H'
  | .bad w => Rz H (He.ga K "BadText") [("item", .int (w : Nat))] E
theorem RdR.same {K : PySem.W.Frag} {H H1 : Hp} {Q : VK} {E : XK} {r : Rd} (h : RdR K H Q E r) (s : Same H H1) : RdR K H1 Q E r := by
  cases r with
  | ok l => exact fun a H' s' n w => h a H' (s.trans s') (s.free n) w
  | bad w => exact Rz.same h s
theorem RdR.ok_ {K : PySem.W.Frag} {H : Hp} {Q : VK} {E : XK} {r : Rd} {l : List Nat} (e : r = .ok l) (h : ∀ a H', Same H H' → H a = none → WordAt K H' a l → Q (.ref a) H') : RdR K H Q E r := by subst e; exact h
theorem RdR.bad_ {K : PySem.W.Frag} {H : Hp} {Q : VK} {E : XK} {r : Rd} {w : Nat} (e : r = .bad w) (h : Rz H (He.ga K "BadText") [("item", .int (w : Nat))] E) : RdR K H Q E r := by subst e; exact h
/-- what the value v reads -/
def ReadR (K : PySem.W.Frag) (v : V) (H : Hp) (Q : VK) (E : XK) : Prop :=
  (∃ l, v = T l ∧ l.length ≤ 1000000 ∧ RdR K H Q E (readRes l)) ∨ (∃ t, TyZ K H v t ∧ PySem.W.kitOne K t (.type "str") = some false ∧ RdR K H Q E (.bad 0))
/-- contracts -/
def spRead (K : PySem.W.Frag) : Sp := fun vs H Q E => ∃ v, vs = [v] ∧ ReadR K v H Q E
def spIsLetter : Sp := fun vs H Q _ => ∃ c, vs = [T [c]] ∧ ∀ H', Same H H' → Q (.bl (isL c)) H'
def spIsRow : Sp := fun vs H Q _ => ∃ l, vs = [T l] ∧ l.length ≤ 1000000 ∧ ∀ H', Same H H' → Q (.bl (decide (firstBad l = none))) H'
def spLone (K : PySem.W.Frag) : Sp := fun vs H Q E => ∃ a xs m, vs = [.ref a, T m] ∧ SqL K H a xs ∧ m.length ≤ 4000 ∧ firstBad m = none ∧ xs ≠ [] ∧ xs.length ≤ 1000001 ∧ RdR K H Q E (if xs.length = 1 then .ok m else .bad 1)
def spEqW (K : PySem.W.Frag) : Sp := fun vs H Q _ => ∃ a b l m, vs = [.ref a, .ref b] ∧ WordAt K H a l ∧ WordAt K H b m ∧ Cps l ∧ Cps m ∧ ∀ H', Same H H' → Q (.bl (decide (l = m))) H'
/-- pairs of a number and a text: == -/
theorem rd_eqPair {K : PySem.W.Frag} {H : Hp} {a b : Addr} {l m : List Nat} {Q : VK} (hx : SqT K H a [.int (l.length : Nat), T l]) (hy : SqT K H b [.int (m.length : Nat), T m]) (cl : Cps l) (cm : Cps m) (h : Q (.bl (decide (l = m))) H) : rEqD K (.ref a) (.ref b) H Q := by
  have sh : ∀ z : List Nat, Cps z → SeqAt.shaped (.tuple [.int (z.length : Nat), .str (tx z)]) = true := fun z hz => by
    unfold SeqAt.shaped
    rw [Bool.and_eq_true]
    refine ⟨?_, by simp [PyData.depth, PyData.depthAll]⟩
    have := strOk_tx hz
    show (PyData.canLay0 (.int (z.length : Nat)) && (PyData.canLay0 (.str (tx z)) && true)) = true
    rw [Bool.and_true]
    show (true && PySem.PyData.strOk (tx z)) = true
    rw [this]
    rfl
  refine ⟨_, _, .tup hx (.cons (.int _) (.cons (.str _) .nil)), .tup hy (.cons (.int _) (.cons (.str _) .nil)), sh l cl, sh m cm, ?_⟩
  have e : PyData.eqv (.tuple [.int (l.length : Nat), .str (tx l)]) (.tuple [.int (m.length : Nat), .str (tx m)]) = decide (l = m) := by
    show ((((l.length : Nat) : Int) == (m.length : Nat)) && ((tx l == tx m) && true)) = _
    by_cases q : l = m
    · subst q; simp
    · have q2 : ¬ tx l = tx m := fun z => q (tx_inj z)
      simp [q, q2]
  rw [e]
  exact h
/-- a first item that can stand -/
theorem readRes_dash {l : List Nat} {r : List (List Nat)} (h : itm l = [45] :: r) : readRes l = rdRow [] r := by
  unfold readRes
  rw [h]
  exact if_pos rfl
theorem readRes_bad {l i : List Nat} {r : List (List Nat)} (h : itm l = i :: r) (h1 : i ≠ [45]) (h2 : i = [] ∨ firstBad i ≠ none ∨ 4000 < i.length) : readRes l = .bad 0 := by
  unfold readRes
  rw [h]
  show (if i = [45] then rdRow [] r else _) = _
  rw [if_neg h1, if_pos h2]
theorem readRes_row {l i : List Nat} {r : List (List Nat)} (h : itm l = i :: r) (h1 : i ≠ [45]) (h2 : i ≠ []) (h3 : firstBad i = none) (h4 : i.length ≤ 4000) : readRes l = rdRow i r := by
  unfold readRes
  rw [h]
  show (if i = [45] then rdRow [] r else _) = _
  rw [if_neg h1, if_neg]
  rintro (e | e | e)
  · exact h2 e
  · exact e h3
  · omega
theorem rdRow_one {i : List Nat} {r : List (List Nat)} {xs : List V} (h : xs.length = r.length + 1) : (if xs.length = 1 then Rd.ok i else .bad 1) = rdRow i r := by
  unfold rdRow
  by_cases q : r = []
  · subst q
    rw [if_pos rfl, if_pos (by simpa using h)]
  · rw [if_neg q, if_neg]
    have := List.length_pos_iff.mpr q
    omega
/-- the signs of a good row are no blank -/
theorem good_no32 {l : List Nat} (h : Good l) : 32 ∉ l := fun z => by
  have := good_allL h 32 z
  exact absurd this (by decide)
theorem good_no45 {l : List Nat} (h : Good l) : l ≠ [45] := fun z => by
  have := good_allL h 45 (by rw [z]; simp)
  exact absurd this (by decide)
/-- what a word tells is read back -/
theorem readRes_told {l : List Nat} (h : Good l) (h4 : l.length ≤ 4000) : readRes (told l) = .ok l := by
  unfold told
  by_cases e : l = []
  · subst e
    rw [if_pos rfl]
    have : itm [45] = [45] :: [] := itm_plain (by decide)
    rw [readRes_dash this]
    rfl
  · rw [if_neg e]
    have : itm l = l :: [] := itm_plain (good_no32 h)
    rw [readRes_row this (good_no45 h) e (firstBad_good h) h4]
    rfl
end SB
namespace L2
open PySem PySem.Spec PyProof.Rows SB
section
variable {X : Cx}
/-- a text parted by blanks -/
theorem mt_splitB : MtR X "str.split" (fun x xs H Q => ∃ l, x = T l ∧ xs = [.str " "] ∧ l.length ≤ 1000000 ∧ ∀ p H', Nw H p (.lst ((itm l).map T)) H' → Q (.ref p) H') := by
  intro pins s σ H x xs v us Q I rx rs h
  obtain ⟨l, rfl, rfl, hl, h⟩ := h
  refine mt_split pins s σ H (T l) [.str " "] v us Q I rx rs ⟨tx l, " ", rfl, rfl, by decide +kernel, by rw [len_tx, sizeLine_eq]; omega, fun p hp => ?_⟩
  rw [split_T]
  exact h p _ (.of hp)
/-- a statement that is never reached -/
def sDead : TS := fun _ _ _ => False
theorem ps_dead {st : Stmt} : PS X st sDead := ⟨fun _ _ _ _ _ _ h => h.elim⟩
end
end L2
namespace SB
open PySem PySem.Spec PyProof.Rows L2 SBX
theorem at_L0 {c : Nat} (h : isL c = true) : atI ("abcdABCD" : Str).cps.toList ((idx c : Nat) : Int) = some (und c) := by
  rcases isL_iff.mp h with rfl | rfl | rfl | rfl | rfl | rfl | rfl | rfl <;> decide +kernel
/-- kinds of letters to draw from: letters, two different ones among them -/
def kindB (u : List Nat) : Bool := decide (u.length ≤ 20) && (u.all isL && u.any (fun a => u.any fun b => !decide (a = b)))
theorem kindB_ok {u : List Nat} (h : kindB u = true) : u.length ≤ 20 ∧ AllL u ∧ ∀ x, ∃ a ∈ u, a ≠ x := by
  obtain ⟨h1, h⟩ := band h
  obtain ⟨h2, h3⟩ := band h
  refine ⟨of_decide_eq_true h1, fun c hc => List.all_eq_true.mp h2 c hc, fun x => ?_⟩
  obtain ⟨a, ha, h4⟩ := List.any_eq_true.mp h3
  obtain ⟨b, hb, h5⟩ := List.any_eq_true.mp h4
  have hne : a ≠ b := by simpa using h5
  by_cases e : a = x
  · exact ⟨b, hb, fun z => hne (by rw [e, z])⟩
  · exact ⟨a, ha, e⟩
/-- the letters that can stand behind a row -/
def fitB (l : List Nat) (c : Nat) : Bool := decide (l = []) || !decide (l.getLast? = some (und c))
theorem good_put {l : List Nat} {c : Nat} (h : Good l) (hc : isL c = true) (hf : fitB l c = true) : Good (l ++ [c]) := by
  refine good_snoc.mpr ⟨h, hc, fun z => ?_⟩
  unfold fitB at hf
  rw [z] at hf
  cases l with
  | nil => cases z
  | cons a r => simp at hf
theorem fit_some {l u : List Nat} (hl : Good l) (h : kindB u = true) : u.filter (fitB l) ≠ [] := by
  obtain ⟨_, hu, hx⟩ := kindB_ok h
  intro e
  rw [List.filter_eq_nil_iff] at e
  cases hq : l.getLast? with
  | none =>
    obtain ⟨a, ha, _⟩ := hx 0
    have := e a ha
    unfold fitB at this
    rw [hq] at this
    simp at this
  | some d =>
    obtain ⟨a, ha, hne⟩ := hx (und d)
    have := e a ha
    unfold fitB at this
    rw [hq] at this
    simp at this
    exact hne (by rw [this.2, und_und (hu a ha)])
/-- a drawn row: at most m letters, none beside its undoing -/
def spRowD : Sp := fun vs H Q _ => ∃ F p c n m, vs = [.ref p, .int (m : Nat)] ∧ m ≤ 1000 ∧ n ≤ 900000 ∧ Pen F H p c n ∧ ∀ l H', l.length ≤ m → Good l → Pen F H' p c (n + m + 2) → Q (T l) H'
end SB
namespace SB
open PySem PySem.Spec PyProof.Rows L2 SBX
theorem yesB {A B : Prop} (h : A) : if true = true then A else B := by rw [if_pos rfl]; exact h
theorem noB {A B : Prop} (h : B) : if false = true then A else B := by rw [if_neg (by decide)]; exact h
theorem atI_lastN {l : List Nat} {d : Nat} (h : l.getLast? = some d) : atI (tx l).cps.toList (-1) = some d := by
  have e : (tx l).cps.toList = l := by show l.toArray.toList = l; simp
  rw [e, snoc_of h]
  unfold atI ixN
  have h1 : ¬ (0 : Int) ≤ -1 := by decide
  have h2 : -(((l.dropLast ++ [d]).length : Nat) : Int) ≤ -1 := by simp; omega
  rw [if_neg h1, if_pos h2]
  have h3 : (-1 + (((l.dropLast ++ [d]).length : Nat) : Int)).toNat = l.dropLast.length := by simp; omega
  rw [h3]
  simp
theorem take_yes {l u : List Nat} {j c : Nat} (hc : u[j]? = some c) (h : fitB l c = true) : sglV ((u.take j).filter (fitB l)) ++ [T [c]] = sglV ((u.take (j + 1)).filter (fitB l)) := by
  rw [List.take_succ, hc]
  simp [sglV, h]
theorem take_no {l u : List Nat} {j c : Nat} (hc : u[j]? = some c) (h : fitB l c = false) : sglV ((u.take j).filter (fitB l)) = sglV ((u.take (j + 1)).filter (fitB l)) := by
  rw [List.take_succ, hc]
  simp [sglV, h]
theorem lc_skip {D : Addr} {Pv : Nat → List V → Hp → Prop} {i : Nat} {acc : List V} {H : Hp} (h : H D = some (.lst acc)) (hl : acc.length ≤ i) (hp : Pv (i + 1) acc H) : LcI D Pv (i + 1) H := ⟨acc, by omega, hp, h⟩
end SB
namespace SB
open PySem PySem.Spec PyProof.Rows L2 SBX
theorem iteNT {c A B : Prop} [Decidable c] (hc : ¬ c) (h : A) : if (!decide c) = true then A else B := by
  rw [decide_eq_false hc]
  exact iteT h
/-- the row that a first item tells -/
def rowOf (i : List Nat) : List Nat := if i = [45] then [] else i
def dueV : Rd → V
  | .ok m => T m
  | .bad w => .int (w : Nat)
/-- what the law reads of a first item and the rest -/
theorem due_none {l i : List Nat} {r : List (List Nat)} (h : itm l = i :: r) (hi : i = []) : readRes l = .bad 0 := readRes_bad h (by rw [hi]; decide) (.inl hi)
theorem due_bad {l i : List Nat} {r : List (List Nat)} (h : itm l = i :: r) (hb : firstBad (rowOf i) ≠ none) : readRes l = .bad 0 := by
  unfold rowOf at hb
  by_cases e : i = [45]
  · rw [if_pos e] at hb
    exact absurd rfl hb
  · rw [if_neg e] at hb
    exact readRes_bad h e (.inr (.inl hb))
theorem due_ok {l i : List Nat} {r : List (List Nat)} (h : itm l = i :: r) (hl : l.length ≤ 4000) (h0 : i ≠ []) (hg : firstBad (rowOf i) = none) : readRes l = rdRow (rowOf i) r := by
  unfold rowOf at hg ⊢
  by_cases e : i = [45]
  · rw [if_pos e]
    subst e
    exact readRes_dash h
  · rw [if_neg e] at hg ⊢
    exact readRes_row h e h0 hg (Nat.le_trans (itm_head h) hl)
theorem readRes_ok {l m : List Nat} (h : readRes l = .ok m) : told m = l ∧ firstBad m = none ∧ m.length ≤ 4000 := by
  obtain ⟨i, r, hi⟩ : ∃ i r, itm l = i :: r := by
    cases e : itm l with
    | nil => exact absurd e (itm_ne l)
    | cons i r => exact ⟨i, r, rfl⟩
  have one : ∀ {x : List Nat}, rdRow x r = .ok m → r = [] ∧ x = m := fun {x} q => by
    unfold rdRow at q
    by_cases e : r = []
    · rw [if_pos e] at q
      exact ⟨e, by injection q⟩
    · rw [if_neg e] at q
      cases q
  by_cases e : i = [45]
  · subst e
    rw [readRes_dash hi] at h
    obtain ⟨hr, rfl⟩ := one h
    subst hr
    exact ⟨itm_one hi, rfl, by decide⟩
  · by_cases h2 : i = [] ∨ firstBad i ≠ none ∨ 4000 < i.length
    · rw [readRes_bad hi e h2] at h
      cases h
    · have a1 : i ≠ [] := fun z => h2 (.inl z)
      have a2 : firstBad i = none := Decidable.byContradiction fun z => h2 (.inr (.inl z))
      have a3 : i.length ≤ 4000 := Nat.le_of_not_lt fun z => h2 (.inr (.inr z))
      rw [readRes_row hi e a1 a2 a3] at h
      obtain ⟨hr, rfl⟩ := one h
      subst hr
      refine ⟨?_, a2, a3⟩
      unfold told
      rw [if_neg a1]
      exact itm_one hi
theorem cutS_from' (l : List Nat) (n : Nat) : cutS (tx l) (some (n : Int)) none = tx (l.drop n) := by
  by_cases h : n ≤ l.length
  · exact cutS_from l n h
  · unfold cutS
    have e1 : HT.sIx (tx l).length (tx l).length none = l.length := by rw [len_tx]; rfl
    have e2 : HT.sIx (tx l).length 0 (some (n : Int)) = l.length := by
      rw [len_tx]
      have : ¬ (n : Int) < 0 := by omega
      simp [HT.sIx, this]
      omega
    have e3 : l.drop n = [] := List.drop_eq_nil_of_le (by omega)
    rw [e1, e2, e3]
    congr 1
    simp
/-- no sign is odd, none beside its undoing -/
theorem good_parts {m : List Nat} (h1 : ∀ j, j < m.length → oddAt m j = false) (h2 : ∀ j, j < m.length - 1 → badAt m (j + 1) = false) : firstBad m = none := by
  refine first_none fun j hj => ?_
  cases j with
  | zero =>
    obtain ⟨c, hc⟩ : ∃ c, m[0]? = some c := ⟨m[0], by simp [hj]⟩
    have := h1 0 hj
    rw [oddAt_of hc] at this
    rw [badAt_of hc]
    simp at this
    simp [this, prev]
  | succ k => exact h2 k (by omega)
theorem bad_of_odd {m : List Nat} {j : Nat} (hj : j < m.length) (h : oddAt m j = true) : firstBad m ≠ none := fun z => by
  have := (good_of_none z) j hj
  obtain ⟨c, hc⟩ : ∃ c, m[j]? = some c := ⟨m[j], by simp [hj]⟩
  rw [badAt_of hc] at this
  rw [oddAt_of hc] at h
  simp at this h
  rw [this.1] at h
  cases h
theorem bad_of_adj {m : List Nat} {j : Nat} (hj : j < m.length) (h : badAt m j = true) : firstBad m ≠ none := fun z => by
  have := (good_of_none z) j hj
  rw [this] at h
  cases h
/-- ones for what was found -/
def ones (p : Nat → Bool) (n : Nat) : List Int := ((List.range n).filter p).map fun _ => 1
theorem ones_yes {p : Nat → Bool} {j : Nat} (h : p j = true) : (ones p j).map V.int ++ [V.int 1] = (ones p (j + 1)).map V.int := by
  unfold ones
  rw [List.range_succ]
  simp [h]
theorem ones_no {p : Nat → Bool} {j : Nat} (h : p j = false) : (ones p j).map V.int = (ones p (j + 1)).map V.int := by
  unfold ones
  rw [List.range_succ]
  simp [h]
theorem ones_nil {p : Nat → Bool} {n : Nat} (h : ones p n = []) : ∀ j, j < n → p j = false := fun j hj => by
  unfold ones at h
  rw [List.map_eq_nil_iff, List.filter_eq_nil_iff] at h
  simpa using h j (List.mem_range.mpr hj)
theorem ones_some {p : Nat → Bool} {n : Nat} (h : ones p n ≠ []) : ∃ j, j < n ∧ p j = true := by
  refine Classical.byContradiction fun z => h ?_
  unfold ones
  rw [List.map_eq_nil_iff, List.filter_eq_nil_iff]
  exact fun j hj hp => z ⟨j, List.mem_range.mp hj, hp⟩
def spDue : Sp := fun vs H Q _ => ∃ l, vs = [T l] ∧ l.length ≤ 4000 ∧ ∀ H', Same H H' → Q (dueV (readRes l)) H'
/-- a text changed at a drawn place -/
def spSpoiled : Sp := fun vs H Q _ => ∃ F p c n l, vs = [.ref p, T l] ∧ l.length ≤ 1000 ∧ n ≤ 900000 ∧ Pen F H p c n ∧ ∀ m H', m.length ≤ 1010 → Pen F H' p c (n + 4) → Q (T m) H'
end SB
namespace SB
open PySem PySem.Spec PyProof.Rows L2 SBX
theorem tC_eq {x y : V} {σ : L2.St} {H : Hp} {Q : VK} (e : x = y) (h : tC y σ H Q) : tC x σ H Q := e ▸ h
end SB
namespace L2
open PySem PySem.Spec PyProof.Rows SB
theorem op_isFalse {X : Cx} : OpR X (compareOp .Is) (fun x y H Q => ∃ i b, x = .int i ∧ y = .bl b ∧ Q (.bl false) H) := by
  intro pins s σ H x y v u Q I rx ry h
  obtain ⟨i, b, rfl, rfl, q⟩ := h
  obtain ⟨t, rfl⟩ := rx
  cases (show u = Value.bool b from ry)
  exact wpAny_is_other (by rfl) (fun z => nomatch z) ⟨.bl false, H, I, rfl, q⟩
end L2

end
section
set_option maxHeartbeats 1000000
/-! Own == and != with what is of another kind: NotImplemented on both sides. -/
namespace SB
open PySem PySem.Spec PyProof.Rows L2 SBX
open PySem.AutoSeq1 (wpAny_loadPart')
section
variable {C dx : Addr}
theorem int_eq_ins_bool (b : Bool) (l : Addr) : Meets (Builtin.«int.__eq__» ⟨[.bool b, .ref l], []⟩) (fun _ R s => s.heap.get? l = some (PySem.W.instObj C dx) ∧ R (.ok (.ret .notImplemented)) s) :=
  .of_wp fun prog w A R s h => by obtain ⟨hp, g, d, tk, os⟩ := s; obtain ⟨hl, h⟩ := h; wp_walk using wpAny_loadPart' hl, wpAny_load hl; exact ⟨_, rfl, h⟩
theorem int_eq_ins_int (b : Int) (u : Tok) (l : Addr) : Meets (Builtin.«int.__eq__» ⟨[.int b u, .ref l], []⟩) (fun _ R s => s.heap.get? l = some (PySem.W.instObj C dx) ∧ R (.ok (.ret .notImplemented)) s) :=
  .of_wp fun prog w A R s h => by obtain ⟨hp, g, d, tk, os⟩ := s; obtain ⟨hl, h⟩ := h; wp_walk using wpAny_loadPart' hl, wpAny_load hl; exact ⟨_, rfl, h⟩
theorem str_eq_ins_str (b : Str) (u : Tok) (l : Addr) : Meets (Builtin.«str.__eq__» ⟨[.str b u, .ref l], []⟩) (fun _ R s => s.heap.get? l = some (PySem.W.instObj C dx) ∧ R (.ok (.ret .notImplemented)) s) :=
  .of_wp fun prog w A R s h => by obtain ⟨hp, g, d, tk, os⟩ := s; obtain ⟨hl, h⟩ := h; wp_walk using wpAny_loadPart' hl, wpAny_load hl; exact ⟨_, rfl, h⟩
theorem int_ne_ins_bool (b : Bool) (l : Addr) : Meets (Builtin.«int.__ne__» ⟨[.bool b, .ref l], []⟩) (fun _ R s => s.heap.get? l = some (PySem.W.instObj C dx) ∧ R (.ok (.ret .notImplemented)) s) :=
  .of_wp fun prog w A R s h => by obtain ⟨hp, g, d, tk, os⟩ := s; obtain ⟨hl, h⟩ := h; wp_walk using wpAny_loadPart' hl, wpAny_load hl; exact ⟨_, rfl, h⟩
theorem int_ne_ins_int (b : Int) (u : Tok) (l : Addr) : Meets (Builtin.«int.__ne__» ⟨[.int b u, .ref l], []⟩) (fun _ R s => s.heap.get? l = some (PySem.W.instObj C dx) ∧ R (.ok (.ret .notImplemented)) s) :=
  .of_wp fun prog w A R s h => by obtain ⟨hp, g, d, tk, os⟩ := s; obtain ⟨hl, h⟩ := h; wp_walk using wpAny_loadPart' hl, wpAny_load hl; exact ⟨_, rfl, h⟩
theorem str_ne_ins_str (b : Str) (u : Tok) (l : Addr) : Meets (Builtin.«str.__ne__» ⟨[.str b u, .ref l], []⟩) (fun _ R s => s.heap.get? l = some (PySem.W.instObj C dx) ∧ R (.ok (.ret .notImplemented)) s) :=
  .of_wp fun prog w A R s h => by obtain ⟨hp, g, d, tk, os⟩ := s; obtain ⟨hl, h⟩ := h; wp_walk using wpAny_loadPart' hl, wpAny_load hl; exact ⟨_, rfl, h⟩
theorem list_eq_ins (b l : Addr) : Meets (Builtin.«list.__eq__» ⟨[.ref b, .ref l], []⟩) (fun _ R s => (∀ M : Model, PySem.W.Looks M s.heap (isInstance (.ref l) (.type "list")) false) ∧ R (.ok (.ret .notImplemented)) s) :=
  .of_wp fun prog w A R s h => by
    obtain ⟨hp, g, d, tk, os⟩ := s
    obtain ⟨L, h⟩ := h
    have f1 : ∀ {α : Type} {k : Bool → Sem α} {Q : α → Shared → Prop} {E : Value → Shared → Prop} {s : Shared}, s.heap = hp → wpAny (model prog w) A.in1 (k false) Q E s → wpAny (model prog w) A.in1 (isInstance (.ref l) (.type "list") >>= k) Q E s := fun {α k Q E s} e q => by
      subst e
      have L2 : PySem.W.Looks (model prog w) s.heap (isInstance (.ref l) (.type "list")) false := L _
      exact wpAny_bind (L2.here q)
    wp_walk using f1 rfl
    exact ⟨_, rfl, h⟩
theorem list_ne_ins (b l : Addr) : Meets (Builtin.«list.__ne__» ⟨[.ref b, .ref l], []⟩) (fun _ R s => (∀ M : Model, PySem.W.Looks M s.heap (isInstance (.ref l) (.type "list")) false) ∧ R (.ok (.ret .notImplemented)) s) :=
  .of_wp fun prog w A R s h => by
    obtain ⟨hp, g, d, tk, os⟩ := s
    obtain ⟨L, h⟩ := h
    have f1 : ∀ {α : Type} {k : Bool → Sem α} {Q : α → Shared → Prop} {E : Value → Shared → Prop} {s : Shared}, s.heap = hp → wpAny (model prog w) A.in1 (k false) Q E s → wpAny (model prog w) A.in1 (isInstance (.ref l) (.type "list") >>= k) Q E s := fun {α k Q E s} e q => by
      subst e
      have L2 : PySem.W.Looks (model prog w) s.heap (isInstance (.ref l) (.type "list")) false := L _
      exact wpAny_bind (L2.here q)
    wp_walk using f1 rfl
    exact ⟨_, rfl, h⟩
theorem tuple_eq_ins (b l : Addr) : Meets (Builtin.«tuple.__eq__» ⟨[.ref b, .ref l], []⟩) (fun _ R s => (∀ M : Model, PySem.W.Looks M s.heap (isInstance (.ref l) (.type "tuple")) false) ∧ R (.ok (.ret .notImplemented)) s) :=
  .of_wp fun prog w A R s h => by
    obtain ⟨hp, g, d, tk, os⟩ := s
    obtain ⟨L, h⟩ := h
    have f1 : ∀ {α : Type} {k : Bool → Sem α} {Q : α → Shared → Prop} {E : Value → Shared → Prop} {s : Shared}, s.heap = hp → wpAny (model prog w) A.in1 (k false) Q E s → wpAny (model prog w) A.in1 (isInstance (.ref l) (.type "tuple") >>= k) Q E s := fun {α k Q E s} e q => by
      subst e
      have L2 : PySem.W.Looks (model prog w) s.heap (isInstance (.ref l) (.type "tuple")) false := L _
      exact wpAny_bind (L2.here q)
    wp_walk using f1 rfl
    exact ⟨_, rfl, h⟩
theorem tuple_ne_ins (b l : Addr) : Meets (Builtin.«tuple.__ne__» ⟨[.ref b, .ref l], []⟩) (fun _ R s => (∀ M : Model, PySem.W.Looks M s.heap (isInstance (.ref l) (.type "tuple")) false) ∧ R (.ok (.ret .notImplemented)) s) :=
  .of_wp fun prog w A R s h => by
    obtain ⟨hp, g, d, tk, os⟩ := s
    obtain ⟨L, h⟩ := h
    have f1 : ∀ {α : Type} {k : Bool → Sem α} {Q : α → Shared → Prop} {E : Value → Shared → Prop} {s : Shared}, s.heap = hp → wpAny (model prog w) A.in1 (k false) Q E s → wpAny (model prog w) A.in1 (isInstance (.ref l) (.type "tuple") >>= k) Q E s := fun {α k Q E s} e q => by
      subst e
      have L2 : PySem.W.Looks (model prog w) s.heap (isInstance (.ref l) (.type "tuple")) false := L _
      exact wpAny_bind (L2.here q)
    wp_walk using f1 rfl
    exact ⟨_, rfl, h⟩
end
/-- what is no object of the text: none, truths, numbers, texts, lists, tuples -/
inductive Alien (K : PySem.W.Frag) (H : Hp) : V → String → Prop where
  | non : Alien K H .non "NoneType"
  | bl (b : Bool) : Alien K H (.bl b) "bool"
  | int (i : Int) : Alien K H (.int i) "int"
  | str (x : Str) : Alien K H (.str x) "str"
  | lst {a : Addr} {xs : List V} : H a = some (.lst xs) → Alien K H (.ref a) "list"
  | tup {a : Addr} {xs : List V} : SqT K H a xs → Alien K H (.ref a) "tuple"
theorem Alien.same {K : PySem.W.Frag} {H H' : Hp} {v : V} {T : String} (h : Alien K H v T) (s : Same H H') : Alien K H' v T := by
  cases h with
  | non => exact .non
  | bl b => exact .bl b
  | int i => exact .int i
  | str x => exact .str x
  | lst e => exact .lst (s _ _ e)
  | @tup a xs e =>
    refine Alien.tup (xs := xs) ?_
    rcases e with (e | ⟨o, e⟩) | e
    · exact .inl (.inl (s _ _ e))
    · exact .inl (.inr ⟨o, s _ _ e⟩)
    · exact .inr e
theorem Alien.ty {K : PySem.W.Frag} {H : Hp} {v : V} {T : String} (h : Alien K H v T) : TyZ K H v (.type T) := by
  cases h with
  | non => exact .base (.base .non)
  | bl b => exact .base (.base (.bl b))
  | int i => exact .base (.base (.int i))
  | str x => exact .base (.base (.str x))
  | lst e => exact .base (.base (.lst e))
  | tup e =>
    rcases e with (e | ⟨o, e⟩) | ⟨o, its, n, hk, hc, hd, hz⟩
    · exact .base (.base (.tup e))
    · exact .base (.fTuple e)
    · exact .base (.kTuple hk hc)
/-- the special method at f, asked of an own object and another kind of thing, says NotImplemented -/
def NiRaw (P : Program) (w : World) (K : PySem.W.Frag) (mg : Str → Option Value) (base : Heap) (k : Nat) (C f : Addr) : Prop :=
  ∀ (A : Around) (outer : List Env) (s : Shared) (H : Hp) (a dx : Addr) (fs : List (Str × V)) (y : V) (u t : Value), Room k A → Env0 P w K mg base A outer s H → H a = some (.ins C dx fs) → RelV y u → TyZ K H y t → PySem.W.kitOne K t (.ref C) = some false →
    codeAny (model P w) A (.call (.ref f) ⟨[.ref a, u], []⟩) (fun r s' => match r with
      | .ok (.ret v) => v = .notImplemented ∧ s'.os = s.os ∧ AllBare s'.gens ∧ Un (frs outer) [] H H s.heap s'.heap ∧ HOk P w H s'.heap
      | .ok _ => False
      | .error e => L2.CX P w outer H s (fun _ _ _ => False) e s') s
section
variable {P : Program} {w : World} {K : PySem.W.Frag} {mg : Str → Option Value} {base : Heap}
theorem niRaw_of {k : Nat} {C f : Addr} {name qual : Str} {params : Arguments} {body rest : List Stmt} {scope : Scope} {c : Expr} {p1 p2 p3 : Pos} (Fn : ∃ fd, FunD K name qual params body scope [] [] f fd) (S : FnScope ["self", "other"] ["self", "other"] scope)
    (hb : ∀ (kV doc pm : Value) (an : Option Addr) (cdv ct : Value) (us : List Value), us.length = 2 → bindArgs (PySem.W.fnOf name qual params body scope .none kV doc pm an cdv ct) ⟨us, []⟩ = pure ([("self" : Str), "other"].zip us))
    (hbd : body = .If c [.Return (some (.Name "NotImplemented" p1)) p2] [] p3 :: rest) (hi : mg "NotImplemented" = none) (gi : scope.names.lookup ("NotImplemented" : Str) = some .globalImplicit)
    (ht : ∀ (cdv : Value) (A : Around) (outer : List Env) (s : Shared) (H : Hp), ∃ t, PT (cxOf (L2.CX P w) P w K mg base ["self", "other"] qual scope f cdv A outer s H (fun _ _ _ => False)) c t ∧
      ∀ (a : Addr) (y : V) (t' : Value), TyZ K H y t' → PySem.W.kitOne K t' (.ref C) = some false → t (start ["self", "other"] [.ref a, y]) H (fun b H' => b = true ∧ H' = H)) : NiRaw P w K mg base (k + 1) C f := by
  obtain ⟨fd, Fn⟩ := Fn
  obtain ⟨oc, od, dV, kV, doc, pm, an, cdv, ct, osl, rfl, lk, hcd, hD, _⟩ := Fn.ex
  have hdv : dV = .none := by
    rcases hD with ⟨_, e⟩ | ⟨e, _⟩
    · exact e
    · exact absurd rfl e
  subst hdv
  subst hbd
  intro A outer s H a dx fs y u t' hr e0 ha ry hty hkt
  have KX : K.In s.heap := e0.mod.kin.keeps fun b o e => (e0.bs b o e).1
  have lim : s.heap.NoLimit := e0.mod.nolimit.keeps fun b o e => (e0.bs b o e).1
  have hkind : ∀ z ∈ [("self" : Str), "other"].zip [Value.ref a, u], scope.names.lookup z.1 = some .local ∨ (scope.names.lookup z.1 = some .cell ∧ ((cellsFrom (s.heap.objs.size + 1) scope.names []).lookup z.1).isSome = true) := fun ⟨n, v⟩ hy => by
    rcases S.par n (List.of_mem_zip hy).1 with q | q
    · exact .inl q
    · exact .inr ⟨q, PySem.W.cellsFrom_some _ _ _ (.inl q)⟩
  refine codeAny_call_function hr.depth (KX _ _ lk) rfl S.co S.gen rfl (PySem.W.codeRec_of KX hcd) (BindsTo.of_eq (hb kV doc pm an cdv ct [.ref a, u] rfl) _ _ _ _ ?_)
  refine wpAny_newFunctionEnv_cells S.kind hkind fun env he s1 yy => ?_
  subst he
  refine ⟨lim.keeps yy.toInCall.keep, codeAny_func ?_⟩
  have I : Inv (cxOf (L2.CX P w) P w K mg base ["self", "other"] qual scope f cdv A outer s H (fun _ _ _ => False)) [] (start ["self", "other"] [.ref a, y]) H s1 := inv_start S hr.hd e0 rfl (.cons rfl (.cons ry .nil)) yy
  obtain ⟨t, hT, hq⟩ := ht cdv A outer s H
  refine wpAny_execs_cons (wpAny_If (thn (hT.run [] s1 _ H _ I (hq a y t' hty hkt)) fun d s2 ⟨H1, I1, q1⟩ => ?_))
  obtain ⟨rfl, rfl⟩ := q1
  show wpAny _ _ (execs [_] _) _ _ _
  refine wpAny_execs_cons (wpAny_Return_some (ld_blt (X := cxOf (L2.CX P w) P w K mg base ["self", "other"] qual scope f cdv A outer s H1 (fun _ _ _ => False)) I1 gi hi (by decide +kernel : bootBuiltins "NotImplemented" = some .notImplemented) ?_))
  exact ⟨rfl, I1.os, I1.bare, I1.base, I1.hok⟩
end
end SB
namespace SB
open PySem PySem.Spec PyProof.Rows L2 SBX
/-- what == and != ask of a class whose objects stand beside other kinds of things -/
structure DecC (K : PySem.W.Frag) (C : Addr) : Prop where
  ne : PySem.W.findIn K (.ref C) "__ne__" = some (some (.builtin "object.__ne__"))
  mo : PySem.W.mroIn K C (.type "object") = some true
  ml : PySem.W.mroIn K C (.type "list") = some false
  mt : PySem.W.mroIn K C (.type "tuple") = some false
  s1 : PySem.W.subIn K (.type "NoneType") (.ref C) = some false
  s2 : PySem.W.subIn K (.type "bool") (.ref C) = some false
  s3 : PySem.W.subIn K (.type "int") (.ref C) = some false
  s4 : PySem.W.subIn K (.type "str") (.ref C) = some false
  s5 : PySem.W.subIn K (.type "list") (.ref C) = some false
  s6 : PySem.W.subIn K (.type "tuple") (.ref C) = some false
def decB (K : PySem.W.Frag) (C : Addr) : Bool := eqO (PySem.W.findIn K (.ref C) "__ne__") (some (some (.builtin "object.__ne__"))) && (eqB (PySem.W.mroIn K C (.type "object")) (some true) && (eqB (PySem.W.mroIn K C (.type "list")) (some false) && (eqB (PySem.W.mroIn K C (.type "tuple")) (some false) &&
  (eqB (PySem.W.subIn K (.type "NoneType") (.ref C)) (some false) && (eqB (PySem.W.subIn K (.type "bool") (.ref C)) (some false) && (eqB (PySem.W.subIn K (.type "int") (.ref C)) (some false) && (eqB (PySem.W.subIn K (.type "str") (.ref C)) (some false) &&
  (eqB (PySem.W.subIn K (.type "list") (.ref C)) (some false) && eqB (PySem.W.subIn K (.type "tuple") (.ref C)) (some false)))))))))
theorem decB_ok {K : PySem.W.Frag} {C : Addr} (h : decB K C = true) : DecC K C := by
  obtain ⟨h1, h⟩ := band h
  obtain ⟨h2, h⟩ := band h
  obtain ⟨h3, h⟩ := band h
  obtain ⟨h4, h⟩ := band h
  obtain ⟨h5, h⟩ := band h
  obtain ⟨h6, h⟩ := band h
  obtain ⟨h7, h⟩ := band h
  obtain ⟨h8, h⟩ := band h
  obtain ⟨h9, h10⟩ := band h
  exact ⟨of_decide_eq_true h1, of_decide_eq_true h2, of_decide_eq_true h3, of_decide_eq_true h4, of_decide_eq_true h5, of_decide_eq_true h6, of_decide_eq_true h7, of_decide_eq_true h8, of_decide_eq_true h9, of_decide_eq_true h10⟩
theorem DecC.sub {K : PySem.W.Frag} {C : Addr} {H : Hp} {y : V} {T : String} (d : DecC K C) (h : Alien K H y T) : PySem.W.subIn K (.type T) (.ref C) = some false := by
  cases h with
  | non => exact d.s1
  | bl b => exact d.s2
  | int i => exact d.s3
  | str x => exact d.s4
  | lst e => exact d.s5
  | tup e => exact d.s6
end SB
namespace L2
open PySem PySem.Spec PyProof.Rows SB
section
variable {X : Cx} {pins : List (Addr × Obj)} {σ : St} {H : Hp} {s : Shared} {C f a dx : Addr} {fs : List (Str × V)} {k : Nat} {A1 : Around} {y : V} {u t : Value}
theorem call_ni (N : NiRaw X.prog X.w X.K X.mg X.base k C f) (sb : Sub X k A1) (I : Inv X pins σ H s) (ha : H a = some (.ins C dx fs)) (ry : RelV y u) (ty : TyZ X.K H y t) (kt : PySem.W.kitOne X.K t (.ref C) = some false) :
    wpAny (model X.prog X.w) A1 (call (.ref f) [.ref a, u]) (fun v s' => v = .notImplemented ∧ Inv X pins σ H s') X.xe s := by
  have e0 : Env0 X.prog X.w X.K X.mg X.base A1 X.stack s H := by
    have e := I.env0
    exact ⟨by rw [sb.fr]; exact e.frames, e.mod, e.bs, e.bsz, e.funs, e.frf, e.hok, e.bare⟩
  refine wpAny_call (codeAny_mono (N A1 X.stack s H a dx fs y u t sb.room e0 ha ry ty kt) fun r s' hq => ?_)
  cases r with
  | error e => exact absurd hq (fun z => noCX z)
  | ok fl =>
    cases fl with
    | next => exact False.elim hq
    | brk => exact False.elim hq
    | cont => exact False.elim hq
    | ret v =>
      obtain ⟨e, os, ag, un, hok⟩ := hq
      obtain ⟨hh, g, d, tt, os'⟩ := s'
      obtain rfl : os' = s.os := os
      exact ⟨e, I.call (h' := hh) (g' := g) (d' := d) (t' := tt) (ch := []) un hok ag (fun b z => absurd z (by simp))⟩
/-- the right side declines, too -/
theorem alien_ty (I : Inv X pins σ H s) {T : String} (h : Alien X.K H y T) (ry : RelV y u) : s.TypeIs u T := by
  cases h with
  | non => cases (show u = Value.none from ry); exact rfl
  | bl b => cases (show u = Value.bool b from ry); exact rfl
  | int i =>
    obtain ⟨t, e⟩ := (show ∃ t, u = Value.int i t from ry)
    cases e
    exact typeIs_int _ _ _
  | str x =>
    obtain ⟨t, e⟩ := (show ∃ t, u = Value.str x t from ry)
    cases e
    exact typeIs_str _ _ _
  | lst e =>
    cases ry
    obtain ⟨z, its, n, r, e1⟩ := I.hok _ _ e
    exact ⟨_, e1, rfl⟩
  | tup e =>
    cases ry
    obtain ⟨its, r, e1, z⟩ := I.tuple e
    obtain ⟨o, h1, h2, _⟩ := e1
    exact ⟨o, h1, h2⟩
end
end L2
namespace L2
open PySem PySem.Spec PyProof.Rows SB
section
variable {X : Cx} {pins : List (Addr × Obj)} {σ : St} {H : Hp} {s : Shared} {C f a dx : Addr} {fs : List (Str × V)} {k : Nat} {A1 : Around} {y : V} {u t : Value} {T : String}
theorem ins_no {M : Model} (I : Inv X pins σ H s) (ha : H a = some (.ins C dx fs)) {B : String} (hm : PySem.W.mroIn X.K C (.type B) = some false) : PySem.W.Looks M s.heap (isInstance (.ref a) (.type B)) false := by
  obtain ⟨mA, J, _⟩ := ins_get I.hok ha
  obtain ⟨od, J, _⟩ := J.look
  unfold isInstance
  exact J.type.andThen (PySem.W.looks_mroIn I.kIn hm)
theorem ins_obj (I : Inv X pins σ H s) (ha : H a = some (.ins C dx fs)) : s.heap.get? a = some (PySem.W.instObj C dx) := by
  obtain ⟨d, z, ne, ob, r⟩ := (show ObjOk X.prog X.w H s.heap a (.ins C dx fs) from I.hok a _ ha)
  exact ob
theorem alien_eq (d : DecC X.K C) (I : Inv X pins σ H s) (ha : H a = some (.ins C dx fs)) (h : Alien X.K H y T) (ry : RelV y u) :
    ∃ id, PySem.Slot T (cmpInfo .Eq).2.2 id ∧ wpAny (model X.prog X.w) A1 (call (.builtin id) [u, .ref a]) (fun v s' => v = .notImplemented ∧ s' = s) X.xe s := by
  have ho := ins_obj I ha
  have hT := alien_ty I h ry
  cases h with
  | non =>
    cases (show u = Value.none from ry)
    exact ⟨_, PySem.F.slot_NoneType_eq, call_gives PySem.F.slot_NoneType_eq hT PySem.F.entry_NoneType_eq (PySem.F.args_NoneType_eq_2 _ _) (SeqAt.NoneType___eq___none_ref_0 a) ⟨rfl, rfl⟩⟩
  | bl b =>
    cases (show u = Value.bool b from ry)
    exact ⟨_, PySem.F.slot_bool_eq, call_meets PySem.F.slot_bool_eq hT PySem.F.entry_int_eq (PySem.F.args_int_eq_2 _ _) (int_eq_ins_bool b a) ⟨ho, rfl, rfl⟩⟩
  | int i =>
    obtain ⟨t, e⟩ := (show ∃ t, u = Value.int i t from ry)
    cases e
    exact ⟨_, PySem.F.slot_int_eq, call_meets PySem.F.slot_int_eq hT PySem.F.entry_int_eq (PySem.F.args_int_eq_2 _ _) (int_eq_ins_int i t a) ⟨ho, rfl, rfl⟩⟩
  | str x =>
    obtain ⟨t, e⟩ := (show ∃ t, u = Value.str x t from ry)
    cases e
    exact ⟨_, PySem.F.slot_str_eq, call_meets PySem.F.slot_str_eq hT PySem.F.entry_str_eq (PySem.F.args_str_eq_2 _ _) (str_eq_ins_str x t a) ⟨ho, rfl, rfl⟩⟩
  | lst e =>
    cases ry
    exact ⟨_, PySem.F.slot_list_eq, call_meets PySem.F.slot_list_eq hT PySem.F.entry_list_eq (PySem.F.args_list_eq_2 _ _) (list_eq_ins _ a) ⟨fun M => ins_no I ha d.ml, rfl, rfl⟩⟩
  | tup e =>
    cases ry
    exact ⟨_, PySem.F.slot_tuple_eq, call_meets PySem.F.slot_tuple_eq hT PySem.F.entry_tuple_eq (PySem.F.args_tuple_eq_2 _ _) (tuple_eq_ins _ a) ⟨fun M => ins_no I ha d.mt, rfl, rfl⟩⟩
theorem alien_ne (d : DecC X.K C) (I : Inv X pins σ H s) (ha : H a = some (.ins C dx fs)) (h : Alien X.K H y T) (ry : RelV y u) :
    ∃ id, PySem.Slot T (cmpInfo .NotEq).2.2 id ∧ wpAny (model X.prog X.w) A1 (call (.builtin id) [u, .ref a]) (fun v s' => v = .notImplemented ∧ s' = s) X.xe s := by
  have ho := ins_obj I ha
  have hT := alien_ty I h ry
  cases h with
  | non =>
    cases (show u = Value.none from ry)
    exact ⟨_, PySem.F.slot_NoneType_ne, call_gives PySem.F.slot_NoneType_ne hT PySem.F.entry_NoneType_ne (PySem.F.args_NoneType_ne_2 _ _) (SeqAt.NoneType___ne___none_ref_0 a) ⟨rfl, rfl⟩⟩
  | bl b =>
    cases (show u = Value.bool b from ry)
    exact ⟨_, PySem.F.slot_bool_ne, call_meets PySem.F.slot_bool_ne hT PySem.F.entry_int_ne (PySem.F.args_int_ne_2 _ _) (int_ne_ins_bool b a) ⟨ho, rfl, rfl⟩⟩
  | int i =>
    obtain ⟨t, e⟩ := (show ∃ t, u = Value.int i t from ry)
    cases e
    exact ⟨_, PySem.F.slot_int_ne, call_meets PySem.F.slot_int_ne hT PySem.F.entry_int_ne (PySem.F.args_int_ne_2 _ _) (int_ne_ins_int i t a) ⟨ho, rfl, rfl⟩⟩
  | str x =>
    obtain ⟨t, e⟩ := (show ∃ t, u = Value.str x t from ry)
    cases e
    exact ⟨_, PySem.F.slot_str_ne, call_meets PySem.F.slot_str_ne hT PySem.F.entry_str_ne (PySem.F.args_str_ne_2 _ _) (str_ne_ins_str x t a) ⟨ho, rfl, rfl⟩⟩
  | lst e =>
    cases ry
    exact ⟨_, PySem.F.slot_list_ne, call_meets PySem.F.slot_list_ne hT PySem.F.entry_list_ne (PySem.F.args_list_ne_2 _ _) (list_ne_ins _ a) ⟨fun M => ins_no I ha d.ml, rfl, rfl⟩⟩
  | tup e =>
    cases ry
    exact ⟨_, PySem.F.slot_tuple_ne, call_meets PySem.F.slot_tuple_ne hT PySem.F.entry_tuple_ne (PySem.F.args_tuple_ne_2 _ _) (tuple_ne_ins _ a) ⟨fun M => ins_no I ha d.mt, rfl, rfl⟩⟩
theorem alien_same (I : Inv X pins σ H s) (ha : H a = some (.ins C dx fs)) (h : Alien X.K H y T) (ry : RelV y u) {R : Bool → Shared → Prop} (q : R false s) : wpAny (model X.prog X.w) A1 (isSame (.ref a) u) R X.xe s := by
  have ho := ins_obj I ha
  cases h with
  | non => cases (show u = Value.none from ry); exact wpAny_isSame_plain rfl q
  | bl b => cases (show u = Value.bool b from ry); exact wpAny_isSame_plain rfl q
  | int i =>
    obtain ⟨t, e⟩ := (show ∃ t, u = Value.int i t from ry)
    cases e
    exact wpAny_isSame_plain rfl q
  | str x =>
    obtain ⟨t, e⟩ := (show ∃ t, u = Value.str x t from ry)
    cases e
    exact wpAny_isSame_plain rfl q
  | lst e =>
    cases ry
    obtain ⟨z, its, n, r, e1⟩ := I.hok _ _ e
    exact wpAny_isSame_ref_other (fun z => by rw [z, e] at ha; cases ha) ho e1 (fun z => nomatch z) q
  | tup e =>
    cases ry
    obtain ⟨its, r, e1, z⟩ := I.tuple e
    obtain ⟨o, h1, h2, _⟩ := e1
    exact wpAny_isSame_ref_other (fun z => by rw [← z, ho] at h1; cases h1; cases h2) ho h1 (fun z => nomatch z) q
/-- both sides decline -/
theorem rc_decl {op : CmpOp} {r : Bool} {Q : Value → Shared → Prop} (hop : (op = .Eq ∧ r = false) ∨ (op = .NotEq ∧ r = true)) (hu : A1.units < cLine) (d : DecC X.K C) (I : Inv X pins σ H s) (ha : H a = some (.ins C dx fs)) (h : Alien X.K H y T) (ry : RelV y u)
    (left : wpAny (model X.prog X.w) A1 (tryCompare (.ref a) (cmpInfo op).2.1 u) (fun v s' => v = none ∧ Inv X pins σ H s') X.xe s) (q : ∀ s', Inv X pins σ H s' → Q (.bool r) s') : wpAny (model X.prog X.w) A1 (richCompare op (.ref a) u) Q X.xe s := by
  have hT := alien_ty I h ry
  obtain ⟨mA, J, _⟩ := ins_get I.hok ha
  obtain ⟨od, J, _⟩ := J.look
  have right : ∀ s', Inv X pins σ H s' → wpAny (model X.prog X.w) A1 (tryCompare u (cmpInfo op).2.2 (.ref a)) (fun v s'' => v = none ∧ s'' = s') X.xe s' := fun s' I' => by
    have hT' := alien_ty I' h ry
    rcases hop with ⟨rfl, _⟩ | ⟨rfl, _⟩
    · obtain ⟨id, sl, hc⟩ := alien_eq (A1 := A1) d I' ha h ry
      exact wpAny_tryCompare_declines hT' sl (wpAny_mono hc (fun v s2 z => ⟨z.1, rfl, z.2⟩) fun _ _ e => e)
    · obtain ⟨id, sl, hc⟩ := alien_ne (A1 := A1) d I' ha h ry
      exact wpAny_tryCompare_declines hT' sl (wpAny_mono hc (fun v s2 z => ⟨z.1, rfl, z.2⟩) fun _ _ e => e)
  have hsub := d.sub h
  have hne : (Value.ref C != Value.type T) = true := by
    rw [bne_iff_ne]
    exact fun z => nomatch z
  unfold richCompare
  simp only [oneThing_ref]
  refine wpAny_holding (wpAny_bind (wpAny_cRoomFor hu ?_))
  refine wpAny_bind (J.type.here (wpAny_bind (wpAny_typeOf hT ?_)))
  simp only [hne, if_true]
  refine wpAny_bind ((PySem.W.looks_subIn I.kIn hsub).here ?_)
  simp only [Bool.false_eq_true, if_false, Bool.not_false, if_true]
  refine wpAny_bind (m := tryCompare (.ref a) _ u) (wpAny_mono left (fun v s' z => ?_) fun _ _ e => e)
  obtain ⟨rfl, I'⟩ := z
  refine wpAny_bind (m := tryCompare u _ (.ref a)) (wpAny_mono (right s' I') (fun v s2 z => ?_) fun _ _ e => e)
  obtain ⟨rfl, rfl⟩ := z
  rcases hop with ⟨rfl, rfl⟩ | ⟨rfl, rfl⟩
  · exact wpAny_bind (wpAny_rule (wpAny_bind (alien_same I' ha h ry (wpAny_pure (q _ I')))))
  · exact wpAny_bind (wpAny_rule (wpAny_bind (alien_same I' ha h ry (wpAny_pure (q _ I')))))
/-- o == y, o != y: y another kind of thing -/
theorem op_eqA (N : ∃ f, Meth X.K C "__eq__" f ∧ NiRaw X.prog X.w X.K X.mg X.base k C f) (d : DecC X.K C) (hr : Room k X.A) (ki : ∀ T, (∃ H y, Alien X.K H y T) → PySem.W.kitOne X.K (.type T) (.ref C) = some false) :
    OpR X (compareOp .Eq) (fun x y H Q => ∃ a dx fs T, x = .ref a ∧ H a = some (.ins C dx fs) ∧ Alien X.K H y T ∧ Q (.bl false) H) := by
  intro pins s σ H x y v u Q I rx ry h
  obtain ⟨a, dx, fs, T, rfl, ha, hA, hq⟩ := h
  obtain rfl : v = Value.ref a := rx
  obtain ⟨f, hm, N⟩ := N
  obtain ⟨mA, J, _⟩ := ins_get I.hok ha
  obtain ⟨od, J, _⟩ := J.look
  show wpAny (model X.prog X.w) X.A (richCompare .Eq (.ref a) u) (EP X pins σ Q) X.xe s
  refine rc_decl (.inl ⟨rfl, rfl⟩) hr.units0 d I ha hA ry ?_ fun s' I' => ⟨.bl false, H, I', rfl, hq⟩
  unfold tryCompare
  refine wpAny_bind (PySem.W.ifBound_K I.kIn J hm.at_ hm.fn (wpAny_mono (call_ni N (⟨hr, rfl⟩ : Sub X k X.A) I ha ry hA.ty (ki T ⟨H, y, hA⟩)) (fun v s' hv => ?_) fun _ _ e => e))
  obtain ⟨rfl, I'⟩ := hv
  exact wpAny_pure ⟨rfl, I'⟩
end
end L2
namespace L2
open PySem PySem.Spec PyProof.Rows SB
section
variable {X : Cx} {C : Addr} {k : Nat}
theorem op_neA (N : ∃ f, Meth X.K C "__eq__" f ∧ NiRaw X.prog X.w X.K X.mg X.base k C f) (d : DecC X.K C) (hr : Room (k + 1) X.A) (ki : ∀ T, (∃ H y, Alien X.K H y T) → PySem.W.kitOne X.K (.type T) (.ref C) = some false) :
    OpR X (compareOp .NotEq) (fun x y H Q => ∃ a dx fs T, x = .ref a ∧ H a = some (.ins C dx fs) ∧ Alien X.K H y T ∧ Q (.bl true) H) := by
  intro pins s σ H x y v u Q I rx ry h
  obtain ⟨a, dx, fs, T, rfl, ha, hA, hq⟩ := h
  obtain rfl : v = Value.ref a := rx
  obtain ⟨f, hm, N⟩ := N
  obtain ⟨mA, J, _⟩ := ins_get I.hok ha
  obtain ⟨od, J, _⟩ := J.look
  have sb : Sub X k X.A.in1 := Sub.in1 (⟨hr, rfl⟩ : Sub X (k + 1) X.A)
  have hu' : X.A.in1.units < cLine := sb.room.units0
  show wpAny (model X.prog X.w) X.A (richCompare .NotEq (.ref a) u) (EP X pins σ Q) X.xe s
  refine rc_decl (.inr ⟨rfl, rfl⟩) (hr.mono (Nat.zero_le _) : Room 0 X.A).units0 d I ha hA ry ?_ fun s' I' => ⟨.bl true, H, I', rfl, hq⟩
  have own := call_ni N sb I ha ry hA.ty (ki T ⟨H, y, hA⟩)
  have inst : PySem.W.Looks (model X.prog X.w) s.heap (isInstance (.ref a) (.type "object")) true := by
    unfold isInstance
    exact J.type.andThen (PySem.W.looks_mroIn I.kIn d.mo)
  have entry : wpAny (model X.prog X.w) X.A.in1 (Builtin.«object.__ne__» ⟨[.ref a, u], []⟩) (fun fin s' => fin = .done (.ret .notImplemented) ∧ Inv X pins σ H s') X.xe s := by
    unfold Builtin.«object.__ne__»
    repeat (first
      | with_reducible refine wpAny_cRoomFor hu' ?_
      | (refine wpAny_bind (m := callSpecialIfBound? (.ref a) (Str.ofString "__eq__") [u])
          (PySem.W.ifBound_K I.kIn J hm.at_ hm.fn (wpAny_mono own (fun r s' hr => by
            obtain ⟨rfl, I'⟩ := hr
            repeat (first | exact ⟨rfl, I'⟩ | exact wpAny_pure ⟨rfl, I'⟩ | wp_step)) fun _ _ e => e)))
      | wp_step)
  unfold tryCompare
  refine wpAny_bind (ifBound_obj I.kIn J d.ne PySem.F.cmp_object.ne (wpAny_call (codeAny_call_builtin PySem.F.cmp_object.ne.plain PySem.F.cmpEntry_ne
    (PySem.W.check_slot PySem.F.cmpKind_ne PySem.F.cmpSplit_ne inst (PySem.F.cmpArgs_ne _ _) (wpAny_mono entry (fun fin s' hq => ?_) fun _ _ e => e)))))
  obtain ⟨rfl, I'⟩ := hq
  exact wpAny_pure ⟨rfl, I'⟩
end
end L2
namespace SB
open PySem PySem.Spec PyProof.Rows L2 SBX
section
variable {prog : Program} {w : World} {A : Around} {E : Value → Shared → Prop} {s : Shared} {K : PySem.W.Frag} {x C L f : Addr} {h₀ : Heap} {m : Str → Option Value} {ox : Obj} {od : Option Obj} {T : String}
theorem bin_left {op : Operator} {b : Value} {Q : Value → Shared → Prop} (F : Fr h₀ L s.heap m) (X₀ : K.In h₀) (I : PySem.W.InstAt s.heap x ox C od) (hT : s.TypeIs b T) (hc : PySem.W.selfFirst K C = true)
    (hs : PySem.W.findIn K (.ref C) (PySem.dunder op.info.2) = some (some (.ref f))) (hf : PySem.W.isFn K (.ref f) = true) (hfill : fillsNumberSlot (.type T) op.info.2 = pure false)
    (h : wpAny (model prog w) A (call (.ref f) [.ref x, b]) (PySem.W.CmpBack Q) E s) : wpAny (model prog w) A (binaryOp op (.ref x) b) Q E s := by
  have X := X₀.keeps F.keep
  obtain ⟨cd, rest, hcd, hm⟩ := PySem.W.ksp_first hc
  have hne : (Value.ref C == Value.type T) = false := Bool.eq_false_iff.mpr fun q => by cases beq_iff_eq.mp q
  unfold binaryOp
  refine wpAny_holding (wpAny_bind ?_)
  unfold binaryOp1
  refine wpAny_bind (I.type.here (wpAny_bind (wpAny_typeOf hT (wpAny_bind ((PySem.W.fills_K X hcd hm hs).here ?_)))))
  simp only [hne, Bool.false_eq_true, if_false]
  refine wpAny_bind (wpAny_of_eq hfill ?_)
  simp only [Bool.and_false, Bool.false_eq_true, if_false, Bool.false_and]
  refine wpAny_bind (wpAny_pure ?_)
  simp only [Bool.false_eq_true, if_false]
  refine wpAny_bind (m := tryMethod (.ref x) _ b) (wpAny_mono (PySem.W.ksp_try X I hs hf h) (fun r s' z => ?_) fun _ _ e => e)
  obtain ⟨v, rfl, q⟩ := z
  exact wpAny_pure (wpAny_pure q)
end
theorem fill_none : fillsNumberSlot (.type "NoneType") "mul" = pure false := by
  unfold fillsNumberSlot
  simp only [typeLookup_type, builtinLookup_eq_fast]
  kernel_rfl
theorem fill_str : fillsNumberSlot (.type "str") "mul" = pure false := by
  unfold fillsNumberSlot
  simp only [typeLookup_type, builtinLookup_eq_fast]
  kernel_rfl
theorem fill_list : fillsNumberSlot (.type "list") "mul" = pure false := by
  unfold fillsNumberSlot
  simp only [typeLookup_type, builtinLookup_eq_fast]
  kernel_rfl
theorem fill_tuple : fillsNumberSlot (.type "tuple") "mul" = pure false := by
  unfold fillsNumberSlot
  simp only [typeLookup_type, builtinLookup_eq_fast]
  kernel_rfl
end SB
namespace L2
open PySem PySem.Spec PyProof.Rows SB
section
variable {X : Cx} {C : Addr} {k : Nat}
/-- o * y, y another kind of thing -/
theorem op_mulA {ps : List Str} {sp : Sp} {E : XK} (S : Special X.prog X.w X.K X.mg X.base k C "__mul__" ps sp) (d : DecC X.K C) (hc : PySem.W.selfFirst X.K C = true) (hrm : PySem.W.findIn X.K (.ref C) "__rmul__" = some none) (hr : Room k X.A) (hx : Passes (L2.CX X.prog X.w) X E) :
    OpR X (binaryOp .Mult) (fun x y H Q => ∃ a dx fs T, x = .ref a ∧ H a = some (.ins C dx fs) ∧ Alien X.K H y T ∧ sp [.ref a, y] H Q E) := by
  intro pins s σ H x y v u Q I rx ry h
  obtain ⟨a, dx, fs, T, rfl, ha, hA, hq⟩ := h
  obtain rfl : v = Value.ref a := rx
  obtain ⟨f, fd, hm, F, hb⟩ := S.ex
  obtain ⟨mA, J, _⟩ := ins_get I.hok ha
  obtain ⟨od, J, _⟩ := J.look
  obtain ⟨m0, hF⟩ := I.fr
  have hT := alien_ty I hA ry
  have run : wpAny (model X.prog X.w) X.A (call (.ref f) [.ref a, u]) (PySem.W.CmpBack (EP X pins σ Q)) X.xe s := by
    refine thn (run_at (⟨hr, rfl⟩ : Sub X k X.A) F hb hx I (vs := [.ref a, y]) (.cons rfl (.cons ry .nil)) hq) fun u s' hh => ?_
    obtain ⟨z, H', I', rv, q⟩ := hh
    exact SlX.cmpback rv ⟨z, H', I', rv, q⟩
  cases hA with
  | non => exact SB.bin_left hF I.ok.mod.kin J hT hc hm.at_ hm.fn fill_none run
  | str x => exact SB.bin_left hF I.ok.mod.kin J hT hc hm.at_ hm.fn fill_str run
  | lst e => exact SB.bin_left hF I.ok.mod.kin J hT hc hm.at_ hm.fn fill_list run
  | tup e => exact SB.bin_left hF I.ok.mod.kin J hT hc hm.at_ hm.fn fill_tuple run
  | bl b =>
    cases (show u = Value.bool b from ry)
    exact PySem.W.ksp_binT (op := .Mult) (T := "bool") (fo := some (.builtin "int.__mul__")) (ro := some (.builtin "int.__rmul__")) hF I.ok.mod.kin J rfl hc hm.at_ hm.fn hrm (.inl rfl) (by kernel_rfl) (by kernel_rfl) d.s2 run
  | int i =>
    obtain ⟨t, e⟩ := (show ∃ t, u = Value.int i t from ry)
    cases e
    exact PySem.W.ksp_binT (op := .Mult) (T := "int") (fo := some (.builtin "int.__mul__")) (ro := some (.builtin "int.__rmul__")) hF I.ok.mod.kin J rfl hc hm.at_ hm.fn hrm (.inl rfl) (by kernel_rfl) (by kernel_rfl) d.s3 run
end
end L2

end
section
set_option maxHeartbeats 1000000
/-! Products and undoings of rows; plain Lean, and the contracts. -/
namespace SB
open PySem PySem.Spec PyProof.Rows L2 SBX
theorem swap_all {l : List Nat} (h : AllL l) : Txt.swapcase (tx l) = tx (l.map und) := by
  unfold Txt.swapcase
  have e : ∀ i c, (tx l).cps.toList[i]? = some c → (if Unicode.isUpper c then Unicode.lowerAt (tx l).cps i else if Unicode.isLower c then Unicode.upperOf c else [c]) = [und c] := fun i c hc => by
    have hm : c ∈ l := by
      have : l[i]? = some c := by simpa using hc
      exact List.mem_of_getElem? this
    have ha : (tx l).cps[i]? = some c := by simpa using hc
    have hlow : Unicode.lowerAt (tx l).cps i = if c == 0x3A3 && Unicode.endsWord (tx l).cps i then [0x3C2] else Unicode.lowerOf c := by
      unfold Unicode.lowerAt
      rw [ha]
    rw [hlow]
    generalize Unicode.endsWord (tx l).cps i = b
    rcases isL_iff.mp (h c hm) with rfl | rfl | rfl | rfl | rfl | rfl | rfl | rfl <;> (revert b; decide +kernel)
  rw [placed_single (tx l) _ und e]
  show (⟨l.toArray.map und⟩ : Str) = _
  simp
/-- the undoing of a row -/
def back (l : List Nat) : List Nat := (l.map und).reverse
theorem back_len (l : List Nat) : (back l).length = l.length := by simp [back]
theorem back_L {l : List Nat} (h : AllL l) : AllL (back l) := fun c hc => by
  obtain ⟨d, hd, rfl⟩ := List.mem_map.mp (List.mem_reverse.mp hc)
  exact und_L (h d hd)
theorem back_back {l : List Nat} (h : AllL l) : back (back l) = l := by
  unfold back
  rw [List.map_reverse, List.reverse_reverse, List.map_map]
  exact (List.map_congr_left fun c hc => by show und (und c) = id c; rw [und_und (h c hc)]; rfl).trans (List.map_id l)
theorem back_app (a b : List Nat) : back (a ++ b) = back b ++ back a := by simp [back]
/-- pairs beside one another are struck out -/
theorem red_mid {s x t : List Nat} (hs : AllL s) (hx : AllL x) : red (s ++ x ++ back x ++ t) = red (s ++ t) := by
  have h := red_inv hs x hx
  have e : List.foldl push [] (s ++ x ++ back x) = List.foldl push [] s := h
  have e1 : red (s ++ x ++ back x ++ t) = List.foldl push (List.foldl push [] (s ++ x ++ back x)) t := List.foldl_append
  have e2 : red (s ++ t) = List.foldl push (List.foldl push [] s) t := List.foldl_append
  rw [e1, e2, e]
end SB
namespace SB
open PySem PySem.Spec PyProof.Rows L2 SBX
/-- behind j pairs that go -/
def Gone (l m : List Nat) (j : Nat) : Prop := ∃ x l' m', x.length = j ∧ l = l' ++ x ∧ m = back x ++ m'
theorem gone_0 (l m : List Nat) : Gone l m 0 := ⟨[], l, m, rfl, by simp, by simp [back]⟩
theorem gone_le {l m : List Nat} {j : Nat} (h : Gone l m j) : j ≤ l.length ∧ j ≤ m.length := by
  obtain ⟨x, l', m', rfl, rfl, rfl⟩ := h
  constructor
  · simp
  · rw [List.length_append, back_len]; omega
theorem gone_succ {l m : List Nat} {j a b : Nat} (h : Gone l m j) (hb : isL b = true) (h1 : l[l.length - 1 - j]? = some a) (hj : j < l.length) (h2 : m[j]? = some b) (e : a = und b) : Gone l m (j + 1) := by
  obtain ⟨x, l', m', rfl, rfl, rfl⟩ := h
  have hl' : l' ≠ [] := fun z => by rw [z] at hj; simp at hj
  have e1 := List.dropLast_concat_getLast hl'
  generalize l'.getLast hl' = c at e1
  generalize l'.dropLast = r at e1
  subst e1
  have hc : c = a := by
    have e3 : (r ++ [c] ++ x).length - 1 - x.length = r.length := by simp
    rw [e3] at h1
    simpa using h1
  have hm' : ∃ t, m' = b :: t := by
    rw [List.getElem?_append_right (by rw [back_len]; exact Nat.le_refl _), back_len, Nat.sub_self] at h2
    cases m' with
    | nil => simp at h2
    | cons d t => exact ⟨t, by simp at h2; rw [h2]⟩
  obtain ⟨t, rfl⟩ := hm'
  refine ⟨a :: x, r, t, by simp, by rw [hc]; simp, ?_⟩
  have : back (a :: x) = back x ++ [b] := by
    unfold back
    rw [List.map_cons, List.reverse_cons, e, und_und hb]
  rw [this]
  simp
/-- nothing more goes -/
theorem gone_end {l m : List Nat} {j : Nat} (h : Gone l m j) (hl : Good l) (hm : Good m) (hs : ∀ a b, j < l.length → l[l.length - 1 - j]? = some a → m[j]? = some b → a ≠ und b) :
    Good (l.take (l.length - j) ++ m.drop j) ∧ l.take (l.length - j) ++ m.drop j = red (l ++ m) := by
  obtain ⟨x, l', m', rfl, rfl, rfl⟩ := h
  have e1 : (l' ++ x).take ((l' ++ x).length - x.length) = l' := by
    have : (l' ++ x).length - x.length = l'.length := by simp
    rw [this]
    simp
  have e2 : (back x ++ m').drop x.length = m' := by
    rw [← back_len x]
    simp
  rw [e1, e2]
  have gl : Good l' := good_app hl
  have gm : Good m' := by
    intro i hi
    have hb := hm (x.length + i) (by rw [List.length_append, back_len]; omega)
    obtain ⟨c, hc⟩ : ∃ c, m'[i]? = some c := ⟨m'[i], by simp [hi]⟩
    have hc2 : (back x ++ m')[x.length + i]? = some c := by
      rw [List.getElem?_append_right (by rw [back_len]; omega), back_len]
      have : x.length + i - x.length = i := by omega
      rw [this]
      exact hc
    rw [badAt_of hc2] at hb
    rw [badAt_of hc]
    simp at hb
    simp [hb.1]
    cases i with
    | zero => simp [prev]
    | succ k =>
      obtain ⟨d, hd⟩ : ∃ d, m'[k]? = some d := ⟨m'[k]'(by omega), by simp⟩
      have hd2 : (back x ++ m')[x.length + k]? = some d := by
        rw [List.getElem?_append_right (by rw [back_len]; omega), back_len]
        have : x.length + k - x.length = k := by omega
        rw [this]
        exact hd
      have hb2 := hb.2
      have : x.length + (k + 1) = (x.length + k) + 1 := by omega
      rw [this, prev_succ hd2] at hb2
      rw [prev_succ hd]
      exact hb2
  have hj : Good (l' ++ m') := by
    refine good_join gl gm fun a b ha hb => ?_
    have hne : l' ≠ [] := fun z => by rw [z] at ha; cases ha
    have hpos := List.length_pos_iff.mpr hne
    refine hs a b (by simp; omega) ?_ ?_
    · have e3 : (l' ++ x).length - 1 - x.length = l'.length - 1 := by rw [List.length_append]; omega
      rw [e3, List.getElem?_append_left (by omega), ← List.getLast?_eq_getElem?]
      exact ha
    · rw [List.getElem?_append_right (by rw [back_len]; exact Nat.le_refl _), back_len, Nat.sub_self, ← List.head?_eq_getElem?]
      exact hb
  refine ⟨hj, ?_⟩
  have al := good_allL hl
  have e3 : l' ++ x ++ (back x ++ m') = l' ++ x ++ back x ++ m' := by simp
  rw [e3, red_mid (fun c hc => al c (List.mem_append_left _ hc)) (fun c hc => al c (List.mem_append_right _ hc)), red_of_good hj]
end SB
namespace SB
open PySem PySem.Spec PyProof.Rows L2 SBX
def spProd : Sp := fun vs H Q _ => ∃ l m, vs = [T l, T m] ∧ Good l ∧ Good m ∧ l.length ≤ 100000 ∧ m.length ≤ 100000 ∧ ∀ H', Same H H' → Q (T (red (l ++ m))) H'
def spBack : Sp := fun vs H Q _ => ∃ l, vs = [T l] ∧ AllL l ∧ l.length ≤ 100000 ∧ ∀ H', Same H H' → Q (T (back l)) H'
/-- need_word -/
def spNeedWord (K : PySem.W.Frag) : Sp := fun vs H Q E => ∃ v, vs = [v] ∧ ((∃ a l, v = .ref a ∧ WordAt K H a l ∧ ∀ H', Same H H' → Q .non H') ∨
  (∃ t, TyZ K H v t ∧ PySem.W.kitOne K t (.ref (He.ga K "Word")) = some false ∧ Rz H (He.ga K "BadWord") [("at", .int (0 : Nat))] E))
end SB
namespace SB
open PySem PySem.Spec PyProof.Rows L2 SBX
theorem good_back {l : List Nat} : Good l → Good (back l) := by
  induction h : l.length generalizing l with
  | zero =>
    intro _
    rw [List.length_eq_zero_iff.mp h]
    exact good_nil
  | succ n ih =>
    intro hg
    have hne : l ≠ [] := fun e => by rw [e] at h; cases h
    have e := List.dropLast_concat_getLast hne
    generalize l.getLast hne = c at e
    have hdl : l.dropLast.length = n := by rw [List.length_dropLast, h]; rfl
    generalize l.dropLast = r at e hdl
    subst e
    obtain ⟨g1, g2, g3⟩ := good_snoc.mp hg
    rw [back_app]
    refine good_join (good_one (und_L g2)) (ih hdl g1) fun a b ha hb => ?_
    have ha' : a = und c := by
      have : ([und c] : List Nat).getLast? = some a := ha
      simpa using this.symm
    obtain ⟨d, hd, rfl⟩ : ∃ d, r.getLast? = some d ∧ b = und d := by
      unfold back at hb
      rw [List.head?_reverse, List.getLast?_map] at hb
      cases q : r.getLast? with
      | none => rw [q] at hb; cases hb
      | some d => rw [q] at hb; exact ⟨d, rfl, (Option.some.inj hb).symm⟩
    have hdL : isL d = true := good_allL g1 d (List.mem_of_getLast? hd)
    rw [ha', und_und hdL]
    exact fun z => g3 (by rw [hd, z])
/-- own * and ~ -/
def spMul (K : PySem.W.Frag) : Sp := fun vs H Q E => ∃ a l y, vs = [.ref a, y] ∧ WordAt K H a l ∧ Good l ∧ ((∃ b m, y = .ref b ∧ WordAt K H b m ∧ Good m ∧ ResR K H Q E (wordRes (red (l ++ m)))) ∨
  (∃ t, TyZ K H y t ∧ PySem.W.kitOne K t (.ref (He.ga K "Word")) = some false ∧ Rz H (He.ga K "BadWord") [("at", .int (0 : Nat))] E))
def spInv (K : PySem.W.Frag) : Sp := fun vs H Q _ => ∃ a l, vs = [.ref a] ∧ WordAt K H a l ∧ Good l ∧ ∀ b H', Same H H' → H b = none → WordAt K H' b (back l) → Q (.ref b) H'
end SB

end
section
set_option maxHeartbeats 1000000
/-! Methods by place and by name. -/
namespace SB
open PySem PySem.Spec PyProof.Rows L2 SBX
/-- the method m of the class at C keeps sp, told by place or by name -/
structure MethOk (P : Program) (w : World) (K : PySem.W.Frag) (mg : Str → Option Value) (base : Heap) (k : Nat) (C : Addr) (m : Str) (ps : List Str) (sp : Sp) : Prop where
  cls : Cls K C
  ex : ∃ (f : Addr) (fd : FuncData), Meth K C m f ∧ FnOk P w K mg base (L2.CX P w) k f fd ("self" :: ps) sp ∧ Binds K fd ("self" :: ps) [] ∧ ∃ g, KBn K fd ("self" :: ps) 1 ps g (fun vs zs => vs ++ zs)
/-- o.m(..) -/
def tMe (C : Addr) (m : Str) (sp : Sp) (E : XK) (ta : TE) (t : TA) : TE := fun σ H Q => ta σ H fun x H1 => ∃ a dx fs, x = .ref a ∧ H1 a = some (.ins C dx fs) ∧ fs.lookup m = none ∧ t σ H1 fun vs H2 => sp (x :: vs) H2 Q E
end SB
namespace L2
open PySem PySem.Spec PyProof.Rows SB
section
variable {X : Cx} {C : Addr} {m : Str} {k : Nat} {ps ks : List Str} {sp : Sp} {E : XK} {o e : Expr} {es : List Expr} {ta : TE} {t tk : TA} {kws : List Keyword} {pos apos : Pos}
theorem pe_me {P : Program} {w : World} {K : PySem.W.Frag} {mg : Str → Option Value} {base : Heap} {pl : Sem Bool} (M : MethOk P w K mg base k C m ps sp) (he : PE X o ta) (hr : Room k X.A) (hx : Passes (L2.CX X.prog X.w) X E) (ha : PA X (e :: es) t) (on : On X P w K mg base := by exact ⟨rfl, rfl, rfl, rfl, rfl⟩)
    (hst : starEach (e :: es) X.env = (false, eval e X.env) :: starEach es X.env := by rfl) (hpl : (backTo pos (starEach es X.env)).any (·.1) = false := by rfl)
    (ht : eval (.Call (.Attribute o m apos) (e :: es) [] pos) X.env = (do
      let ov ← eval o X.env
      standAt apos.atName
      let (f, first) ← holding [ov] (getMethod ov m pl)
      callWith pos f first (backTo pos (starEach (e :: es) X.env)) (backToKw pos (keywordEach [] X.env))) := by rfl) :
    PE X (.Call (.Attribute o m apos) (e :: es) [] pos) (tMe C m sp E ta t) := by
  obtain ⟨rfl, rfl, rfl, rfl, rfl⟩ := on
  obtain ⟨f, fd, hm, F, hb, _⟩ := M.ex
  have h := pe_meth (pl := pl) he M.cls hm F hr hb .nil hx ha hst hpl ht
  refine ⟨fun pins s σ H Q I q => h.run pins s σ H Q I ?_⟩
  unfold tMe at q
  unfold tMeth
  simpa only [List.append_nil] using q
end
end L2
namespace SB
open PySem PySem.Spec PyProof.Rows L2 SBX
theorem kbnM {K : PySem.W.Frag} {x qual p : Str} {params : Arguments} {body : List Stmt} {scope : Scope} {f : Addr} {fd : FuncData} (F : FunD K x qual params body scope [] [] f fd)
    (h : ∀ (kV doc pm : Value) (an : Option Addr) (cdv ct : Value) (u v : Value), bindArgs (PySem.W.fnOf x qual params body scope .none kV doc pm an cdv ct) ⟨[u], [(p, v)]⟩ = pure [(("self" : Str), u), (p, v)]) : KBn K fd ["self", p] 1 [p] (fun us ws => us ++ ws) (fun vs zs => vs ++ zs) := by
  obtain ⟨oc, od, dV, kV, doc, pm, an, cdv, ct, osl, rfl, lk, hcd, hD, hK⟩ := F.ex
  rcases hD with ⟨_, rfl⟩ | ⟨e, _⟩
  · refine ⟨fun s us ws X l1 l2 => ?_, fun r1 r2 => r1.append r2⟩
    match us, ws, l1, l2 with
    | [u], [v], _, _ => exact .of_eq (h kV doc pm an cdv ct u v)
  · exact absurd rfl e
/-- o.m(k = ..) -/
def tMeK (C : Addr) (m : Str) (ps : List Str) (sp : Sp) (E : XK) (ta : TE) (t : TA) : TE := fun σ H Q => ta σ H fun x H1 => ∃ a dx fs, x = .ref a ∧ H1 a = some (.ins C dx fs) ∧ fs.lookup m = none ∧ t σ H1 fun vs H2 => vs.length = ps.length ∧ sp (x :: vs) H2 Q E
end SB
namespace L2
open PySem PySem.Spec PyProof.Rows SB
section
variable {X : Cx} {C : Addr} {m : Str} {k : Nat} {ps : List Str} {sp : Sp} {E : XK} {o e : Expr} {es : List Expr} {ta : TE} {t tk : TA} {kws : List Keyword} {pos apos : Pos}
theorem pe_meK {P : Program} {w : World} {K : PySem.W.Frag} {mg : Str → Option Value} {base : Heap} {pl : Sem Bool} (M : MethOk P w K mg base k C m ps sp) (he : PE X o ta) (hr : Room k X.A) (hx : Passes (L2.CX X.prog X.w) X E) (hkw : PK X kws tk) (on : On X P w K mg base := by exact ⟨rfl, rfl, rfl, rfl, rfl⟩)
    (hall : (backToKw pos (keywordEach kws X.env)).all (·.1.isSome) = true := by rfl) (hks : (backToKw pos (keywordEach kws X.env)).filterMap (·.1) = ps := by rfl)
    (hpl : ((backTo pos (starEach [] X.env)).any (·.1) || (backToKw pos (keywordEach kws X.env)).any (·.1.isNone)) = false := by rfl)
    (ht : eval (.Call (.Attribute o m apos) [] kws pos) X.env = (do
      let ov ← eval o X.env
      standAt apos.atName
      let (f, first) ← holding [ov] (getMethod ov m pl)
      callWith pos f first (backTo pos (starEach [] X.env)) (backToKw pos (keywordEach kws X.env))) := by rfl) :
    PE X (.Call (.Attribute o m apos) [] kws pos) (tMeK C m ps sp E ta tk) := by
  obtain ⟨rfl, rfl, rfl, rfl, rfl⟩ := on
  obtain ⟨f, fd, hm, F, _, g, hb⟩ := M.ex
  refine ⟨fun pins s σ H Q I h => ?_⟩
  refine PySem.W.methodCall_KW (pl := pl) (thn (he.run pins s σ H _ I h) fun u s1 ⟨x, H1, I1, rx, a, dx, fs, ex, ea, l, q⟩ => ?_) ht
  subst ex
  obtain rfl : u = Value.ref a := rx
  refine getmeth_ok I1 ea M.cls hm l ?_
  refine PySem.W.callWith_KW0 (first := [.ref a]) (h₀ := X.base) I.ok.mod.kin hm.kp hall ?_ hpl
  refine thn (hkw.run pos pins s1 σ H1 _ I1 q) fun ws s2 hh => ?_
  obtain ⟨zs, H2, I2, rz, hl, q2⟩ := hh
  refine ⟨I2.kIn, ?_⟩
  rw [hks]
  exact run_fnN (vs := [.ref a]) F hr hb hx I2 (.cons rfl .nil) rz rfl hl q2
end
end L2
namespace SB
open PySem PySem.Spec PyProof.Rows L2 SBX
def spFits (K : PySem.W.Frag) : Sp := fun vs H Q E => ∃ a l y, vs = [.ref a, y] ∧ WordAt K H a l ∧ Good l ∧ ((∃ b m, y = .ref b ∧ WordAt K H b m ∧ Good m ∧ ∀ H' r, Same H H' → (r = true ↔ (l = [] ∨ m = [] ∨ ¬ ∃ b, m.head? = some b ∧ l.getLast? = some (und b))) → Q (.bl r) H') ∨
  (∃ t, TyZ K H y t ∧ PySem.W.kitOne K t (.ref (He.ga K "Word")) = some false ∧ Rz H (He.ga K "BadWord") [("at", .int (0 : Nat))] E))
end SB

end
section
set_option maxHeartbeats 1000000
/-! The pure layer, first part: data without addresses, and what bears them. -/
namespace PL
open PySem PySem.Spec PyProof.Rows L2 SBX SB LamX
/-- the classes of the package by numbers -/
def cname : Nat → Str
  | 0 => "BallError"
  | 1 => "BadNumber"
  | 2 => "BadPoint"
  | 3 => "BadTurn"
  | 4 => "BadMachine"
  | 5 => "BadPiece"
  | 6 => "BadLot"
  | 7 => "BadPaper"
  | 8 => "BadWord"
  | 9 => "BadLetter"
  | 10 => "Thin"
  | 11 => "TooMany"
  | 12 => "BadText"
  | 13 => "BadName"
  | 14 => "NoName"
  | 15 => "Twice"
  | 16 => "BadLine"
  | 17 => "Nothing"
  | 20 => "Word"
  | 21 => "Point"
  | 22 => "Quarter"
  | 23 => "Turn"
  | 24 => "Machine"
  | 25 => "Painted"
  | 26 => "Reader"
  | 27 => "Piece"
  | 28 => "Cut"
  | 29 => "Paper"
  | 30 => "Denial"
  | 31 => "Just"
  | 32 => "Uneven"
  | 33 => "Alike"
  | 34 => "Unlike"
  | 35 => "Covering"
  | 36 => "Lost"
  | 37 => "Codes"
  | 38 => "Crossing"
  | 39 => "Carry"
  | 40 => "Lot"
  | 41 => "Lone"
  | 42 => "Scan"
  | 43 => "Desk"
  | _ => "?"
/-- the fields of a class, in the order in which they are first stored -/
def cflds : Nat → List Str
  | 1 => ["part"]
  | 2 => ["part"]
  | 3 => ["part"]
  | 4 => ["part"]
  | 5 => ["part"]
  | 6 => ["part"]
  | 7 => ["part"]
  | 8 => ["at"]
  | 9 => ["value"]
  | 10 => ["word"]
  | 11 => ["what", "most"]
  | 12 => ["item"]
  | 13 => ["value"]
  | 14 => ["name"]
  | 15 => ["name"]
  | 16 => ["item"]
  | 20 => ["letters", "size"]
  | 21 => ["x", "y", "z", "under", "radius", "share", "word", "height", "line", "letter", "bare"]
  | 22 => ["x", "y", "z"]
  | 23 => ["word", "quarter", "rows", "under"]
  | 24 => ["rows", "standings"]
  | 25 => ["rows", "standings"]
  | 26 => ["table", "heads", "places", "paths", "known", "over"]
  | 27 => ["machine", "turn", "landed"]
  | 28 => ["painted", "turns"]
  | 31 => ["times"]
  | 32 => ["word", "found"]
  | 34 => ["word", "found", "other"]
  | 35 => ["turns"]
  | 36 => ["word"]
  | 37 => ["ahead"]
  | 38 => ["machine", "count", "heads", "turns"]
  | 39 => ["one", "other", "source", "goal", "turns"]
  | 40 => ["net", "rank", "index"]
  | 41 => ["word"]
  | 42 => ["told", "at"]
  | 43 => ["kept", "stood", "undone"]
  | _ => []
/-- a class and those it stands below -/
def anc : Nat → List Nat
  | 1 => [1, 0]
  | 2 => [2, 0]
  | 3 => [3, 0]
  | 4 => [4, 0]
  | 5 => [5, 0]
  | 6 => [6, 0]
  | 7 => [7, 0]
  | 8 => [8, 0]
  | 9 => [9, 0]
  | 10 => [10, 0]
  | 11 => [11, 0]
  | 12 => [12, 0]
  | 13 => [13, 0]
  | 14 => [14, 0]
  | 15 => [15, 0]
  | 16 => [16, 0]
  | 17 => [17, 0]
  | 28 => [28, 29]
  | 30 => [30, 29]
  | 31 => [31, 29]
  | 32 => [32, 30, 29]
  | 33 => [33, 29]
  | 34 => [34, 30, 29]
  | 35 => [35, 29]
  | 36 => [36, 30, 29]
  | 37 => [37, 29]
  | 41 => [41, 30, 29]
  | c => [c]
/-- built-in classes -/
inductive BT where
  | int | str | bool | none | list | tuple | dict | set
  deriving DecidableEq
def BT.name : BT → String
  | .int => "int" | .str => "str" | .bool => "bool" | .none => "NoneType" | .list => "list" | .tuple => "tuple" | .dict => "dict" | .set => "set"
/-- data that never change again -/
inductive D where
  | non | bl (b : Bool) | int (i : Int) | str (l : List Nat)
  | lst (xs : List D) | tup (xs : List D) | dct (kvs : List (D × D)) | set (xs : List D)
  | ins (c : Nat) (fs : List D) | exc (c : Nat) (fs : List D) | cls (c : Nat) | ty (t : BT)
def kD : Key → D
  | .inl i => .int i
  | .inr x => .str x.cps.toList
mutual
inductive Rep (K : PySem.W.Frag) (F : Hp) : V → D → Prop
  | non : Rep K F .non .non
  | bl (b : Bool) : Rep K F (.bl b) (.bl b)
  | int (i : Int) : Rep K F (.int i) (.int i)
  | str (l : List Nat) (h : Cps l) : Rep K F (T l) (.str l)
  | lst {a : Addr} {vs : List V} {ds : List D} (h : F a = some (.lst vs)) (r : RepL K F vs ds) : Rep K F (.ref a) (.lst ds)
  | tup {a : Addr} {vs : List V} {ds : List D} (h : SqT K F a vs) (r : RepL K F vs ds) : Rep K F (.ref a) (.tup ds)
  | dK {a : Addr} {kvs : List (Key × V)} {ds : List (D × D)} (h : F a = some (.dK kvs)) (r : RepK K F kvs ds) : Rep K F (.ref a) (.dct ds)
  | dT {a : Addr} {kvs : List (List Key × V)} {ds : List (D × D)} (h : F a = some (.dT kvs)) (r : RepT K F kvs ds) : Rep K F (.ref a) (.dct ds)
  | ins {a dx : Addr} {c : Nat} {vs : List (Str × V)} {ds : List D} (h : F a = some (.ins (He.ga K (cname c)) dx vs)) (r : RepF K F (cflds c) vs ds) : Rep K F (.ref a) (.ins c ds)
  | insS {a dx : Addr} {c : Nat} {n : Str} {vs : List (Str × V)} {ds : List D} (h : F a = some (.ins (He.ga K (cname c)) dx (vs ++ [(n, .ref a)]))) (hn : (cflds c)[ds.length]? = some n) (r : RepF K F (cflds c) vs ds) : Rep K F (.ref a) (.ins c ds)
  | exc {a d : Addr} {c : Nat} {vs : List (Str × V)} {ds : List D} (h : F a = some (XcO (.ref (He.ga K (cname c))) (some d) a)) (hd : F d = some (.xd vs)) (r : RepF K F (cflds c) vs ds) : Rep K F (.ref a) (.exc c ds)
  | cls (c : Nat) : Rep K F (.ref (He.ga K (cname c))) (.cls c)
  | ty (t : BT) : Rep K F (.ty t.name) (.ty t)
inductive RepL (K : PySem.W.Frag) (F : Hp) : List V → List D → Prop
  | nil : RepL K F [] []
  | cons {v : V} {d : D} {vs : List V} {ds : List D} (h : Rep K F v d) (t : RepL K F vs ds) : RepL K F (v :: vs) (d :: ds)
inductive RepF (K : PySem.W.Frag) (F : Hp) : List Str → List (Str × V) → List D → Prop
  | nil {ns : List Str} : RepF K F ns [] []
  | cons {n : Str} {ns : List Str} {v : V} {d : D} {vs : List (Str × V)} {ds : List D} (h : Rep K F v d) (t : RepF K F ns vs ds) : RepF K F (n :: ns) ((n, v) :: vs) (d :: ds)
inductive RepK (K : PySem.W.Frag) (F : Hp) : List (Key × V) → List (D × D) → Prop
  | nil : RepK K F [] []
  | cons {k : Key} {v : V} {d : D} {vs : List (Key × V)} {ds : List (D × D)} (h : Rep K F v d) (t : RepK K F vs ds) : RepK K F ((k, v) :: vs) ((kD k, d) :: ds)
inductive RepT (K : PySem.W.Frag) (F : Hp) : List (List Key × V) → List (D × D) → Prop
  | nil : RepT K F [] []
  | cons {k : List Key} {v : V} {d : D} {vs : List (List Key × V)} {ds : List (D × D)} (h : Rep K F v d) (t : RepT K F vs ds) : RepT K F ((k, v) :: vs) ((.tup (k.map kD), d) :: ds)
end
section
variable {K : PySem.W.Frag} {F F' : Hp}
theorem rd_same {a : Addr} {u : HO} (s : Same F F') (h : Rd F a u) : Rd F' a u := by
  rcases h with h | ⟨o, h⟩
  · exact .inl (s _ _ h)
  · exact .inr ⟨o, s _ _ h⟩
theorem sqL_same {a : Addr} {vs : List V} (s : Same F F') (h : SqL K F a vs) : SqL K F' a vs := by
  rcases h with h | h
  · exact .inl (rd_same s h)
  · exact .inr h
theorem sqT_same {a : Addr} {vs : List V} (s : Same F F') (h : SqT K F a vs) : SqT K F' a vs := by
  rcases h with h | h
  · exact .inl (rd_same s h)
  · exact .inr h
mutual
theorem Rep.mono (s : Same F F') {v : V} {d : D} : Rep K F v d → Rep K F' v d
  | .non => .non
  | .bl b => .bl b
  | .int i => .int i
  | .str l h => .str l h
  | .lst h r => .lst (s _ _ h) (RepL.mono s r)
  | .tup h r => .tup (sqT_same s h) (RepL.mono s r)
  | .dK h r => .dK (s _ _ h) (RepK.mono s r)
  | .dT h r => .dT (s _ _ h) (RepT.mono s r)
  | .ins h r => .ins (s _ _ h) (RepF.mono s r)
  | .insS h hn r => .insS (s _ _ h) hn (RepF.mono s r)
  | .exc h hd r => .exc (s _ _ h) (s _ _ hd) (RepF.mono s r)
  | .cls c => .cls c
  | .ty n => .ty n
theorem RepL.mono (s : Same F F') {vs : List V} {ds : List D} : RepL K F vs ds → RepL K F' vs ds
  | .nil => .nil
  | .cons h t => .cons (Rep.mono s h) (RepL.mono s t)
theorem RepF.mono (s : Same F F') {ns : List Str} {vs : List (Str × V)} {ds : List D} : RepF K F ns vs ds → RepF K F' ns vs ds
  | .nil => .nil
  | .cons h t => .cons (Rep.mono s h) (RepF.mono s t)
theorem RepK.mono (s : Same F F') {vs : List (Key × V)} {ds : List (D × D)} : RepK K F vs ds → RepK K F' vs ds
  | .nil => .nil
  | .cons h t => .cons (Rep.mono s h) (RepK.mono s t)
theorem RepT.mono (s : Same F F') {vs : List (List Key × V)} {ds : List (D × D)} : RepT K F vs ds → RepT K F' vs ds
  | .nil => .nil
  | .cons h t => .cons (Rep.mono s h) (RepT.mono s t)
end
theorem RepL.length {vs : List V} {ds : List D} (r : RepL K F vs ds) : vs.length = ds.length := by
  induction ds generalizing vs with
  | nil => cases r; rfl
  | cons d ds ih => cases r with | cons h t => simp [ih t]
theorem RepL.get {vs : List V} {ds : List D} (r : RepL K F vs ds) {i : Nat} {d : D} (h : ds[i]? = some d) : ∃ v, vs[i]? = some v ∧ Rep K F v d := by
  induction ds generalizing vs i with
  | nil => simp at h
  | cons e ds ih =>
    cases r with
    | cons q t =>
      cases i with
      | zero => simp at h; subst h; exact ⟨_, rfl, q⟩
      | succ i => exact ih t (by simpa using h)
theorem RepL.append {vs ws : List V} {ds es : List D} (r : RepL K F vs ds) (q : RepL K F ws es) : RepL K F (vs ++ ws) (ds ++ es) := by
  induction ds generalizing vs with
  | nil => cases r; exact q
  | cons e ds ih => cases r with | cons h t => exact .cons h (ih t)
theorem RepL.set {vs : List V} {ds : List D} (r : RepL K F vs ds) (i : Nat) {v : V} {d : D} (h : Rep K F v d) : RepL K F (vs.set i v) (ds.set i d) := by
  induction ds generalizing vs i with
  | nil => cases r; exact .nil
  | cons e ds ih =>
    cases r with
    | cons q t =>
      cases i with
      | zero => exact .cons h t
      | succ i => exact .cons q (ih t i)
theorem RepL.take {vs : List V} {ds : List D} (r : RepL K F vs ds) (n : Nat) : RepL K F (vs.take n) (ds.take n) := by
  induction ds generalizing vs n with
  | nil => cases r; simp; exact .nil
  | cons e ds ih =>
    cases r with
    | cons q t =>
      cases n with
      | zero => exact .nil
      | succ n => exact .cons q (ih t n)
theorem RepL.drop {vs : List V} {ds : List D} (r : RepL K F vs ds) (n : Nat) : RepL K F (vs.drop n) (ds.drop n) := by
  induction ds generalizing vs n with
  | nil => cases r; simp; exact .nil
  | cons e ds ih =>
    cases r with
    | cons q t =>
      cases n with
      | zero => exact .cons q t
      | succ n => exact ih t n
theorem RepL.reverse {vs : List V} {ds : List D} (r : RepL K F vs ds) : RepL K F vs.reverse ds.reverse := by
  induction ds generalizing vs with
  | nil => cases r; exact .nil
  | cons e ds ih =>
    cases r with
    | cons q t => simp; exact (ih t).append (.cons q .nil)
theorem cflds_nd (c : Nat) : (cflds c).Nodup := by
  unfold cflds
  split <;> decide +kernel
theorem RepF.length {ns : List Str} {vs : List (Str × V)} {ds : List D} (r : RepF K F ns vs ds) : vs.length = ds.length := by
  induction ds generalizing vs ns with
  | nil => cases r; rfl
  | cons d ds ih => cases r with | cons h t => simp [ih t]
theorem RepF.bound {ns : List Str} {vs : List (Str × V)} {ds : List D} (r : RepF K F ns vs ds) : ds.length ≤ ns.length := by
  induction ds generalizing vs ns with
  | nil => simp
  | cons d ds ih => cases r with | cons h t => have := ih t; simp; exact this
theorem lk_no {vs : List (Str × V)} {ws : List (Str × V)} {f : Str} (h : ∀ p ∈ vs, p.1 ≠ f) : (vs ++ ws).lookup f = ws.lookup f := by
  induction vs with
  | nil => rfl
  | cons p vs ih =>
    obtain ⟨n, v⟩ := p
    have e1 : (f == n) = false := by simpa using (Ne.symm (h (n, v) List.mem_cons_self))
    have e2 : List.lookup f ((n, v) :: (vs ++ ws)) = List.lookup f (vs ++ ws) := by simp [List.lookup, e1]
    exact e2.trans (ih fun p hp => h p (List.mem_cons_of_mem _ hp))
theorem RepF.names {ns : List Str} {vs : List (Str × V)} {ds : List D} (r : RepF K F ns vs ds) : ∀ p ∈ vs, p.1 ∈ ns := by
  induction ds generalizing vs ns with
  | nil => cases r; simp
  | cons d ds ih =>
    cases r with
    | cons h t =>
      intro p hp
      rcases List.mem_cons.mp hp with rfl | hp
      · exact List.mem_cons_self
      · exact List.mem_cons_of_mem _ (ih t p hp)
theorem RepF.look {ns : List Str} {vs ws : List (Str × V)} {ds : List D} (r : RepF K F ns vs ds) (nd : ns.Nodup) {j : Nat} {f : Str} {d : D} (hn : ns[j]? = some f) (h : ds[j]? = some d) : ∃ v, (vs ++ ws).lookup f = some v ∧ Rep K F v d := by
  induction ds generalizing vs ns j with
  | nil => simp at h
  | cons e ds ih =>
    cases r with
    | @cons n ns v _ vs _ q t =>
      cases j with
      | zero =>
        simp at h hn
        subst h hn
        exact ⟨v, by simp [List.lookup], q⟩
      | succ j =>
        have hn2 : ns[j]? = some f := by simpa using hn
        have hne : f ≠ n := fun z => by
          subst z
          exact (List.nodup_cons.mp nd).1 (List.mem_of_getElem? hn2)
        have e1 : (f == n) = false := by simpa using hne
        obtain ⟨u, h1, h2⟩ := ih t (List.nodup_cons.mp nd).2 hn2 (by simpa using h)
        refine ⟨u, ?_, h2⟩
        show List.lookup f ((n, v) :: (vs ++ ws)) = _
        unfold List.lookup
        rw [e1]
        exact h1
/-- the j-th field is stored -/
def putD (j : Nat) (d : D) (fs : List D) : Option (List D) := if j < fs.length then some (fs.set j d) else if j = fs.length then some (fs ++ [d]) else none
theorem RepF.put {ns : List Str} {vs : List (Str × V)} {ds es : List D} (r : RepF K F ns vs ds) (nd : ns.Nodup) {j : Nat} {f : Str} {v : V} {d : D} (hn : ns[j]? = some f) (h : Rep K F v d) (e : putD j d ds = some es) : RepF K F ns (putF f v vs) es := by
  induction ds generalizing vs ns j es with
  | nil =>
    cases r
    cases j with
    | zero =>
      cases e
      cases ns with
      | nil => simp at hn
      | cons n ns =>
        simp at hn
        subst hn
        exact .cons h .nil
    | succ j => simp [putD] at e
  | cons d0 ds ih =>
    cases r with
    | @cons n ns v0 _ vs _ q t =>
      cases j with
      | zero =>
        simp at hn
        subst hn
        simp [putD] at e
        subst e
        unfold putF
        rw [if_pos rfl]
        exact .cons h t
      | succ j =>
        have hn2 : ns[j]? = some f := by simpa using hn
        have hne : n ≠ f := fun z => by
          subst z
          exact (List.nodup_cons.mp nd).1 (List.mem_of_getElem? hn2)
        obtain ⟨es', e', rfl⟩ : ∃ es', putD j d ds = some es' ∧ es = d0 :: es' := by
          unfold putD at e ⊢
          simp only [List.length_cons, Nat.add_lt_add_iff_right, Nat.add_right_cancel_iff] at e
          split at e
          · rename_i hlt
            rw [if_pos hlt]
            cases e
            exact ⟨_, rfl, rfl⟩
          · rename_i hlt
            rw [if_neg hlt]
            split at e
            · rename_i heq
              rw [if_pos heq]
              cases e
              exact ⟨_, rfl, rfl⟩
            · cases e
        unfold putF
        rw [if_neg hne]
        exact .cons q (ih t (List.nodup_cons.mp nd).2 hn2 e')
end
/-- objects that may change yet, held by one name -/
inductive OV where
  | lst (xs : List D) | dct (kvs : List (D × D)) | obj (c : Nat) (fs : List D) | pen (n : Nat)
inductive PV where
  | imm (d : D) | own (r : Bool) (o : OV)
abbrev PSt := List (Option PV)
/-- what stays the same through a def's run: the written part, the tables, what is of no concern, the arguments -/
structure SE where
  K : PySem.W.Frag
  T : List (Addr × Str)
  B : Hp
  vs0 : List V
  F0 : Hp
def OwnR (K : PySem.W.Frag) (F H : Hp) (a : Addr) : OV → Prop
  | .lst xs => ∃ vs, H a = some (.lst vs) ∧ RepL K F vs xs
  | .dct kvs => (∃ vs, H a = some (.dK vs) ∧ RepK K F vs kvs) ∨ (∃ vs, H a = some (.dT vs) ∧ RepT K F vs kvs)
  | .obj c fs => ∃ dx vs, H a = some (.ins (He.ga K (cname c)) dx vs) ∧ RepF K F (cflds c) vs fs
  | .pen n => ∃ c, Pen F H a c n
def OwnAt (σ : L2.St) (ρ : PSt) (i : Nat) (a : Addr) : Prop := σ[i]? = some (some (.ref a)) ∧ ∃ r o, ρ[i]? = some (some (.own r o))
structure Rel (Y : SE) (F H : Hp) (σ : L2.St) (ρ : PSt) : Prop where
  s0 : Same Y.F0 F
  sF : Same F H
  nt : NoT F
  ntB : NoT Y.B
  tabs : Tabs Y.T H
  sB : Same Y.B H
  dis : ∀ a o, Y.B a = some o → F a = none
  len : σ.length = ρ.length
  imm : ∀ (i : Nat) (d : D), ρ[i]? = some (some (.imm d)) → ∃ v, σ[i]? = some (some v) ∧ Rep Y.K F v d
  own : ∀ (i : Nat) (r : Bool) (o : OV), ρ[i]? = some (some (.own r o)) → ∃ a, σ[i]? = some (some (.ref a)) ∧ F a = none ∧ Y.B a = none ∧ OwnR Y.K F H a o ∧ (r = true → Y.vs0[i]? = some (.ref a))
  apart : ∀ (i j : Nat) (a : Addr), i ≠ j → OwnAt σ ρ i a → OwnAt σ ρ j a → False
/-- a value that an expression hands on: data, or an object of no name yet -/
def PVR (Y : SE) (F H : Hp) (σ : L2.St) (ρ : PSt) (v : V) : PV → Prop
  | .imm d => Rep Y.K F v d
  | .own _ o => ∃ a, v = .ref a ∧ F a = none ∧ Y.B a = none ∧ OwnR Y.K F H a o ∧ ∀ i, ¬ OwnAt σ ρ i a
section
variable {Y : SE} {F F' H H' : Hp} {σ : L2.St} {ρ ρ' : PSt}
theorem OwnR.mono {K : PySem.W.Frag} {a : Addr} {o : OV} (h : OwnR K F H a o) (sF : Same F F') (s' : Same F' H') (off : F' a = none) (e : H' a = H a) : OwnR K F' H' a o := by
  cases o with
  | lst xs => obtain ⟨vs, h1, h2⟩ := h; exact ⟨vs, by rw [e]; exact h1, h2.mono sF⟩
  | dct kvs =>
    rcases h with ⟨vs, h1, h2⟩ | ⟨vs, h1, h2⟩
    · exact .inl ⟨vs, by rw [e]; exact h1, h2.mono sF⟩
    · exact .inr ⟨vs, by rw [e]; exact h1, h2.mono sF⟩
  | obj c fs => obtain ⟨dx, vs, h1, h2⟩ := h; exact ⟨dx, vs, by rw [e]; exact h1, h2.mono sF⟩
  | pen n =>
    obtain ⟨c, ⟨xs, spot, rest, h1, h2, h3, h4, h5, h6⟩, h7, h8⟩ := h
    exact ⟨c, ⟨xs, spot, rest, by rw [e]; exact h1, sF _ _ h2, h3, h4, h5, h6⟩, s', off⟩
theorem OwnR.at_ {K : PySem.W.Frag} {a : Addr} {o : OV} (h : OwnR K F H a o) : ∃ u, H a = some u ∧ ∀ ps, u ≠ .tbl ps := by
  cases o with
  | lst xs => obtain ⟨vs, h1, h2⟩ := h; exact ⟨_, h1, fun _ z => nomatch z⟩
  | dct kvs =>
    rcases h with ⟨vs, h1, h2⟩ | ⟨vs, h1, h2⟩
    · exact ⟨_, h1, fun _ z => nomatch z⟩
    · exact ⟨_, h1, fun _ z => nomatch z⟩
  | obj c fs => obtain ⟨dx, vs, h1, h2⟩ := h; exact ⟨_, h1, fun _ z => nomatch z⟩
  | pen n => obtain ⟨c, ⟨xs, spot, rest, h1, _⟩, _⟩ := h; exact ⟨_, h1, fun _ z => nomatch z⟩
/-- the heap grows, what is known grows by what is new -/
theorem Rel.grow (R : Rel Y F H σ ρ) (sH : Same H H') (sF : Same F F') (s' : Same F' H') (nt : NoT F') (hn : ∀ a, F a = none → H a ≠ none → F' a = none) : Rel Y F' H' σ ρ := by
  refine ⟨R.s0.trans sF, s', nt, R.ntB, R.tabs.ext sH, R.sB.trans sH, fun a o e => hn a (R.dis a o e) (by rw [R.sB _ _ e]; simp), R.len, fun i d e => ?_, fun i r o e => ?_, R.apart⟩
  · obtain ⟨v, h1, h2⟩ := R.imm i d e
    exact ⟨v, h1, h2.mono sF⟩
  · obtain ⟨a, h1, h2, h3, h4, h5⟩ := R.own i r o e
    obtain ⟨u, hu, _⟩ := h4.at_
    have off := hn a h2 (by rw [hu]; simp)
    exact ⟨a, h1, off, h3, h4.mono sF s' off (by rw [hu]; exact sH _ _ hu), h5⟩
/-- a new object, kept in mind -/
theorem Rel.new (R : Rel Y F H σ ρ) {a : Addr} {o : HO} (hn : H a = none) (no : ∀ ps, o ≠ .tbl ps) : Rel Y (upd F a o) (upd H a o) σ ρ ∧ Same F (upd F a o) := by
  have fa : F a = none := R.sF.free hn
  have sF : Same F (upd F a o) := fun b u e => by rw [upd_ne (fun z => by rw [z, fa] at e; cases e)]; exact e
  refine ⟨R.grow (fun b u e => by rw [upd_ne (ne_of_none e hn)]; exact e) sF (fun b u e => ?_) (fun b ps e => ?_) (fun b e1 e2 => ?_), sF⟩
  · unfold upd at e ⊢
    by_cases hb : b = a
    · simp [hb] at e ⊢; exact e
    · simp [hb] at e ⊢; exact R.sF _ _ e
  · unfold upd at e
    by_cases hb : b = a
    · simp [hb] at e; exact no ps e
    · simp [hb] at e; exact R.nt _ _ e
  · rw [upd_ne (fun z => by rw [z] at e2; exact e2 hn)]; exact e1
/-- a new object, not kept in mind -/
theorem Rel.newO (R : Rel Y F H σ ρ) {a : Addr} {o : HO} (hn : H a = none) (no : ∀ ps, o ≠ .tbl ps) : Rel Y F (upd H a o) σ ρ ∧ F a = none ∧ Y.B a = none ∧ ∀ i, ¬ OwnAt σ ρ i a := by
  have sH : Same H (upd H a o) := fun b u e => by rw [upd_ne (ne_of_none e hn)]; exact e
  refine ⟨R.grow sH (Same.refl F) (R.sF.trans sH) R.nt (fun b e1 e2 => e1), R.sF.free hn, R.sB.free hn, fun i ⟨h1, r, ov, h2⟩ => ?_⟩
  obtain ⟨b, g1, g2, g3, g4, _⟩ := R.own i r ov h2
  rw [h1] at g1
  cases g1
  obtain ⟨u, hu, _⟩ := g4.at_
  rw [hn] at hu
  cases hu
theorem Rel.bound (R : Rel Y F H σ ρ) {i : Nat} {p : Option PV} (h : ρ[i]? = some p) : i < σ.length := by
  rw [R.len]
  exact (List.getElem?_eq_some_iff.mp h).1
/-- a name is given a value -/
theorem Rel.set (R : Rel Y F H σ ρ) {i : Nat} {v : V} {p : PV} (h : PVR Y F H σ ρ v p) (hr : ∀ r o, p = .own r o → r = false) : Rel Y F H (σ.set i (some v)) (ρ.set i (some p)) := by
  refine ⟨R.s0, R.sF, R.nt, R.ntB, R.tabs, R.sB, R.dis, by simp [R.len], fun j d e => ?_, fun j r o e => ?_, fun j k a hjk hj hk => ?_⟩
  · by_cases hj : i = j
    · subst hj
      have hi : i < ρ.length := by
        have := (List.getElem?_eq_some_iff.mp e).1
        simpa using this
      rw [List.getElem?_set_self (by rw [R.len]; exact hi)]
      rw [List.getElem?_set_self hi] at e
      have e2 := Option.some.inj (Option.some.inj e)
      subst e2
      exact ⟨v, rfl, h⟩
    · rw [List.getElem?_set_ne hj] at e ⊢
      exact R.imm j d e
  · by_cases hj : i = j
    · subst hj
      have hi : i < ρ.length := by
        have := (List.getElem?_eq_some_iff.mp e).1
        simpa using this
      rw [List.getElem?_set_self (by rw [R.len]; exact hi)]
      rw [List.getElem?_set_self hi] at e
      have e2 := Option.some.inj (Option.some.inj e)
      subst e2
      obtain ⟨a, rfl, h1, h2, h3, h4⟩ := h
      exact ⟨a, rfl, h1, h2, h3, fun z => by rw [hr r o rfl] at z; cases z⟩
    · rw [List.getElem?_set_ne hj] at e ⊢
      exact R.own j r o e
  · have old : ∀ m, i ≠ m → OwnAt (σ.set i (some v)) (ρ.set i (some p)) m a → OwnAt σ ρ m a := fun m hm ⟨h1, r, o, h2⟩ => by
      rw [List.getElem?_set_ne hm] at h1 h2
      exact ⟨h1, r, o, h2⟩
    have new : OwnAt (σ.set i (some v)) (ρ.set i (some p)) i a → ∀ m, ¬ OwnAt σ ρ m a := fun ⟨h1, r, o, h2⟩ m => by
      have hi : i < ρ.length := by
        have := (List.getElem?_eq_some_iff.mp h2).1
        simpa using this
      rw [List.getElem?_set_self hi] at h2
      rw [List.getElem?_set_self (by rw [R.len]; exact hi)] at h1
      have e2 := Option.some.inj (Option.some.inj h2)
      have e1 := Option.some.inj (Option.some.inj h1)
      subst e2 e1
      obtain ⟨b, e3, _, _, _, h4⟩ := h
      cases e3
      exact h4 m
    by_cases hij : i = j
    · subst hij
      exact new hj k (old k hjk hk)
    · by_cases hik : i = k
      · subst hik
        exact new hk j (old j hij hj)
      · exact R.apart j k a hjk (old j hij hj) (old k hik hk)
/-- a name is forgotten -/
theorem Rel.drop (R : Rel Y F H σ ρ) {ρ' : PSt} (hl : ρ'.length = ρ.length) (h : ∀ (i : Nat) (p : PV), ρ'[i]? = some (some p) → ρ[i]? = some (some p)) : Rel Y F H σ ρ' :=
  ⟨R.s0, R.sF, R.nt, R.ntB, R.tabs, R.sB, R.dis, by rw [R.len, hl], fun i d e => R.imm i d (h _ _ e), fun i r o e => R.own i r o (h _ _ e), fun i j a hij ⟨h1, r, o, h2⟩ ⟨h3, r', o', h4⟩ => R.apart i j a hij ⟨h1, r, o, h _ _ h2⟩ ⟨h3, r', o', h _ _ h4⟩⟩
/-- the object that a name holds is written; what is written is told anew -/
theorem Rel.write (R : Rel Y F H σ ρ) {i : Nat} {r : Bool} {o o' : OV} {a : Addr} {u : HO} (e : ρ[i]? = some (some (.own r o))) (ea : σ[i]? = some (some (.ref a))) (nl : (∃ xs, H a = some (.lst xs)) ∨ ∃ c dx fs, H a = some (.ins c dx fs))
    (ho : OwnR Y.K F (upd H a u) a o') : Rel Y F (upd H a u) σ (ρ.set i (some (.own r o'))) := by
  obtain ⟨b, g1, g2, g3, g4, g5⟩ := R.own i r o e
  rw [ea] at g1
  cases g1
  have sF : Same F (upd H a u) := fun c w q => by rw [upd_ne (fun z => by rw [z, g2] at q; cases q)]; exact R.sF _ _ q
  have hi : i < ρ.length := (List.getElem?_eq_some_iff.mp e).1
  refine ⟨R.s0, sF, R.nt, R.ntB, ?_, fun c w q => ?_, R.dis, by simp [R.len], fun j d q => ?_, fun j r' o2 q => ?_, fun j k b hjk hj hk => ?_⟩
  · intro p hp
    obtain ⟨ps, h1, h2, h3⟩ := R.tabs p hp
    have ne : p.1 ≠ a := fun z => by
      rw [z] at h1
      rcases nl with ⟨xs, n⟩ | ⟨c, dx, fs, n⟩ <;> rw [n] at h1 <;> cases h1
    refine ⟨ps, by rw [upd_ne ne]; exact h1, h2, fun pos cv hc => ?_⟩
    obtain ⟨c, e1, e2⟩ := h3 pos cv hc
    refine ⟨c, e1, ?_⟩
    have ne2 : c ≠ a := fun z => by
      rw [z] at e2
      unfold CodeO at e2
      rcases nl with ⟨xs, n⟩ | ⟨c, dx, fs, n⟩ <;> rw [n] at e2 <;> cases e2
    rw [upd_ne ne2]
    exact e2
  · rw [upd_ne (fun z => by rw [z, g3] at q; cases q)]
    exact R.sB _ _ q
  · by_cases hj : i = j
    · subst hj
      rw [List.getElem?_set_self hi] at q
      cases q
    · rw [List.getElem?_set_ne hj] at q
      exact R.imm j d q
  · by_cases hj : i = j
    · subst hj
      rw [List.getElem?_set_self hi] at q
      cases q
      exact ⟨a, ea, g2, g3, ho, g5⟩
    · rw [List.getElem?_set_ne hj] at q
      obtain ⟨b, f1, f2, f3, f4, f5⟩ := R.own j r' o2 q
      have ne : b ≠ a := fun z => by
        subst z
        exact R.apart i j b hj ⟨ea, r, o, e⟩ ⟨f1, r', o2, q⟩
      exact ⟨b, f1, f2, f3, f4.mono (Same.refl F) sF f2 (upd_ne ne), f5⟩
  · have back : ∀ m, OwnAt σ (ρ.set i (some (.own r o'))) m b → OwnAt σ ρ m b := fun m ⟨h1, r2, o2, h2⟩ => by
      by_cases hm : i = m
      · subst hm
        exact ⟨h1, r, o, e⟩
      · rw [List.getElem?_set_ne hm] at h2
        exact ⟨h1, r2, o2, h2⟩
    exact R.apart j k b hjk (back j hj) (back k hk)
/-- what an object of one's own is from now on, as data -/
def frz : OV → Option D
  | .lst xs => some (.lst xs)
  | .dct kvs => some (.dct kvs)
  | .obj c fs => some (.ins c fs)
  | .pen _ => none
theorem rep_frz {K : PySem.W.Frag} {a : Addr} {o : OV} {d : D} (h : OwnR K F H a o) (e : frz o = some d) (off : F a = none) : ∃ u, H a = some u ∧ (∀ ps, u ≠ .tbl ps) ∧ Rep K (upd F a u) (.ref a) d := by
  have sF : ∀ u, Same F (upd F a u) := fun u b w q => by rw [upd_ne (fun z => by rw [z, off] at q; cases q)]; exact q
  cases o with
  | lst xs =>
    obtain ⟨vs, h1, h2⟩ := h
    cases e
    exact ⟨.lst vs, h1, (fun _ z => nomatch z), .lst upd_same (h2.mono (sF _))⟩
  | dct kvs =>
    cases e
    rcases h with ⟨vs, h1, h2⟩ | ⟨vs, h1, h2⟩
    · exact ⟨.dK vs, h1, (fun _ z => nomatch z), .dK upd_same (h2.mono (sF _))⟩
    · exact ⟨.dT vs, h1, (fun _ z => nomatch z), .dT upd_same (h2.mono (sF _))⟩
  | obj c fs =>
    obtain ⟨dx, vs, h1, h2⟩ := h
    cases e
    exact ⟨.ins (He.ga K (cname c)) dx vs, h1, (fun _ z => nomatch z), .ins upd_same (h2.mono (sF _))⟩
  | pen n => cases e
/-- an object of no name is kept in mind: it never changes again -/
theorem Rel.keep (R : Rel Y F H σ ρ) {a : Addr} {u : HO} (hu : H a = some u) (no : ∀ ps, u ≠ .tbl ps) (off : F a = none) (offB : Y.B a = none) (na : ∀ i, ¬ OwnAt σ ρ i a) : Rel Y (upd F a u) H σ ρ ∧ Same F (upd F a u) := by
  have sF : Same F (upd F a u) := fun b w q => by rw [upd_ne (fun z => by rw [z, off] at q; cases q)]; exact q
  have s' : Same (upd F a u) H := fun b w q => by
    unfold upd at q
    by_cases hb : b = a
    · simp [hb] at q
      rw [hb, hu, q]
    · simp [hb] at q
      exact R.sF _ _ q
  refine ⟨⟨R.s0.trans sF, s', fun b ps q => ?_, R.ntB, R.tabs, R.sB, fun b o q => ?_, R.len, fun i d e => ?_, fun i r o e => ?_, R.apart⟩, sF⟩
  · unfold upd at q
    by_cases hb : b = a
    · simp [hb] at q
      exact no ps q
    · simp [hb] at q
      exact R.nt _ _ q
  · rw [upd_ne (fun z => by rw [z, offB] at q; cases q)]
    exact R.dis _ _ q
  · obtain ⟨v, h1, h2⟩ := R.imm i d e
    exact ⟨v, h1, h2.mono sF⟩
  · obtain ⟨b, h1, h2, h3, h4, h5⟩ := R.own i r o e
    have ne : b ≠ a := fun z => by
      subst z
      exact na i ⟨h1, r, o, e⟩
    have off' : upd F a u b = none := by rw [upd_ne ne]; exact h2
    exact ⟨b, h1, off', h3, h4.mono sF s' off' rfl, h5⟩
/-- a value frozen -/
theorem PVR.frz (R : Rel Y F H σ ρ) {v : V} {r : Bool} {o : OV} {d : D} (h : PVR Y F H σ ρ v (.own r o)) (e : frz o = some d) : ∃ F', Same F F' ∧ Rel Y F' H σ ρ ∧ Rep Y.K F' v d := by
  obtain ⟨a, rfl, h1, h2, h3, h4⟩ := h
  obtain ⟨u, hu, no, rp⟩ := rep_frz h3 e h1
  obtain ⟨R', s⟩ := R.keep hu no h1 h2 h4
  exact ⟨_, s, R', rp⟩
/-- a name's object frozen -/
theorem Rel.frzAt (R : Rel Y F H σ ρ) {i : Nat} {o : OV} {d : D} (e : ρ[i]? = some (some (.own false o))) (hd : PL.frz o = some d) : ∃ F' v, Same F F' ∧ σ[i]? = some (some v) ∧ Rep Y.K F' v d ∧ Rel Y F' H σ (ρ.set i (some (.imm d))) := by
  obtain ⟨a, h1, h2, h3, h4, h5⟩ := R.own i false o e
  have hi : i < ρ.length := (List.getElem?_eq_some_iff.mp e).1
  obtain ⟨u, hu, no, rp⟩ := rep_frz h4 hd h2
  have R0 : Rel Y F H σ (ρ.set i none) := R.drop (by simp) fun j p q => by
    by_cases hj : i = j
    · subst hj
      rw [List.getElem?_set_self hi] at q
      cases q
    · rw [List.getElem?_set_ne hj] at q
      exact q
  obtain ⟨R1, s⟩ := R0.keep hu no h2 h3 fun j ⟨g1, r, o2, g2⟩ => by
    by_cases hj : i = j
    · subst hj
      rw [List.getElem?_set_self hi] at g2
      cases g2
    · rw [List.getElem?_set_ne hj] at g2
      exact R.apart i j a hj ⟨h1, false, o, e⟩ ⟨g1, r, o2, g2⟩
  refine ⟨_, _, s, h1, rp, ?_⟩
  have R2 := R1.set (i := i) (v := .ref a) (p := .imm d) rp (fun _ _ z => nomatch z)
  rw [List.set_set] at R2
  have e2 : σ.set i (some (.ref a)) = σ := by
    refine List.ext_getElem? fun j => ?_
    by_cases hj : i = j
    · subst hj
      rw [List.getElem?_set_self (List.getElem?_eq_some_iff.mp h1).1, h1]
    · rw [List.getElem?_set_ne hj]
  rw [e2] at R2
  exact R2
end
end PL

end
section
set_option maxHeartbeats 1000000
/-! The pure layer, second part: readings without heaps; names, operators, tests, statements, loops. -/
namespace PL
open PySem PySem.Spec PyProof.Rows L2 SBX SB LamX
abbrev ER := Nat → List D → PSt → Prop
abbrev VT := ER → PSt → (D → PSt → Prop) → Prop
abbrev VO := ER → PSt → (PV → PSt → Prop) → Prop
abbrev VB := ER → PSt → (Bool → PSt → Prop) → Prop
abbrev VA := ER → PSt → (List D → PSt → Prop) → Prop
structure PEnds where
  nx : PSt → Prop
  rt : PV → PSt → Prop
  bk : PSt → Prop := fun _ => False
  ct : PSt → Prop := fun _ => False
  er : ER
abbrev VS := PEnds → PSt → Prop
def Opt {α : Type} (o : Option α) (k : α → Prop) : Prop := match o with
  | some a => k a
  | none => False
theorem Opt.of {α : Type} {o : Option α} {a : α} {k : α → Prop} (h : o = some a) (q : k a) : Opt o k := by subst h; exact q
theorem Opt.get {α : Type} {o : Option α} {k : α → Prop} (h : Opt o k) : ∃ a, o = some a ∧ k a := by
  cases o with
  | none => exact h.elim
  | some a => exact ⟨a, rfl, h⟩
theorem Opt.imp {α : Type} {o : Option α} {k k' : α → Prop} (i : ∀ a, k a → k' a) (h : Opt o k) : Opt o k' := by
  cases o with
  | none => exact h.elim
  | some a => exact i a h
def tE (Y : SE) (er : ER) (t : VT) : TE := fun σ H Q => ∃ F ρ, Rel Y F H σ ρ ∧ t er ρ fun d ρ' => ∀ v F' H', Same F F' → Rel Y F' H' σ ρ' → Rep Y.K F' v d → Q v H'
def tO (Y : SE) (er : ER) (t : VO) : TE := fun σ H Q => ∃ F ρ, Rel Y F H σ ρ ∧ t er ρ fun p ρ' => ∀ v F' H', Same F F' → Rel Y F' H' σ ρ' → PVR Y F' H' σ ρ' v p → Q v H'
def tT (Y : SE) (er : ER) (t : VB) : TT := fun σ H Q => ∃ F ρ, Rel Y F H σ ρ ∧ t er ρ fun b ρ' => ∀ F' H', Same F F' → Rel Y F' H' σ ρ' → Q b H'
def tAr (Y : SE) (er : ER) (t : VA) : TA := fun σ H Q => ∃ F ρ, Rel Y F H σ ρ ∧ t er ρ fun ds ρ' => ∀ vs F' H', Same F F' → Rel Y F' H' σ ρ' → RepL Y.K F' vs ds → Q vs H'
structure EOk (Y : SE) (F : Hp) (P : PEnds) (D : Ends) : Prop where
  nx : ∀ F' H σ ρ, Same F F' → Rel Y F' H σ ρ → P.nx ρ → D.nx σ H
  bk : ∀ F' H σ ρ, Same F F' → Rel Y F' H σ ρ → P.bk ρ → D.bk σ H
  ct : ∀ F' H σ ρ, Same F F' → Rel Y F' H σ ρ → P.ct ρ → D.ct σ H
  rt : ∀ F' H σ ρ v p, Same F F' → Rel Y F' H σ ρ → PVR Y F' H σ ρ v p → P.rt p ρ → D.rt v H
theorem EOk.up {Y : SE} {F F' : Hp} {P : PEnds} {D : Ends} (K : EOk Y F P D) (s : Same F F') : EOk Y F' P D :=
  ⟨fun F2 H σ ρ s2 => K.nx F2 H σ ρ (s.trans s2), fun F2 H σ ρ s2 => K.bk F2 H σ ρ (s.trans s2), fun F2 H σ ρ s2 => K.ct F2 H σ ρ (s.trans s2), fun F2 H σ ρ v p s2 => K.rt F2 H σ ρ v p (s.trans s2)⟩
def tS (Y : SE) (er : ER) (t : VS) : TS := fun D σ H => ∃ F ρ P, Rel Y F H σ ρ ∧ t P ρ ∧ P.er = er ∧ EOk Y F P D
/-- e is read as t -/
structure VE (X : Cx) (Y : SE) (er : ER) (e : Expr) (t : VT) : Prop where
  pe : PE X e (tE Y er t)
  mono : ∀ ρ k k', (∀ d ρ, k d ρ → k' d ρ) → t er ρ k → t er ρ k'
structure VEO (X : Cx) (Y : SE) (er : ER) (e : Expr) (t : VO) : Prop where
  pe : PE X e (tO Y er t)
  mono : ∀ ρ k k', (∀ p ρ, k p ρ → k' p ρ) → t er ρ k → t er ρ k'
structure VTs (X : Cx) (Y : SE) (er : ER) (e : Expr) (t : VB) : Prop where
  pt : PT X e (tT Y er t)
  mono : ∀ ρ k k', (∀ b ρ, k b ρ → k' b ρ) → t er ρ k → t er ρ k'
structure VW (X : Cx) (Y : SE) (er : ER) (e : Expr) (t : VB) : Prop where
  pw : PW X e (tT Y er t)
  mono : ∀ ρ k k', (∀ b ρ, k b ρ → k' b ρ) → t er ρ k → t er ρ k'
structure VAs (X : Cx) (Y : SE) (er : ER) (es : List Expr) (t : VA) : Prop where
  pa : PA X es (tAr Y er t)
  mono : ∀ ρ k k', (∀ ds ρ, k ds ρ → k' ds ρ) → t er ρ k → t er ρ k'
structure VSt (X : Cx) (Y : SE) (er : ER) (s : Stmt) (t : VS) : Prop where
  ps : PS X s (tS Y er t)
structure VSs (X : Cx) (Y : SE) (er : ER) (s : List Stmt) (t : VS) : Prop where
  pss : PSs X s (tS Y er t)
theorem PE.of {X : Cx} {e : Expr} {t t' : TE} (h : PE X e t) (i : ∀ σ H Q, t' σ H Q → t σ H Q) : PE X e t' := ⟨fun pins s σ H Q I q => h.run pins s σ H Q I (i σ H Q q)⟩
theorem PT.of {X : Cx} {e : Expr} {t t' : TT} (h : PT X e t) (i : ∀ σ H Q, t' σ H Q → t σ H Q) : PT X e t' := ⟨fun pins s σ H Q I q => h.run pins s σ H Q I (i σ H Q q)⟩
theorem PW.of {X : Cx} {e : Expr} {t t' : TT} (h : PW X e t) (i : ∀ σ H Q, t' σ H Q → t σ H Q) : PW X e t' := ⟨fun w pins s σ H Q I q => h.run w pins s σ H Q I (i σ H Q q)⟩
theorem PA.of {X : Cx} {e : List Expr} {t t' : TA} (h : PA X e t) (i : ∀ σ H Q, t' σ H Q → t σ H Q) : PA X e t' := ⟨fun w pins s σ H Q I q => h.run w pins s σ H Q I (i σ H Q q)⟩
theorem PS.of {X : Cx} {e : Stmt} {t t' : TS} (h : PS X e t) (i : ∀ D σ H, t' D σ H → t D σ H) : PS X e t' := ⟨fun pins s σ H D I q => h.run pins s σ H D I (i D σ H q)⟩
theorem PSs.of {X : Cx} {e : List Stmt} {t t' : TS} (h : PSs X e t) (i : ∀ D σ H, t' D σ H → t D σ H) : PSs X e t' := ⟨fun pins s σ H D I q => h.run pins s σ H D I (i D σ H q)⟩
section
variable {X : Cx} {Y : SE} {er : ER} {pos : Pos}
/-! ### names and constants -/
def vVar (i : Nat) : VT := fun _ ρ k => match ρ[i]? with
  | some (some (.imm d)) => k d ρ
  | some (some (.own false o)) => Opt (frz o) fun d => k d (ρ.set i (some (.imm d)))
  | _ => False
theorem ve_var {i : Nat} {x : Str} (hN : X.N[i]? = some x) (hv : Vis X.env.scope x) (hd : (x == ("__debug__" : Str)) = false := by decide) (hcd : (x == ("__classdict__" : Str)) = false := by decide) : VE X Y er (.Name x pos) (vVar i) := by
  refine ⟨PE.of (pe_var hN hv hd hcd) fun σ H Q h => ?_, fun ρ k k' hk h => ?_⟩
  · obtain ⟨F, ρ, R, h⟩ := h
    unfold vVar at h
    split at h
    · rename_i d e
      obtain ⟨v, e1, r⟩ := R.imm i d e
      exact ⟨v, e1, h v F H (Same.refl F) R r⟩
    · rename_i o e
      obtain ⟨d, e1, h⟩ := h.get
      obtain ⟨F', v, s, e2, r, R'⟩ := R.frzAt e e1
      exact ⟨v, e2, h v F' H s R' r⟩
    · exact h.elim
  · unfold vVar at h ⊢
    split
    · rename_i d e
      rw [e] at h
      exact hk _ _ h
    · rename_i o e
      rw [e] at h
      exact Opt.imp (fun d => hk _ _) h
    · rename_i e1 e2
      split at h
      · rename_i d e; exact (e1 d e).elim
      · rename_i o e; exact (e2 o e).elim
      · exact h
def vC (d : D) : VT := fun _ ρ k => k d ρ
theorem ve_c {e : Expr} {v : V} {d : D} (h : PE X e (tC v)) (r : ∀ F, Rep Y.K F v d) : VE X Y er e (vC d) :=
  ⟨PE.of h fun σ H Q ⟨F, ρ, R, h⟩ => h v F H (Same.refl F) R (r F), fun ρ k k' hk h => hk _ _ h⟩
theorem ve_int {i j} : VE X Y er (.Constant (.int i) j pos) (vC (.int i)) := ve_c pe_int fun _ => .int i
theorem ve_bl {i j} : VE X Y er (.Constant (.bool i) j pos) (vC (.bl i)) := ve_c pe_bl fun _ => .bl i
theorem ve_non {j} : VE X Y er (.Constant .none j pos) (vC .non) := ve_c pe_non fun _ => .non
theorem rep_str (K : PySem.W.Frag) (F : Hp) {x : Str} {l : List Nat} (h : x.cps.toList = l) (hc : Cps l) : Rep K F (.str x) (.str l) := by
  have e : x = tx l := by
    obtain ⟨a⟩ := x
    subst h
    simp [tx]
  rw [e]
  exact .str l hc
def cpsB (l : List Nat) : Bool := l.all fun c => decide (c < 1114112)
theorem cpsB_ok {l : List Nat} (h : cpsB l = true) : Cps l := fun c hc => of_decide_eq_true (List.all_eq_true.mp h c hc)
theorem ve_str {x : Str} {l : List Nat} {j} (h : x.cps.toList = l) (hc : cpsB l = true := by decide) : VE X Y er (.Constant (.str x) j pos) (vC (.str l)) := ve_c pe_str fun F => rep_str _ F h (cpsB_ok hc)
theorem ve_gs {x v : Str} {l : List Nat} (hm : ∃ t, X.mg x = some (.str v t)) (hl : v.cps.toList = l) (hc : cpsB l = true := by decide) (hg : Gl X x := by rfl) (hd : (x == ("__debug__" : Str)) = false := by decide) : VE X Y er (.Name x pos) (vC (.str l)) := ve_c (pe_gs hm hg hd) fun F => rep_str _ F hl (cpsB_ok hc)
theorem ve_gi {x : Str} {v : Int} (hm : ∃ t, X.mg x = some (.int v t)) (hg : Gl X x := by rfl) (hd : (x == ("__debug__" : Str)) = false := by decide) : VE X Y er (.Name x pos) (vC (.int v)) := ve_c (pe_gi hm hg hd) fun F => .int v
theorem ve_cls {x : Str} {c : Nat} (hc : cname c = x) (hm : X.mg x = some (.ref (He.ga Y.K x))) (hg : Gl X x := by rfl) (hd : (x == ("__debug__" : Str)) = false := by decide) : VE X Y er (.Name x pos) (vC (.cls c)) := ve_c (pe_glob (v := .ref (He.ga Y.K x)) hg hm rfl hd) fun F => by subst hc; exact .cls c
theorem ve_ty {x : Str} (t : BT) (hm : X.mg x = none) (hv : bootBuiltins x = some (.type t.name)) (hg : Gl X x := by rfl) (hn : x ≠ "__name__" := by decide) (hd : (x == ("__debug__" : Str)) = false := by decide) : VE X Y er (.Name x pos) (vC (.ty t)) := ve_c (pe_bltn (v := .ty t.name) hg hm hv rfl hn hd) fun F => .ty t
/-! ### objects frozen -/
def vFz (t : VO) : VT := fun er ρ k => t er ρ fun p ρ' => match p with
  | .imm d => k d ρ'
  | .own _ o => Opt (frz o) fun d => k d ρ'
theorem ve_fz {e : Expr} {t : VO} (h : VEO X Y er e t) : VE X Y er e (vFz t) := by
  refine ⟨PE.of h.pe fun σ H Q ⟨F, ρ, R, q⟩ => ⟨F, ρ, R, h.mono _ _ _ (fun p ρ' q v F' H' s R' r => ?_) q⟩, fun ρ k k' hk q => h.mono _ _ _ (fun p ρ' q => ?_) q⟩
  · cases p with
    | imm d => exact q v F' H' s R' r
    | own b o =>
      obtain ⟨d, e1, q⟩ := Opt.get q
      obtain ⟨F2, s2, R2, r2⟩ := PVR.frz R' r e1
      exact q v F2 H' (s.trans s2) R2 r2
  · cases p with
    | imm d => exact hk _ _ q
    | own b o => exact Opt.imp (fun d => hk _ _) q
def vIm (t : VT) : VO := fun er ρ k => t er ρ fun d ρ' => k (.imm d) ρ'
theorem veo_im {e : Expr} {t : VT} (h : VE X Y er e t) : VEO X Y er e (vIm t) := by
  refine ⟨PE.of h.pe fun σ H Q ⟨F, ρ, R, q⟩ => ⟨F, ρ, R, q⟩, fun ρ k k' hk q => h.mono _ _ _ (fun p ρ' q => hk _ _ q) q⟩
/-! ### arguments -/
def vNil : VA := fun _ ρ k => k [] ρ
def vCons (t : VT) (u : VA) : VA := fun er ρ k => t er ρ fun d ρ1 => u er ρ1 fun ds ρ2 => k (d :: ds) ρ2
theorem va_nil : VAs X Y er [] vNil := ⟨PA.of pa_nil fun σ H Q ⟨F, ρ, R, q⟩ => q [] F H (Same.refl F) R .nil, fun ρ k k' hk h => hk _ _ h⟩
theorem va_cons {e : Expr} {es : List Expr} {t : VT} {u : VA} (h : VE X Y er e t) (hu : VAs X Y er es u) (hs : starEach (e :: es) X.env = (false, eval e X.env) :: starEach es X.env := by rfl) : VAs X Y er (e :: es) (vCons t u) := by
  refine ⟨PA.of (pa_cons h.pe hu.pa hs) fun σ H Q ⟨F, ρ, R, q⟩ => ⟨F, ρ, R, h.mono _ _ _ (fun d ρ1 q v F1 H1 s R1 r => ⟨F1, ρ1, R1, hu.mono _ _ _ (fun ds ρ2 q vs F2 H2 s2 R2 r2 => ?_) q⟩) q⟩, fun ρ k k' hk q => h.mono _ _ _ (fun d ρ1 q => hu.mono _ _ _ (fun ds ρ2 q => hk _ _ q) q) q⟩
  exact q (v :: vs) F2 H2 (s.trans s2) R2 (.cons (r.mono s2) r2)
/-! ### operators -/
abbrev GD := D → D → (D → Prop) → Prop
structure GOp (X : Cx) (Y : SE) (f : Value → Value → Sem Value) (g : GD) : Prop where
  ok : ∃ r, OpR X f r ∧ ∀ F H σ ρ x y d1 d2 (k : D → Prop) (Q : VK), Rel Y F H σ ρ → Rep Y.K F x d1 → Rep Y.K F y d2 → g d1 d2 k → (∀ v F' H' d, Same F F' → Rel Y F' H' σ ρ → Rep Y.K F' v d → k d → Q v H') → r x y H Q
  mono : ∀ d1 d2 (k k' : D → Prop), (∀ d, k d → k' d) → g d1 d2 k → g d1 d2 k'
def vBin (g : GD) (ta tb : VT) : VT := fun er ρ k => ta er ρ fun d1 ρ1 => tb er ρ1 fun d2 ρ2 => g d1 d2 fun d => k d ρ2
theorem bin_ok {g : GD} {ta tb : VT} {a b : Expr} (ha : VE X Y er a ta) (hb : VE X Y er b tb) {r : R2} (hr : ∀ F H σ ρ x y d1 d2 (k : D → Prop) (Q : VK), Rel Y F H σ ρ → Rep Y.K F x d1 → Rep Y.K F y d2 → g d1 d2 k → (∀ v F' H' d, Same F F' → Rel Y F' H' σ ρ → Rep Y.K F' v d → k d → Q v H') → r x y H Q)
    {σ : L2.St} {H : Hp} {Q : VK} (h : tE Y er (vBin g ta tb) σ H Q) : tOp r (tE Y er ta) (tE Y er tb) σ H Q := by
  obtain ⟨F, ρ, R, q⟩ := h
  refine ⟨F, ρ, R, ha.mono _ _ _ (fun d1 ρ1 q x F1 H1 s1 R1 r1 => ⟨F1, ρ1, R1, hb.mono _ _ _ (fun d2 ρ2 q y F2 H2 s2 R2 r2 => ?_) q⟩) q⟩
  exact hr F2 H2 σ ρ2 x y d1 d2 _ Q R2 (r1.mono s2) r2 q fun v F3 H3 d s3 R3 r3 q => q v F3 H3 ((s1.trans s2).trans s3) R3 r3
theorem bin_mono {g : GD} (hg : ∀ d1 d2 (k k' : D → Prop), (∀ d, k d → k' d) → g d1 d2 k → g d1 d2 k') {ta tb : VT} {a b : Expr} (ha : VE X Y er a ta) (hb : VE X Y er b tb) : ∀ ρ k k', (∀ d ρ, k d ρ → k' d ρ) → vBin g ta tb er ρ k → vBin g ta tb er ρ k' :=
  fun ρ k k' hk q => ha.mono _ _ _ (fun d1 ρ1 q => hb.mono _ _ _ (fun d2 ρ2 q => hg _ _ _ _ (fun d => hk d ρ2) q) q) q
theorem ve_bin {op : Operator} {g : GD} {ta tb : VT} {a b : Expr} (ho : GOp X Y (binaryOp op) g) (ha : VE X Y er a ta) (hb : VE X Y er b tb) : VE X Y er (.BinOp a op b pos) (vBin g ta tb) := by
  obtain ⟨r, h1, h2⟩ := ho.ok
  exact ⟨PE.of (pe_op h1 ha.pe hb.pe) fun σ H Q h => bin_ok ha hb h2 h, bin_mono ho.mono ha hb⟩
theorem ve_cmp {op : CmpOp} {g : GD} {ta tb : VT} {a b : Expr} (ho : GOp X Y (compareOp op) g) (ha : VE X Y er a ta) (hb : VE X Y er b tb) (hm : behindInMarks op b = false) : VE X Y er (.Compare a [op] [b] pos) (vBin g ta tb) := by
  obtain ⟨r, h1, h2⟩ := ho.ok
  exact ⟨PE.of (pe_cmpR h1 ha.pe hb.pe hm) fun σ H Q h => bin_ok ha hb h2 h, bin_mono ho.mono ha hb⟩
/-- a value that is a truth -/
def vBl (t : VT) : VB := fun er ρ k => t er ρ fun d ρ' => match d with
  | .bl b => k b ρ'
  | _ => False
theorem bl_mono {t : VT} {e : Expr} (h : VE X Y er e t) : ∀ ρ k k', (∀ d ρ, k d ρ → k' d ρ) → vBl t er ρ k → vBl t er ρ k' :=
  fun ρ k k' hk q => h.mono _ _ _ (fun d ρ1 q => by cases d <;> first | exact q.elim | exact hk _ _ q) q
theorem vt_cmp {op : CmpOp} {g : GD} {ta tb : VT} {a b : Expr} (ho : GOp X Y (compareOp op) g) (ha : VE X Y er a ta) (hb : VE X Y er b tb) (hm : behindInMarks op b = false) : VTs X Y er (.Compare a [op] [b] pos) (vBl (vBin g ta tb)) := by
  obtain ⟨r, h1, h2⟩ := ho.ok
  refine ⟨PT.of (pt_cmpR h1 ha.pe hb.pe hm) fun σ H Q h => ?_, bl_mono (ve_cmp (pos := pos) ho ha hb hm)⟩
  refine bin_ok ha hb h2 ?_
  obtain ⟨F, ρ, R, q⟩ := h
  refine ⟨F, ρ, R, bin_mono ho.mono ha hb _ _ _ (fun d ρ' q v F' H' s R' r => ?_) q⟩
  cases d with
  | bl b =>
    cases r
    exact ⟨b, rfl, q F' H' s R'⟩
  | _ => exact q.elim
/-! ### truth -/
def truD : D → Option Bool
  | .non => some false
  | .bl b => some b
  | .int i => some (!decide (i = 0))
  | .str l => some (!l.isEmpty)
  | .lst xs => some (!xs.isEmpty)
  | .tup xs => some (!xs.isEmpty)
  | _ => none
def vTr (t : VT) : VB := fun er ρ k => t er ρ fun d ρ' => match d with
  | .str l => l.length ≤ 16777216 ∧ k (!l.isEmpty) ρ'
  | d => Opt (truD d) fun b => k b ρ'
theorem tr_mono {t : VT} {e : Expr} (h : VE X Y er e t) : ∀ ρ k k', (∀ d ρ, k d ρ → k' d ρ) → vTr t er ρ k → vTr t er ρ k' :=
  fun ρ k k' hk q => h.mono _ _ _ (fun d ρ1 q => by
    cases d
    case str l => exact ⟨q.1, hk _ _ q.2⟩
    all_goals exact Opt.imp (fun b => hk b ρ1) q) q
theorem RepL.isEmpty {K : PySem.W.Frag} {F : Hp} {vs : List V} {ds : List D} (r : RepL K F vs ds) : vs.isEmpty = ds.isEmpty := by
  cases r <;> rfl
theorem tru_rep {F H : Hp} {v : V} {d : D} {b : Bool} (sF : Same F H) (r : Rep Y.K F v d) (e : truD d = some b) (hl : ∀ l, d = .str l → l.length ≤ 16777216) : TruV Y.K v H b := by
  cases r with
  | non => cases e; exact rfl
  | bl b => cases e; exact rfl
  | int i =>
    cases e
    show (!decide (i = 0)) = (i != 0)
    by_cases h : i = 0 <;> simp [h]
  | str l hc =>
    cases e
    have h1 : (tx l).length = l.length := by simp [Str.length]
    refine ⟨by rw [h1, sizeLine_eq]; exact hl l rfl, ?_⟩
    rw [h1]
    cases l <;> rfl
  | lst h r => cases e; exact .inl ⟨_, .of (sF _ _ h), by rw [r.isEmpty]⟩
  | tup h r => cases e; exact .inr (.inl ⟨_, sqT_same sF h, by rw [r.isEmpty]⟩)
  | _ => cases e
theorem vt_tr {e : Expr} {t : VT} (hK : X.K = Y.K) (h : VE X Y er e t) (he : ∀ whole, isTrue e X.env whole = (do let v ← whole; standAt e.pos; holding [v] (truthy v)) := by intro _; rfl) : VTs X Y er e (vTr t) := by
  refine ⟨PT.of (pt_truth h.pe he) fun σ H Q ⟨F, ρ, R, q⟩ => ?_, tr_mono h⟩
  refine ⟨F, ρ, R, h.mono _ _ _ (fun d ρ' q v F' H' s R' r => ?_) q⟩
  rw [hK]
  have fin : ∀ b, truD d = some b → (∀ l, d = .str l → l.length ≤ 16777216) → Q b H' → ∃ b, TruV Y.K v H' b ∧ Q b H' := fun b e hl q => ⟨b, tru_rep R'.sF r e hl, q⟩
  cases d
  case str l => exact fin _ rfl (fun l' e => by cases e; exact q.1) (q.2 F' H' s R')
  all_goals
    obtain ⟨b, e, q⟩ := Opt.get q
    exact fin b e (fun _ z => nomatch z) (q F' H' s R')
/-! ### and, or, not -/
def vAnd (t u : VB) : VB := fun er ρ k => t er ρ fun b ρ1 => if b = true then u er ρ1 k else k false ρ1
def vOr (t u : VB) : VB := fun er ρ k => t er ρ fun b ρ1 => if b = true then k true ρ1 else u er ρ1 k
def vNot (t : VB) : VB := fun er ρ k => t er ρ fun b ρ1 => k (!b) ρ1
variable {a b : Expr} {rest : List Expr} {t u : VB}
theorem VW.vt (h : VW X Y er a t) : VTs X Y er a t := ⟨h.pw.pt, h.mono⟩
theorem vw_and1 (ha : VTs X Y er a t) : VW X Y er (.BoolOp .And [a] pos) t := ⟨pw_and1 ha.pt, ha.mono⟩
theorem vw_or1 (ha : VTs X Y er a t) : VW X Y er (.BoolOp .Or [a] pos) t := ⟨pw_or1 ha.pt, ha.mono⟩
theorem vw_and (ha : VTs X Y er a t) (hb : VW X Y er (.BoolOp .And (b :: rest) pos) u) : VW X Y er (.BoolOp .And (a :: b :: rest) pos) (vAnd t u) := by
  refine ⟨PW.of (pw_and ha.pt hb.pw) fun σ H Q ⟨F, ρ, R, q⟩ => ⟨F, ρ, R, ha.mono _ _ _ (fun c ρ1 q F1 H1 s1 R1 => ?_) q⟩, fun ρ k k' hk q => ha.mono _ _ _ (fun c ρ1 q => ?_) q⟩
  · cases c with
    | true => exact ⟨F1, ρ1, R1, hb.mono _ _ _ (fun c2 ρ2 q F2 H2 s2 R2 => q F2 H2 (s1.trans s2) R2) q⟩
    | false => exact q F1 H1 s1 R1
  · cases c with
    | true => exact hb.mono _ _ _ hk q
    | false => exact hk _ _ q
theorem vw_or (ha : VTs X Y er a t) (hb : VW X Y er (.BoolOp .Or (b :: rest) pos) u) : VW X Y er (.BoolOp .Or (a :: b :: rest) pos) (vOr t u) := by
  refine ⟨PW.of (pw_or ha.pt hb.pw) fun σ H Q ⟨F, ρ, R, q⟩ => ⟨F, ρ, R, ha.mono _ _ _ (fun c ρ1 q F1 H1 s1 R1 => ?_) q⟩, fun ρ k k' hk q => ha.mono _ _ _ (fun c ρ1 q => ?_) q⟩
  · cases c with
    | true => exact q F1 H1 s1 R1
    | false => exact ⟨F1, ρ1, R1, hb.mono _ _ _ (fun c2 ρ2 q F2 H2 s2 R2 => q F2 H2 (s1.trans s2) R2) q⟩
  · cases c with
    | true => exact hk _ _ q
    | false => exact hb.mono _ _ _ hk q
theorem vt_not (ha : VTs X Y er a t) : VTs X Y er (.UnaryOp .Not a pos) (vNot t) :=
  ⟨PT.of (pt_not ha.pt) fun σ H Q ⟨F, ρ, R, q⟩ => ⟨F, ρ, R, q⟩, fun ρ k k' hk q => ha.mono _ _ _ (fun c ρ1 q => hk _ _ q) q⟩
/-- .. as values, all but the last truths -/
def vAndV (t : VT) (u : VT) : VT := fun er ρ k => t er ρ fun d ρ1 => match d with
  | .bl b => if b = true then u er ρ1 k else k (.bl false) ρ1
  | _ => False
def vOrV (t : VT) (u : VT) : VT := fun er ρ k => t er ρ fun d ρ1 => match d with
  | .bl b => if b = true then k (.bl true) ρ1 else u er ρ1 k
  | _ => False
def vNotV (t : VT) : VT := fun er ρ k => t er ρ fun d ρ1 => match d with
  | .bl b => k (.bl (!b)) ρ1
  | _ => False
theorem ve_one {op} {t : VT} (h : VE X Y er a t) : VE X Y er (.BoolOp op [a] pos) t := ⟨pe_one h.pe, h.mono⟩
theorem ve_and {t u : VT} (ha : VE X Y er a t) (hb : VE X Y er (.BoolOp .And (b :: rest) pos) u) : VE X Y er (.BoolOp .And (a :: b :: rest) pos) (vAndV t u) := by
  refine ⟨PE.of (pe_and ha.pe hb.pe) fun σ H Q ⟨F, ρ, R, q⟩ => ⟨F, ρ, R, ha.mono _ _ _ (fun d ρ1 q v F1 H1 s1 R1 r1 => ?_) q⟩, fun ρ k k' hk q => ha.mono _ _ _ (fun d ρ1 q => ?_) q⟩
  · cases d with
    | bl c =>
      cases r1
      refine ⟨c, rfl, ?_⟩
      cases c with
      | true => exact ⟨F1, ρ1, R1, hb.mono _ _ _ (fun d2 ρ2 q v F2 H2 s2 R2 r2 => q v F2 H2 (s1.trans s2) R2 r2) q⟩
      | false => exact q _ F1 H1 s1 R1 (.bl false)
    | _ => exact q.elim
  · cases d with
    | bl c =>
      cases c with
      | true => exact hb.mono _ _ _ hk q
      | false => exact hk _ _ q
    | _ => exact q.elim
theorem ve_or {t u : VT} (ha : VE X Y er a t) (hb : VE X Y er (.BoolOp .Or (b :: rest) pos) u) : VE X Y er (.BoolOp .Or (a :: b :: rest) pos) (vOrV t u) := by
  refine ⟨PE.of (pe_or ha.pe hb.pe) fun σ H Q ⟨F, ρ, R, q⟩ => ⟨F, ρ, R, ha.mono _ _ _ (fun d ρ1 q v F1 H1 s1 R1 r1 => ?_) q⟩, fun ρ k k' hk q => ha.mono _ _ _ (fun d ρ1 q => ?_) q⟩
  · cases d with
    | bl c =>
      cases r1
      refine ⟨c, rfl, ?_⟩
      cases c with
      | true => exact q _ F1 H1 s1 R1 (.bl true)
      | false => exact ⟨F1, ρ1, R1, hb.mono _ _ _ (fun d2 ρ2 q v F2 H2 s2 R2 r2 => q v F2 H2 (s1.trans s2) R2 r2) q⟩
    | _ => exact q.elim
  · cases d with
    | bl c =>
      cases c with
      | true => exact hk _ _ q
      | false => exact hb.mono _ _ _ hk q
    | _ => exact q.elim
theorem ve_not {t : VT} (ha : VE X Y er a t) : VE X Y er (.UnaryOp .Not a pos) (vNotV t) := by
  refine ⟨PE.of (pe_not ha.pe) fun σ H Q ⟨F, ρ, R, q⟩ => ⟨F, ρ, R, ha.mono _ _ _ (fun d ρ1 q v F1 H1 s1 R1 r1 => ?_) q⟩, fun ρ k k' hk q => ha.mono _ _ _ (fun d ρ1 q => ?_) q⟩
  · cases d with
    | bl c => cases r1; exact ⟨c, rfl, q _ F1 H1 s1 R1 (.bl _)⟩
    | _ => exact q.elim
  · cases d with
    | bl c => exact hk _ _ q
    | _ => exact q.elim
def vIfE (c : VB) (t u : VT) : VT := fun er ρ k => c er ρ fun b ρ1 => if b = true then t er ρ1 k else u er ρ1 k
theorem ve_ifE {c : Expr} {tc : VB} {t u : VT} (hc : VTs X Y er c tc) (ha : VE X Y er a t) (hb : VE X Y er b u) : VE X Y er (.IfExp c a b pos) (vIfE tc t u) := by
  refine ⟨PE.of (pe_ifExp hc.pt ha.pe hb.pe) fun σ H Q ⟨F, ρ, R, q⟩ => ⟨F, ρ, R, hc.mono _ _ _ (fun c ρ1 q F1 H1 s1 R1 => ?_) q⟩, fun ρ k k' hk q => hc.mono _ _ _ (fun c ρ1 q => ?_) q⟩
  · cases c with
    | true => exact ⟨F1, ρ1, R1, ha.mono _ _ _ (fun d2 ρ2 q v F2 H2 s2 R2 r2 => q v F2 H2 (s1.trans s2) R2 r2) q⟩
    | false => exact ⟨F1, ρ1, R1, hb.mono _ _ _ (fun d2 ρ2 q v F2 H2 s2 R2 r2 => q v F2 H2 (s1.trans s2) R2 r2) q⟩
  · cases c with
    | true => exact ha.mono _ _ _ hk q
    | false => exact hb.mono _ _ _ hk q
end
/-! ### borrowing: what a test or a plain value asks of an object leaves it as it is -/
def scD : D → Bool
  | .non => true | .bl _ => true | .int _ => true | .str _ => true | _ => false
theorem Rep.sc {K : PySem.W.Frag} {F F' : Hp} {v : V} {d : D} (r : Rep K F v d) (h : scD d = true) : Rep K F' v d := by
  cases r with
  | non => exact .non
  | bl b => exact .bl b
  | int i => exact .int i
  | str l hc => exact .str l hc
  | _ => cases h
def noE : ER := fun _ _ _ => False
/-- all objects of one's own held as data for a while -/
def lendP : Option PV → Option PV
  | some (.imm d) => some (.imm d)
  | some (.own _ o) => (frz o).map .imm
  | none => none
def lendAll (ρ : PSt) : PSt := ρ.map lendP
def vLend (t : VT) : VT := fun _ ρ k => t noE (lendAll ρ) fun d _ => scD d = true ∧ k d ρ
def vLendT (t : VB) : VB := fun _ ρ k => t noE (lendAll ρ) fun b _ => k b ρ
theorem rep_own {K : PySem.W.Frag} {F F1 H : Hp} {a : Addr} {o : OV} {d : D} (h : OwnR K F H a o) (e : frz o = some d) (s : Same F F1) (ea : F1 a = H a) : Rep K F1 (.ref a) d := by
  cases o with
  | lst xs =>
    obtain ⟨vs, h1, h2⟩ := h
    cases e
    exact .lst (by rw [ea]; exact h1) (h2.mono s)
  | dct kvs =>
    cases e
    rcases h with ⟨vs, h1, h2⟩ | ⟨vs, h1, h2⟩
    · exact .dK (by rw [ea]; exact h1) (h2.mono s)
    · exact .dT (by rw [ea]; exact h1) (h2.mono s)
  | obj c fs =>
    obtain ⟨dx, vs, h1, h2⟩ := h
    cases e
    exact .ins (by rw [ea]; exact h1) (h2.mono s)
  | pen n => cases e
/-- the address of an object that can be lent; of one that cannot -/
def LendA (σ : L2.St) (ρ : PSt) (a : Addr) : Prop := ∃ (i : Nat) (r : Bool) (o : OV) (d : D), σ[i]? = some (some (.ref a)) ∧ ρ[i]? = some (some (.own r o)) ∧ frz o = some d
def HideA (σ : L2.St) (ρ : PSt) (a : Addr) : Prop := ∃ (i : Nat) (r : Bool) (o : OV), σ[i]? = some (some (.ref a)) ∧ ρ[i]? = some (some (.own r o)) ∧ frz o = none
open Classical in
theorem lend_rel {Y : SE} {F H : Hp} {σ : L2.St} {ρ : PSt} (R : Rel Y F H σ ρ) : ∃ F1 B1, Same F F1 ∧ Rel { Y with B := B1 } F1 H σ (lendAll ρ) ∧ ∀ F2 H2 ρ2, Same F1 F2 → Rel { Y with B := B1 } F2 H2 σ ρ2 → Rel Y F H2 σ ρ := by
  have own : ∀ {a : Addr} {i : Nat} {r : Bool} {o : OV}, σ[i]? = some (some (.ref a)) → ρ[i]? = some (some (.own r o)) → F a = none ∧ Y.B a = none ∧ OwnR Y.K F H a o := fun {a i r o} h1 h2 => by
    obtain ⟨b, g1, g2, g3, g4, _⟩ := R.own i r o h2
    rw [h1] at g1
    cases g1
    exact ⟨g2, g3, g4⟩
  have apart : ∀ {a : Addr}, LendA σ ρ a → ¬ HideA σ ρ a := fun {a} ⟨i, r, o, d, h1, h2, h3⟩ ⟨j, r', o', g1, g2, g3⟩ => by
    by_cases hij : i = j
    · subst hij
      rw [h2] at g2
      cases g2
      rw [h3] at g3
      cases g3
    · exact R.apart i j a hij ⟨h1, r, o, h2⟩ ⟨g1, r', o', g2⟩
  let F1 : Hp := fun b => if LendA σ ρ b then H b else F b
  let B1 : Hp := fun b => if HideA σ ρ b then H b else Y.B b
  have sF : Same F F1 := fun b u e => by
    show (if LendA σ ρ b then H b else F b) = some u
    rw [if_neg]
    · exact e
    · rintro ⟨i, r, o, d, h1, h2, h3⟩
      rw [(own h1 h2).1] at e
      cases e
  have sB : Same Y.B B1 := fun b u e => by
    show (if HideA σ ρ b then H b else Y.B b) = some u
    rw [if_neg]
    · exact e
    · rintro ⟨i, r, o, h1, h2, h3⟩
      rw [(own h1 h2).2.1] at e
      cases e
  have sFH : Same F1 H := fun b u e => by
    have e : (if LendA σ ρ b then H b else F b) = some u := e
    split at e
    · exact e
    · exact R.sF _ _ e
  have sBH : Same B1 H := fun b u e => by
    have e : (if HideA σ ρ b then H b else Y.B b) = some u := e
    split at e
    · exact e
    · exact R.sB _ _ e
  have eF : ∀ {a : Addr} {i : Nat} {r : Bool} {o : OV} {d : D}, σ[i]? = some (some (.ref a)) → ρ[i]? = some (some (.own r o)) → frz o = some d → F1 a = H a := fun {a i r o d} h1 h2 h3 => if_pos ⟨i, r, o, d, h1, h2, h3⟩
  have eB : ∀ {a : Addr} {i : Nat} {r : Bool} {o : OV}, σ[i]? = some (some (.ref a)) → ρ[i]? = some (some (.own r o)) → frz o = none → B1 a = H a := fun {a i r o} h1 h2 h3 => if_pos ⟨i, r, o, h1, h2, h3⟩
  have noown : ∀ (i : Nat) (r : Bool) (o : OV), (lendAll ρ)[i]? ≠ some (some (.own r o)) := fun i r o e => by
    unfold lendAll at e
    rw [List.getElem?_map] at e
    cases q : ρ[i]? with
    | none => rw [q] at e; cases e
    | some p =>
      rw [q] at e
      have e2 : lendP p = some (.own r o) := Option.some.inj e
      cases p with
      | none => cases e2
      | some p =>
        cases p with
        | imm d => cases e2
        | own r' o' =>
          have e2 : (frz o').map PV.imm = some (.own r o) := e2
          cases q2 : frz o' with
          | none => rw [q2] at e2; cases e2
          | some d => rw [q2] at e2; cases e2
  refine ⟨F1, B1, sF, ⟨R.s0.trans sF, sFH, fun b ps e => ?_, fun b ps e => ?_, R.tabs, sBH, fun a u e => ?_, ?_, fun i d e => ?_, fun i r o e => absurd e (noown i r o), fun i j a _ ⟨_, r, o, e⟩ => absurd e (noown i r o)⟩, fun F2 H2 ρ2 s2 R2 => ?_⟩
  · have e : (if LendA σ ρ b then H b else F b) = some (.tbl ps) := e
    split at e
    · rename_i h
      obtain ⟨i, r, o, d, h1, h2, h3⟩ := h
      obtain ⟨u, hu, no⟩ := (own h1 h2).2.2.at_
      rw [hu] at e
      exact no ps (Option.some.inj e)
    · exact R.nt _ _ e
  · have e : (if HideA σ ρ b then H b else Y.B b) = some (.tbl ps) := e
    split at e
    · rename_i h
      obtain ⟨i, r, o, h1, h2, h3⟩ := h
      obtain ⟨u, hu, no⟩ := (own h1 h2).2.2.at_
      rw [hu] at e
      exact no ps (Option.some.inj e)
    · exact R.ntB _ _ e
  · have e : (if HideA σ ρ a then H a else Y.B a) = some u := e
    show (if LendA σ ρ a then H a else F a) = none
    split at e
    · rename_i h
      rw [if_neg fun z => apart z h]
      obtain ⟨i, r, o, h1, h2, h3⟩ := h
      exact (own h1 h2).1
    · rename_i h
      rw [if_neg]
      · exact R.dis _ _ e
      · rintro ⟨i, r, o, d, h1, h2, h3⟩
        rw [(own h1 h2).2.1] at e
        cases e
  · rw [R.len]
    unfold lendAll
    rw [List.length_map]
  · unfold lendAll at e
    rw [List.getElem?_map] at e
    cases q : ρ[i]? with
    | none => rw [q] at e; cases e
    | some p =>
      rw [q] at e
      have e2 : lendP p = some (.imm d) := Option.some.inj e
      cases p with
      | none => cases e2
      | some p =>
        cases p with
        | imm d' =>
          cases e2
          obtain ⟨v, h1, h2⟩ := R.imm i d q
          exact ⟨v, h1, h2.mono sF⟩
        | own r o =>
          have e2 : (frz o).map PV.imm = some (.imm d) := e2
          cases q2 : frz o with
          | none => rw [q2] at e2; cases e2
          | some d' =>
            rw [q2] at e2
            cases e2
            obtain ⟨a, h1, h2, h3, h4, h5⟩ := R.own i r o q
            exact ⟨_, h1, rep_own h4 q2 sF (eF h1 q q2)⟩
  · have s12 : Same F H2 := (sF.trans s2).trans R2.sF
    refine ⟨R.s0, s12, R.nt, R.ntB, R2.tabs, sB.trans R2.sB, R.dis, R.len, R.imm, fun i r o e => ?_, R.apart⟩
    obtain ⟨a, h1, h2, h3, h4, h5⟩ := R.own i r o e
    obtain ⟨u, hu, no⟩ := h4.at_
    have ea : H2 a = H a := by
      cases q : frz o with
      | some d =>
        rw [hu]
        refine R2.sF _ _ (s2 _ _ ?_)
        rw [eF h1 e q, hu]
      | none =>
        rw [hu]
        refine R2.sB _ _ ?_
        show B1 a = some u
        rw [eB h1 e q, hu]
    exact ⟨a, h1, h2, h3, h4.mono (Same.refl F) s12 h2 ea, h5⟩
section
variable {X : Cx} {Y : SE} {er : ER} {pos : Pos} {e : Expr}
theorem ve_lend {t : VT} (h : ∀ B, VE X { Y with B := B } noE e t) : VE X Y er e (vLend t) := by
  refine ⟨⟨fun pins s σ H Q I q => ?_⟩, fun ρ k k' hk q => (h Y.B).mono _ _ _ (fun d ρ1 q => ⟨q.1, hk _ _ q.2⟩) q⟩
  obtain ⟨F, ρ, R, q⟩ := q
  obtain ⟨F1, B1, s1, R1, back⟩ := lend_rel R
  refine (h B1).pe.run pins s σ H Q I ⟨F1, lendAll ρ, R1, (h B1).mono _ _ _ (fun d ρ2 q v F2 H2 s2 R2 r => ?_) q⟩
  exact q.2 v F H2 (Same.refl F) (back F2 H2 ρ2 s2 R2) (r.sc q.1)
theorem vt_lend {t : VB} (h : ∀ B, VTs X { Y with B := B } noE e t) : VTs X Y er e (vLendT t) := by
  refine ⟨⟨fun pins s σ H Q I q => ?_⟩, fun ρ k k' hk q => (h Y.B).mono _ _ _ (fun d ρ1 q => hk _ _ q) q⟩
  obtain ⟨F, ρ, R, q⟩ := q
  obtain ⟨F1, B1, s1, R1, back⟩ := lend_rel R
  refine (h B1).pt.run pins s σ H Q I ⟨F1, lendAll ρ, R1, (h B1).mono _ _ _ (fun b ρ2 q F2 H2 s2 R2 => ?_) q⟩
  exact q F H2 (Same.refl F) (back F2 H2 ρ2 s2 R2)
end
end PL

end
section
set_option maxHeartbeats 1000000
/-! The pure layer, third part: statements, loops. -/
namespace PL
open PySem PySem.Spec PyProof.Rows L2 SBX SB LamX
section
variable {X : Cx} {Y : SE} {er : ER} {pos : Pos} {st : Stmt} {rest : List Stmt}
/-! ### blocks -/
def vNext : VS := fun P ρ => P.nx ρ
def vSeq (t u : VS) : VS := fun P ρ => t { P with nx := u P } ρ
theorem vss_nil : VSs X Y er [] vNext := ⟨PSs.of pss_nil fun D σ H ⟨F, ρ, P, R, q, e, K⟩ => K.nx F H σ ρ (Same.refl F) R q⟩
theorem vss_one {t : VS} (h : VSt X Y er st t) : VSs X Y er [st] t := ⟨pss_one h.ps⟩
theorem vss_cons {t u : VS} (h : VSt X Y er st t) (hu : VSs X Y er rest u) : VSs X Y er (st :: rest) (vSeq t u) :=
  ⟨PSs.of (pss_cons h.ps hu.pss) fun D σ H ⟨F, ρ, P, R, q, e, K⟩ => ⟨F, ρ, { P with nx := u P }, R, q, e, ⟨fun F' H' σ' ρ' s' R' q' => ⟨F', ρ', P, R', q', e, K.up s'⟩, K.bk, K.ct, K.rt⟩⟩⟩
theorem vs_pass : VSt X Y er (.Pass pos) vNext := ⟨PS.of ps_pass fun D σ H ⟨F, ρ, P, R, q, e, K⟩ => K.nx F H σ ρ (Same.refl F) R q⟩
theorem vs_break : VSt X Y er (.Break pos) (fun P ρ => P.bk ρ) := ⟨PS.of ps_break fun D σ H ⟨F, ρ, P, R, q, e, K⟩ => K.bk F H σ ρ (Same.refl F) R q⟩
theorem vs_continue : VSt X Y er (.Continue pos) (fun P ρ => P.ct ρ) := ⟨PS.of ps_continue fun D σ H ⟨F, ρ, P, R, q, e, K⟩ => K.ct F H σ ρ (Same.refl F) R q⟩
theorem vs_never : VSt X Y er st (fun _ _ => False) := ⟨PS.of ps_never fun D σ H ⟨F, ρ, P, R, q, e, K⟩ => q⟩
/-- an expression whose value is dropped -/
def vDrop (t : VT) : VS := fun P ρ => t P.er ρ fun _ ρ' => P.nx ρ'
theorem vs_expr {e : Expr} {t : VT} (h : VE X Y er e t) (hs : swapsWith e none pos.line X.env = pure false := by rfl) : VSt X Y er (.Expr e pos) (vDrop t) :=
  ⟨PS.of (ps_expr h.pe hs) fun D σ H ⟨F, ρ, P, R, q, e, K⟩ => ⟨F, ρ, R, h.mono _ _ _ (fun d ρ' q v F' H' s R' r => K.nx F' H' σ ρ' s R' q) (by rw [← e]; exact q)⟩⟩
def vRet (t : VT) : VS := fun P ρ => t P.er ρ fun d ρ' => P.rt (.imm d) ρ'
theorem vs_ret {e : Expr} {t : VT} (h : VE X Y er e t) : VSt X Y er (.Return (some e) pos) (vRet t) :=
  ⟨PS.of (ps_ret h.pe) fun D σ H ⟨F, ρ, P, R, q, e, K⟩ => ⟨F, ρ, R, h.mono _ _ _ (fun d ρ' q v F' H' s R' r => K.rt F' H' σ ρ' v (.imm d) s R' r q) (by rw [← e]; exact q)⟩⟩
def vRetO (t : VO) : VS := fun P ρ => t P.er ρ fun p ρ' => P.rt p ρ'
theorem vs_retO {e : Expr} {t : VO} (h : VEO X Y er e t) : VSt X Y er (.Return (some e) pos) (vRetO t) :=
  ⟨PS.of (ps_ret h.pe) fun D σ H ⟨F, ρ, P, R, q, e, K⟩ => ⟨F, ρ, R, h.mono _ _ _ (fun p ρ' q v F' H' s R' r => K.rt F' H' σ ρ' v p s R' r q) (by rw [← e]; exact q)⟩⟩
theorem vs_retN : VSt X Y er (.Return none pos) (fun P ρ => P.rt (.imm .non) ρ) := ⟨PS.of ps_retN fun D σ H ⟨F, ρ, P, R, q, e, K⟩ => K.rt F H σ ρ .non (.imm .non) (Same.refl F) R .non q⟩
def vIf (c : VB) (t u : VS) : VS := fun P ρ => c P.er ρ fun b ρ' => if b = true then t P ρ' else u P ρ'
theorem vs_if {c : Expr} {a b : List Stmt} {tc : VB} {t u : VS} (hc : VTs X Y er c tc) (ha : VSs X Y er a t) (hb : VSs X Y er b u) : VSt X Y er (.If c a b pos) (vIf tc t u) := by
  refine ⟨PS.of (ps_if hc.pt ha.pss hb.pss) fun D σ H ⟨F, ρ, P, R, q, e, K⟩ => ⟨F, ρ, R, hc.mono _ _ _ (fun b ρ' q F' H' s R' => ?_) (by rw [← e]; exact q)⟩⟩
  cases b with
  | true => exact ⟨F', ρ', P, R', q, e, K.up s⟩
  | false => exact ⟨F', ρ', P, R', q, e, K.up s⟩
/-! ### names stored -/
/-- slot i may be written: it is no object of the caller's -/
def okSet (ρ : PSt) (i : Nat) (k : Prop) : Prop := match ρ[i]? with
  | some (some (.own true _)) => False
  | _ => k
theorem okSet.get {ρ : PSt} {i : Nat} {k : Prop} (h : okSet ρ i k) : k := by
  unfold okSet at h
  split at h
  · exact h.elim
  · exact h
theorem okSet.imp {ρ : PSt} {i : Nat} {k k' : Prop} (f : k → k') (h : okSet ρ i k) : okSet ρ i k' := by
  unfold okSet at h ⊢
  split
  · rename_i o e
    rw [e] at h
    exact h
  · rename_i n
    split at h
    · exact h.elim
    · exact f h
/-- an object of the caller's is not handed on as one's own -/
def notRef : PV → Prop → Prop
  | .own true _, _ => False
  | _, k => k
theorem notRef.get {p : PV} {k : Prop} (h : notRef p k) : k ∧ ∀ r o, p = .own r o → r = false := by
  cases p with
  | imm d => exact ⟨h, fun _ _ z => nomatch z⟩
  | own r o =>
    cases r with
    | true => exact h.elim
    | false => exact ⟨h, fun r o e => by cases e; rfl⟩
theorem notRef.imp {p : PV} {k k' : Prop} (f : k → k') (h : notRef p k) : notRef p k' := by
  cases p with
  | imm d => exact f h
  | own r o => cases r with
    | true => exact h.elim
    | false => exact f h
def vSet (i : Nat) (t : VT) : VS := fun P ρ => t P.er ρ fun d ρ' => okSet ρ' i (P.nx (ρ'.set i (some (.imm d))))
def vSetO (i : Nat) (t : VO) : VS := fun P ρ => t P.er ρ fun p ρ' => okSet ρ' i (notRef p (P.nx (ρ'.set i (some p))))
theorem vs_setO {i : Nat} {x : Str} {e : Expr} {t : VO} {pos' : Pos} (hN : X.N.Nodup) (hi : X.N[i]? = some x) (hx : Loc X.env.scope x) (h : VEO X Y er e t) (hs : swapsWith e (some (.Name x pos')) pos.line X.env = pure false := by rfl) (hf : X.fn x = true ∨ X.env.scope.names.lookup x = some .local := by first | exact .inl rfl | exact .inr rfl | assumption) :
    VSt X Y er (.Assign [.Name x pos'] e pos) (vSetO i t) := by
  refine ⟨PS.of (ps_set hN hi hx h.pe hs hf) fun D σ H ⟨F, ρ, P, R, q, e, K⟩ => ⟨F, ρ, R, h.mono _ _ _ (fun p ρ' q v F' H' s R' r => ?_) (by rw [← e]; exact q)⟩⟩
  obtain ⟨q1, nr⟩ := notRef.get q.get
  exact K.nx F' H' _ _ s (R'.set r nr) q1
theorem vs_set {i : Nat} {x : Str} {e : Expr} {t : VT} {pos' : Pos} (hN : X.N.Nodup) (hi : X.N[i]? = some x) (hx : Loc X.env.scope x) (h : VE X Y er e t) (hs : swapsWith e (some (.Name x pos')) pos.line X.env = pure false := by rfl) (hf : X.fn x = true ∨ X.env.scope.names.lookup x = some .local := by first | exact .inl rfl | exact .inr rfl | assumption) :
    VSt X Y er (.Assign [.Name x pos'] e pos) (vSet i t) := by
  refine ⟨PS.of (ps_set hN hi hx h.pe hs hf) fun D σ H ⟨F, ρ, P, R, q, e, K⟩ => ⟨F, ρ, R, h.mono _ _ _ (fun d ρ' q v F' H' s R' r => ?_) (by rw [← e]; exact q)⟩⟩
  exact K.nx F' H' _ _ s (R'.set (p := .imm d) r (fun _ _ z => nomatch z)) q.get
/-! ### targets -/
abbrev VG := D → PSt → (PSt → Prop) → Prop
abbrev VGs := List D → PSt → (PSt → Prop) → Prop
/-- just the slots ws are written -/
def Only (ws : List Nat) (σ σ' : L2.St) : Prop := σ'.length = σ.length ∧ ∀ j, j ∉ ws → σ'[j]? = σ[j]?
theorem Only.refl {ws : List Nat} {σ : L2.St} : Only ws σ σ := ⟨rfl, fun _ _ => rfl⟩
theorem Only.set {i : Nat} {σ : L2.St} {v : Option V} : Only [i] σ (σ.set i v) := ⟨by simp, fun j hj => by rw [List.getElem?_set_ne (fun z => hj (by simp [z]))]⟩
theorem Only.trans {ws us : List Nat} {σ σ1 σ2 : L2.St} (a : Only ws σ σ1) (b : Only us σ1 σ2) : Only (ws ++ us) σ σ2 :=
  ⟨b.1.trans a.1, fun j hj => by rw [b.2 j (fun z => hj (by simp [z])), a.2 j (fun z => hj (by simp [z]))]⟩
def tG (Y : SE) (ws : List Nat) (t : VG) : TG := fun v σ H Q => ∃ F ρ d, Rel Y F H σ ρ ∧ Rep Y.K F v d ∧ t d ρ fun ρ' => ∀ F' H' σ', Same F F' → Rel Y F' H' σ' ρ' → Only ws σ σ' → Q σ' H'
def tGs (Y : SE) (ws : List Nat) (t : VGs) : TGs := fun vs σ H Q => ∃ F ρ ds, Rel Y F H σ ρ ∧ RepL Y.K F vs ds ∧ t ds ρ fun ρ' => ∀ F' H' σ', Same F F' → Rel Y F' H' σ' ρ' → Only ws σ σ' → Q σ' H'
structure VGt (X : Cx) (Y : SE) (e : Expr) (ws : List Nat) (t : VG) : Prop where
  pg : PG X e (tG Y ws t)
  mono : ∀ d ρ (k k' : PSt → Prop), (∀ ρ, k ρ → k' ρ) → t d ρ k → t d ρ k'
structure VGts (X : Cx) (Y : SE) (es : List Expr) (ws : List Nat) (t : VGs) : Prop where
  pgs : PGs X es (tGs Y ws t)
  mono : ∀ d ρ (k k' : PSt → Prop), (∀ ρ, k ρ → k' ρ) → t d ρ k → t d ρ k'
theorem PG.of {e : Expr} {t t' : TG} (h : PG X e t) (i : ∀ v σ H Q, t' v σ H Q → t v σ H Q) : PG X e t' := ⟨fun pins s σ H v u Q I r q => h.run pins s σ H v u Q I r (i v σ H Q q)⟩
theorem PGs.of {e : List Expr} {t t' : TGs} (h : PGs X e t) (i : ∀ v σ H Q, t' v σ H Q → t v σ H Q) : PGs X e t' := ⟨fun pins s σ H v u Q I r q => h.run pins s σ H v u Q I r (i v σ H Q q)⟩
def vgName (i : Nat) : VG := fun d ρ k => okSet ρ i (k (ρ.set i (some (.imm d))))
theorem vg_name {i : Nat} {x : Str} (hN : X.N.Nodup) (hi : X.N[i]? = some x) (hx : Loc X.env.scope x) (hf : X.fn x = true ∨ X.env.scope.names.lookup x = some .local := by first | exact .inl rfl | exact .inr rfl | assumption) : VGt X Y (.Name x pos) [i] (vgName i) :=
  ⟨PG.of (pg_name hN hi hx hf) fun v σ H Q ⟨F, ρ, d, R, r, q⟩ => q.get F H _ (Same.refl F) (R.set (p := .imm d) r (fun _ _ z => nomatch z)) Only.set, fun d ρ k k' hk q => okSet.imp (fun z => hk _ z) q⟩
def vgNil : VGs := fun ds ρ k => match ds with
  | [] => k ρ
  | _ => False
def vgCons (t : VG) (u : VGs) : VGs := fun ds ρ k => match ds with
  | d :: r => t d ρ fun ρ1 => u r ρ1 k
  | _ => False
theorem vgs_nil : VGts X Y [] [] vgNil := by
  refine ⟨PGs.of pgs_nil fun vs σ H Q ⟨F, ρ, ds, R, r, q⟩ => ?_, fun d ρ k k' hk q => ?_⟩
  · cases r with
    | nil => exact ⟨rfl, q F H σ (Same.refl F) R Only.refl⟩
    | cons h t => exact q.elim
  · cases d with
    | nil => exact hk _ q
    | cons _ _ => exact q.elim
theorem vgs_cons {e : Expr} {es : List Expr} {ws us : List Nat} {t : VG} {u : VGs} (h : VGt X Y e ws t) (hu : VGts X Y es us u) (hs : (assignEach (e :: es) X.env).map (·.2) = assign e X.env :: (assignEach es X.env).map (·.2) := by rfl) : VGts X Y (e :: es) (ws ++ us) (vgCons t u) := by
  refine ⟨PGs.of (pgs_cons h.pg hu.pgs hs) fun vs σ H Q ⟨F, ρ, ds, R, r, q⟩ => ?_, fun d ρ k k' hk q => ?_⟩
  · cases r with
    | nil => exact q.elim
    | @cons v d vs ds r0 rr =>
      refine ⟨v, vs, rfl, F, ρ, d, R, r0, h.mono _ _ _ _ (fun ρ1 q F1 H1 σ1 s1 R1 o1 => ?_) q⟩
      exact ⟨F1, ρ1, ds, R1, rr.mono s1, hu.mono _ _ _ _ (fun ρ2 q F2 H2 σ2 s2 R2 o2 => q F2 H2 σ2 (s1.trans s2) R2 (o1.trans o2)) q⟩
  · cases d with
    | nil => exact q.elim
    | cons d ds => exact h.mono _ _ _ _ (fun ρ1 q => hu.mono _ _ _ _ hk q) q
def vgTup (n : Nat) (t : VGs) : VG := fun d ρ k => match d with
  | .tup ds => ds.length = n ∧ t ds ρ k
  | _ => False
theorem vg_tup {es : List Expr} {m n : Nat} {ws : List Nat} {t : VGs} (hK : X.K = Y.K) (hc : X.calm = true) (h : VGts X Y es ws t) (hn : (assignEach es X.env).length = n := by rfl) (hst : (assignEach es X.env).findIdx? (·.1) = none := by rfl) : VGt X Y (.Tuple es m pos) ws (vgTup n t) := by
  refine ⟨PG.of (pg_tup hc h.pgs hn hst) fun v σ H Q ⟨F, ρ, d, R, r, q⟩ => ?_, fun d ρ k k' hk q => ?_⟩
  · cases r with
    | tup hq rr => exact ⟨_, _, rfl, by rw [hK]; exact sqT_same R.sF hq, by rw [rr.length]; exact q.1, F, ρ, _, R, rr, q.2⟩
    | _ => exact q.elim
  · cases d with
    | tup ds => exact ⟨q.1, h.mono _ _ _ _ hk q.2⟩
    | _ => exact q.elim
def vAsg (t : VT) (g : VG) : VS := fun P ρ => t P.er ρ fun d ρ' => g d ρ' P.nx
theorem vs_asg {tg e : Expr} {t : VT} {ws : List Nat} {g : VG} (he : VE X Y er e t) (hg : VGt X Y tg ws g) (hs : swapsWithSole [tg] e pos.line X.env = pure false := by rfl) (hw : swappedStores [tg] e X.env = pure none := by rfl)
    (h1 : (assignEach [tg] X.env).map (·.2) = [assign tg X.env] := by rfl) : VSt X Y er (.Assign [tg] e pos) (vAsg t g) :=
  ⟨PS.of (ps_asg he.pe hg.pg hs hw h1) fun D σ H ⟨F, ρ, P, R, q, e, K⟩ => ⟨F, ρ, R, he.mono _ _ _ (fun d ρ' q v F' H' s R' r => ⟨F', ρ', d, R', r, hg.mono _ _ _ _ (fun ρ2 q F2 H2 σ2 s2 R2 o2 => K.nx F2 H2 σ2 ρ2 (s.trans s2) R2 q) q⟩) (by rw [← e]; exact q)⟩⟩
/-- a, b = x, y -/
def vPar (i j : Nat) (t : VA) : VS := fun P ρ => t P.er ρ fun ds ρ' => match ds with
  | [d, e] => okSet ρ' i (okSet ρ' j (P.nx ((ρ'.set i (some (.imm d))).set j (some (.imm e)))))
  | _ => False
theorem vs_par {i j : Nat} {x y : Str} {a b : Expr} {t : VA} {px py pt : Pos} {kt k2 pt2} (hc : X.calm = true) (hN : X.N.Nodup) (hi : X.N[i]? = some x) (hj : X.N[j]? = some y) (hij : i ≠ j)
    (hx : X.env.scope.names.lookup x = some .local) (hy : X.env.scope.names.lookup y = some .local) (ha : VAs X Y er [a, b] t)
    (hw : swappedStores [.Tuple [.Name x px, .Name y py] kt pt] (.Tuple [a, b] k2 pt2) X.env = pure (some [x, y]))
    (hs : swapsWithSole [.Tuple [.Name x px, .Name y py] kt pt] (.Tuple [a, b] k2 pt2) pos.line X.env = pure false := by rfl) :
    VSt X Y er (.Assign [.Tuple [.Name x px, .Name y py] kt pt] (.Tuple [a, b] k2 pt2) pos) (vPar i j t) := by
  refine ⟨PS.of (ps_par hc hN hi hj hij hx hy ha.pa hw hs) fun D σ H ⟨F, ρ, P, R, q, e, K⟩ => ⟨F, ρ, R, ha.mono _ _ _ (fun ds ρ' q vs F' H' s R' r => ?_) (by rw [← e]; exact q)⟩⟩
  match ds, r, q with
  | [d, e], .cons r1 (.cons r2 .nil), q =>
    refine ⟨_, _, rfl, K.nx F' H' _ _ s ?_ q.get.get⟩
    exact (R'.set (p := .imm d) r1 (fun _ _ z => nomatch z)).set (p := .imm e) r2 (fun _ _ z => nomatch z)
/-- name op= e -/
def vAug (i : Nat) (g : GD) (t : VT) : VS := fun P ρ => vVar i P.er ρ fun d ρ0 => t P.er ρ0 fun e ρ' => g d e fun c => okSet ρ' i (P.nx (ρ'.set i (some (.imm c))))
/-- the name holds plain data -/
def imAt (ρ : PSt) (i : Nat) (k : D → Prop) : Prop := match ρ[i]? with
  | some (some (.imm d)) => k d
  | _ => False
theorem imAt.get {ρ : PSt} {i : Nat} {k : D → Prop} (h : imAt ρ i k) : ∃ d, ρ[i]? = some (some (.imm d)) ∧ k d := by
  unfold imAt at h
  split at h
  · exact ⟨_, by assumption, h⟩
  · exact h.elim
def vAug2 (i : Nat) (g : GD) (t : VT) : VS := fun P ρ => imAt ρ i fun d => t P.er ρ fun e ρ' => g d e fun c => okSet ρ' i (P.nx (ρ'.set i (some (.imm c))))
structure GIp (X : Cx) (Y : SE) (op : Operator) (g : GD) : Prop where
  ok : ∃ r, PIp X op r ∧ ∀ F H σ ρ x y d1 d2 (k : D → Prop) (Q : VK), Rel Y F H σ ρ → Rep Y.K F x d1 → Rep Y.K F y d2 → g d1 d2 k → (∀ v F' H' d, Same F F' → Rel Y F' H' σ ρ → Rep Y.K F' v d → k d → Q v H') → r x y H Q
theorem vs_aug {i : Nat} {x : Str} {e : Expr} {t : VT} {op : Operator} {g : GD} {pos' : Pos} (hN : X.N.Nodup) (hi : X.N[i]? = some x) (hx : Loc X.env.scope x) (he : VE X Y er e t) (ho : GIp X Y op g) (hf : X.fn x = true ∨ X.env.scope.names.lookup x = some .local := by first | exact .inl rfl | exact .inr rfl | assumption) :
    VSt X Y er (.AugAssign (.Name x pos') op e pos) (vAug2 i g t) := by
  obtain ⟨r, h1, h2⟩ := ho.ok
  refine ⟨PS.of (ps_aug hN hi hx he.pe h1 hf) fun D σ H ⟨F, ρ, P, R, q, ee, K⟩ => ?_⟩
  obtain ⟨d, e1, q⟩ := imAt.get q
  obtain ⟨v, g1, g2⟩ := R.imm i d e1
  refine ⟨v, g1, F, ρ, R, he.mono _ _ _ (fun d2 ρ' q y F' H' s R' r2 => ?_) (by rw [← ee]; exact q)⟩
  exact h2 F' H' σ ρ' v y d d2 _ _ R' (g2.mono s) r2 q fun z F2 H2 c s2 R2 r3 q => K.nx F2 H2 _ _ (s.trans s2) (R2.set (p := .imm c) r3 (fun _ _ z => nomatch z)) q.get
/-! ### while -/
def vWhile (c : VB) (b : VS) : VS := fun P ρ => ∃ I : Nat → PSt → Prop, (∃ m, I m ρ) ∧ ∀ m ρ, I m ρ → c P.er ρ fun k ρ' => if k = true then b { P with nx := fun ρ => ∃ m', m' < m ∧ I m' ρ, ct := fun ρ => ∃ m', m' < m ∧ I m' ρ, bk := P.nx } ρ' else P.nx ρ'
theorem vs_while {c : Expr} {body : List Stmt} {tc : VB} {tb : VS} (hp : PassesOwn (model X.prog X.w) X.A X.env X.xe) (hc : VTs X Y er c tc) (hb : VSs X Y er body tb) : VSt X Y er (.While c body [] pos) (vWhile tc tb) := by
  refine ⟨PS.of (ps_while hp hc.pt hb.pss) fun D σ H ⟨F, ρ, P, R, q, e, K⟩ => ?_⟩
  obtain ⟨I, ⟨m0, h0⟩, turn⟩ := q
  refine ⟨fun m σ H => ∃ F' ρ, Same F F' ∧ Rel Y F' H σ ρ ∧ I m ρ, ⟨m0, F, ρ, Same.refl F, R, h0⟩, fun m σ1 H1 ⟨F1, ρ1, s1, R1, i1⟩ => ?_⟩
  refine ⟨F1, ρ1, R1, hc.mono _ _ _ (fun b ρ2 q F2 H2 s2 R2 => ?_) (by rw [← e]; exact turn m ρ1 i1)⟩
  cases b with
  | false => exact K.nx F2 H2 σ1 ρ2 (s1.trans s2) R2 q
  | true =>
    refine ⟨fun σ H => ∃ F' ρ, Same F F' ∧ Rel Y F' H σ ρ ∧ ∃ m', m' < m ∧ I m' ρ, fun σ' H' ⟨F', ρ', s', R', m', hm, i'⟩ => ⟨m', hm, F', ρ', s', R', i'⟩, ?_⟩
    have K2 := K.up (s1.trans s2)
    exact ⟨F2, ρ2, _, R2, q, e, ⟨fun F3 H3 σ3 ρ3 s3 R3 q => ⟨F3, ρ3, (s1.trans s2).trans s3, R3, q⟩, K2.nx, fun F3 H3 σ3 ρ3 s3 R3 q => ⟨F3, ρ3, (s1.trans s2).trans s3, R3, q⟩, K2.rt⟩⟩
/-! ### what a loop walks -/
/-- J yields the data ds, one by one; F: what is known while it walks -/
structure Yields (K : PySem.W.Frag) (F : Hp) (J : It) (ds : List D) : Prop where
  go : ∀ i H, Same F H → i < ds.length → J.go i H
  stop : ∀ H, Same F H → J.stop ds.length H
  yld : ∀ i H x H' d, Same F H → ds[i]? = some d → J.yld i H x H' → (H' = H ∧ Rep K F x d) ∨ ∃ a o, H a = none ∧ (∀ ps, o ≠ .tbl ps) ∧ H' = upd H a o ∧ Rep K (upd F a o) x d
abbrev VI := ER → PSt → (List D → PSt → Prop) → Prop
def tI (Y : SE) (er : ER) (t : VI) : TI := fun σ H R => ∃ F ρ, Rel Y F H σ ρ ∧ t er ρ fun ds ρ' => ∀ F' H' J, Same F F' → Rel Y F' H' σ ρ' → Yields Y.K F' J ds → R J H'
structure VIt (X : Cx) (Y : SE) (er : ER) (tg iter : Expr) (t : VI) : Prop where
  pi : PI X tg iter (tI Y er t)
  mono : ∀ ρ k k', (∀ ds ρ, k ds ρ → k' ds ρ) → t er ρ k → t er ρ k'
def forL (g : VG) (b : VS) (P : PEnds) : List D → PSt → Prop
  | [], ρ => P.nx ρ
  | d :: ds, ρ => g d ρ fun ρ' => b { P with nx := forL g b P ds, ct := forL g b P ds, bk := P.nx } ρ'
def vFor (t : VI) (g : VG) (b : VS) : VS := fun P ρ => t P.er ρ fun ds ρ' => forL g b P ds ρ'
theorem vs_for {tg iter : Expr} {body : List Stmt} {wi : VI} {ws : List Nat} {g : VG} {tb : VS} (hp : PassesOwn (model X.prog X.w) X.A X.env X.xe) (hc : X.calm = true) (hi : VIt X Y er tg iter wi) (hg : VGt X Y tg ws g) (hb : VSs X Y er body tb)
    (hs : ∀ x, foldedSetIterable iter X.env x = pure x := by intro _; rfl) : VSt X Y er (.For tg iter body [] pos) (vFor wi g tb) := by
  refine ⟨PS.of (ps_for hp hc hi.pi hg.pg hb.pss hs) fun D σ H ⟨F, ρ, P, R, q, e, K⟩ => ?_⟩
  refine ⟨F, ρ, R, hi.mono _ _ _ (fun ds ρ' q F' H' J s R' yl => ?_) (by rw [← e]; exact q)⟩
  refine ⟨fun i m σ H => m = ds.length - i ∧ i ≤ ds.length ∧ ∃ F1 ρ1, Same F' F1 ∧ Rel Y F1 H σ ρ1 ∧ forL g tb P (ds.drop i) ρ1, ⟨ds.length, by simp, Nat.zero_le _, F', ρ', Same.refl _, R', q⟩, ?_⟩
  rintro i m σ1 H1 ⟨rfl, hle, F1, ρ1, s1, R1, q1⟩
  by_cases hlt : i < ds.length
  · refine .inr ⟨yl.go i H1 (s1.trans R1.sF) hlt, fun σ H => ∃ F2 ρ2, Same F' F2 ∧ Rel Y F2 H σ ρ2 ∧ forL g tb P (ds.drop (i + 1)) ρ2, fun σ2 H2 z => ⟨ds.length - (i + 1), by omega, rfl, hlt, z⟩, fun x H2 y => ?_⟩
    have hd : ds[i]? = some ds[i] := List.getElem?_eq_getElem hlt
    rw [List.drop_eq_getElem_cons hlt] at q1
    have step : ∀ F2, Same F1 F2 → Rel Y F2 H2 σ1 ρ1 → Rep Y.K F2 x ds[i] → tG Y ws g x σ1 H2 fun σ2 H3 => tS Y er tb { D with nx := fun σ H => ∃ F2 ρ2, Same F' F2 ∧ Rel Y F2 H σ ρ2 ∧ forL g tb P (ds.drop (i + 1)) ρ2, ct := fun σ H => ∃ F2 ρ2, Same F' F2 ∧ Rel Y F2 H σ ρ2 ∧ forL g tb P (ds.drop (i + 1)) ρ2, bk := D.nx } σ2 H3 := fun F2 s2 R2 r2 => by
      refine ⟨F2, ρ1, _, R2, r2, hg.mono _ _ _ _ (fun ρ3 q F3 H3 σ3 s3 R3 o3 => ?_) q1⟩
      have s4 := (s1.trans s2).trans s3
      have K2 := K.up (s.trans s4)
      exact ⟨F3, ρ3, _, R3, q, e, ⟨fun F4 H4 σ4 ρ4 s5 R4 q => ⟨F4, ρ4, s4.trans s5, R4, q⟩, K2.nx, fun F4 H4 σ4 ρ4 s5 R4 q => ⟨F4, ρ4, s4.trans s5, R4, q⟩, K2.rt⟩⟩
    rcases yl.yld i H1 x H2 _ (s1.trans R1.sF) hd y with ⟨rfl, r⟩ | ⟨a, o, ha, no, rfl, r⟩
    · exact step F1 (Same.refl _) R1 (r.mono s1)
    · obtain ⟨R2, s2⟩ := R1.new ha no
      refine step _ s2 R2 (r.mono fun b u z => ?_)
      unfold upd at z ⊢
      by_cases hb : b = a
      · simp [hb] at z ⊢; exact z
      · simp [hb] at z ⊢; exact s1 _ _ z
  · have hi : i = ds.length := by omega
    subst hi
    rw [List.drop_length] at q1
    exact .inl ⟨yl.stop H1 (s1.trans R1.sF), K.nx F1 H1 σ1 ρ1 (s.trans s1) R1 q1⟩
end
end PL

end
section
set_option maxHeartbeats 1000000
/-! The pure layer, fourth part: defs and their promises, calls, errors. -/
namespace PL
open PySem PySem.Spec PyProof.Rows L2 SBX SB LamX
/-- what a def does to data: the arguments (objects of the caller's among them), what is wanted of the value and of the arguments behind, of an error -/
structure PSp where
  run : List PV → (PV → List PV → Prop) → (Nat → List D → List PV → Prop) → Prop
  mono : ∀ as Q Q' E E', (∀ p bs, Q p bs → Q' p bs) → (∀ c fs bs, E c fs bs → E' c fs bs) → run as Q E → run as Q' E'
/-- a function of data -/
inductive Res where
  | ok (p : PV) | err (c : Nat) (fs : List D) | bad
def Res.go (r : Res) (A : PV → Prop) (B : Nat → List D → Prop) : Prop := match r with
  | .ok p => A p
  | .err c fs => B c fs
  | .bad => False
theorem Res.ok_ {r : Res} {p : PV} {A : PV → Prop} {B : Nat → List D → Prop} (h : r = .ok p) (q : A p) : r.go A B := by subst h; exact q
theorem Res.err_ {r : Res} {c : Nat} {fs : List D} {A : PV → Prop} {B : Nat → List D → Prop} (h : r = .err c fs) (q : B c fs) : r.go A B := by subst h; exact q
theorem Res.imp {r : Res} {A A' : PV → Prop} {B B' : Nat → List D → Prop} (h1 : ∀ p, A p → A' p) (h2 : ∀ c fs, B c fs → B' c fs) (h : r.go A B) : r.go A' B' := by
  cases r with
  | ok p => exact h1 p h
  | err c fs => exact h2 c fs h
  | bad => exact h
abbrev immL (ds : List D) : List PV := ds.map .imm
def allImm : List PV → Option (List D)
  | [] => some []
  | .imm d :: r => match allImm r with
    | some ds => some (d :: ds)
    | none => none
  | .own _ _ :: _ => none
theorem allImm_imm : ∀ ds : List D, allImm (immL ds) = some ds
  | [] => rfl
  | d :: ds => by show (match allImm (immL ds) with | some ds => some (d :: ds) | none => none) = _; rw [allImm_imm ds]
theorem immL_all : ∀ {ps : List PV} {ds : List D}, allImm ps = some ds → ps = immL ds
  | [], ds, h => by cases h; rfl
  | .imm d :: r, ds, h => by
    unfold allImm at h
    cases q : allImm r with
    | none => rw [q] at h; cases h
    | some es =>
      rw [q] at h
      cases h
      rw [immL_all q]
      rfl
  | .own _ _ :: _, ds, h => by cases h
def fnS (f : List D → Res) : PSp where
  run as Q E := Opt (allImm as) fun ds => (f ds).go (fun p => Q p as) (fun c fs => E c fs as)
  mono as Q Q' E E' h1 h2 h := Opt.imp (fun ds h => Res.imp (fun p => h1 p as) (fun c fs => h2 c fs as) h) h
def SE.of (K : PySem.W.Frag) (T : List (Addr × Str)) (B F : Hp) (vs : List V) : SE := ⟨K, T, B, vs, F⟩
/-- the promise of such a def over the layer -/
def spP (K : PySem.W.Frag) (T : List (Addr × Str)) (S : PSp) : Sp := fun vs H Q E => ∃ B F as, Rel (.of K T B F vs) F H (vs.map some) (as.map some) ∧
  S.run as (fun p bs => ∀ v F' H', Rel (.of K T B F vs) F' H' (vs.map some) (bs.map some) → PVR (.of K T B F vs) F' H' (vs.map some) (bs.map some) v p → Q v H')
    (fun c fs bs => ∀ F' H' d xs, Rel (.of K T B F vs) F' H' (vs.map some) (bs.map some) → F' d = some (.xd xs) → RepF K F' (cflds c) xs fs → E (.ref (He.ga K (cname c))) (some d) H')
/-- the arguments behind: data as they were, objects of the caller's as they are now -/
def argsOf : List PV → PSt → Option (List PV)
  | [], _ => some []
  | .imm d :: r, ρ => match argsOf r ρ.tail with
    | some bs => some (.imm d :: bs)
    | none => none
  | .own true _ :: r, ρ => match ρ.head? with
    | some (some (.own true o)) => match argsOf r ρ.tail with
      | some bs => some (.own true o :: bs)
      | none => none
    | _ => none
  | .own false _ :: _, _ => none
def argsK (as : List PV) (ρ : PSt) (k : List PV → Prop) : Prop := Opt (argsOf as ρ) k
def erA (as : List PV) (E : Nat → List D → List PV → Prop) : ER := fun c fs ρ => argsK as ρ (E c fs)
def endsA (as : List PV) (Q : PV → List PV → Prop) (E : Nat → List D → List PV → Prop) : PEnds where
  nx := fun ρ => argsK as ρ (Q (.imm .non))
  rt := fun p ρ => argsK as ρ (Q p)
  er := erA as E
theorem argsOf_imm : ∀ (ds : List D) (ρ : PSt), argsOf (immL ds) ρ = some (immL ds)
  | [], ρ => rfl
  | d :: ds, ρ => by show (match argsOf (immL ds) ρ.tail with | some bs => some (PV.imm d :: bs) | none => none) = _; rw [argsOf_imm ds]; rfl
theorem argsOf_get : ∀ {as bs : List PV} {ρ : PSt}, argsOf as ρ = some bs → bs.length = as.length ∧ ∀ (i : Nat) (p : PV), bs[i]? = some p → (∃ d, p = PV.imm d ∧ as[i]? = some (PV.imm d)) ∨ ∃ o, p = PV.own true o ∧ ρ[i]? = some (some (PV.own true o))
  | [], bs, ρ, h => by cases h; exact ⟨rfl, fun i p e => by simp at e⟩
  | .imm d :: r, bs, ρ, h => by
    unfold argsOf at h
    cases q : argsOf r ρ.tail with
    | none => rw [q] at h; cases h
    | some cs =>
      rw [q] at h
      cases h
      obtain ⟨h1, h2⟩ := argsOf_get q
      refine ⟨by simp [h1], fun i p e => ?_⟩
      cases i with
      | zero => simp at e; exact .inl ⟨d, e.symm, rfl⟩
      | succ i =>
        rcases h2 i p (by simpa using e) with ⟨d', e1, e2⟩ | ⟨o, e1, e2⟩
        · exact .inl ⟨d', e1, by simpa using e2⟩
        · refine .inr ⟨o, e1, ?_⟩
          cases ρ with
          | nil => simp at e2
          | cons x ρ => simpa using e2
  | .own true o0 :: r, bs, ρ, h => by
    unfold argsOf at h
    cases ρ with
    | nil => cases h
    | cons x ρ =>
      cases x with
      | none => cases h
      | some x =>
        cases x with
        | imm d => cases h
        | own b o =>
          cases b with
          | false => cases h
          | true =>
            have h : (match argsOf r ρ with | some bs => some (PV.own true o :: bs) | none => none) = some bs := h
            cases q : argsOf r ρ with
            | none => rw [q] at h; cases h
            | some cs =>
              rw [q] at h
              cases h
              obtain ⟨h1, h2⟩ := argsOf_get q
              refine ⟨by simp [h1], fun i p e => ?_⟩
              cases i with
              | zero => simp at e; exact .inr ⟨o, e.symm, rfl⟩
              | succ i =>
                rcases h2 i p (by simpa using e) with ⟨d', e1, e2⟩ | ⟨o', e1, e2⟩
                · exact .inl ⟨d', e1, by simpa using e2⟩
                · exact .inr ⟨o', e1, by simpa using e2⟩
  | .own false _ :: _, bs, ρ, h => by cases h
section
variable {Y : SE} {F F' H H' : Hp} {σ : L2.St} {ρ : PSt}
theorem Rel.start (R : Rel Y F H σ ρ) (n : Nat) : Rel Y F H (σ ++ List.replicate n none) (ρ ++ List.replicate n none) := by
  have low : ∀ {i : Nat} {p : PV}, (ρ ++ List.replicate n none)[i]? = some (some p) → i < ρ.length ∧ ρ[i]? = some (some p) := fun {i p} e => by
    by_cases hi : i < ρ.length
    · rw [List.getElem?_append_left hi] at e
      exact ⟨hi, e⟩
    · rw [List.getElem?_append_right (by omega), List.getElem?_replicate] at e
      split at e <;> cases e
  have up : ∀ {i : Nat} {v : Option V}, i < ρ.length → (σ ++ List.replicate n none)[i]? = some v → σ[i]? = some v := fun {i v} hi e => by
    rw [List.getElem?_append_left (by rw [R.len]; exact hi)] at e
    exact e
  refine ⟨R.s0, R.sF, R.nt, R.ntB, R.tabs, R.sB, R.dis, by simp [R.len], fun i d e => ?_, fun i r o e => ?_, fun i j a hij ⟨h1, r, o, h2⟩ ⟨h3, r', o', h4⟩ => ?_⟩
  · obtain ⟨hi, e⟩ := low e
    obtain ⟨v, h1, h2⟩ := R.imm i d e
    exact ⟨v, by rw [List.getElem?_append_left (by rw [R.len]; exact hi)]; exact h1, h2⟩
  · obtain ⟨hi, e⟩ := low e
    obtain ⟨a, h1, h2⟩ := R.own i r o e
    exact ⟨a, by rw [List.getElem?_append_left (by rw [R.len]; exact hi)]; exact h1, h2⟩
  · obtain ⟨hi, h2⟩ := low h2
    obtain ⟨hj, h4⟩ := low h4
    exact R.apart i j a hij ⟨up hi h1, r, o, h2⟩ ⟨up hj h3, r', o', h4⟩
/-- from a body's end to the arguments -/
theorem Rel.fin {as bs : List PV} {F0 H0 : Hp} (R0 : Rel Y F0 H0 (Y.vs0.map some) (as.map some)) (s : Same F0 F) (R : Rel Y F H σ ρ) (e : argsOf as ρ = some bs) : Rel Y F H (Y.vs0.map some) (bs.map some) ∧ ∀ i a, OwnAt (Y.vs0.map some) (bs.map some) i a → OwnAt σ ρ i a := by
  obtain ⟨hl, hg⟩ := argsOf_get e
  have get : ∀ {i : Nat} {p : PV}, (bs.map some)[i]? = some (some p) → bs[i]? = some p := fun {i p} z => by
    rw [List.getElem?_map] at z
    cases q : bs[i]? with
    | none => rw [q] at z; cases z
    | some p' => rw [q] at z; cases z; rfl
  have len0 := R0.len
  simp only [List.length_map] at len0
  have at_ : ∀ i a, OwnAt (Y.vs0.map some) (bs.map some) i a → OwnAt σ ρ i a := fun i a ⟨h1, r, o, h2⟩ => by
    rcases hg i _ (get h2) with ⟨d, z, _⟩ | ⟨o', z, h3⟩
    · cases z
    · cases z
      obtain ⟨b, g1, g2, g3, g4, g5⟩ := R.own i true o h3
      rw [List.getElem?_map, g5 rfl] at h1
      cases h1
      exact ⟨g1, true, o, h3⟩
  refine ⟨⟨R.s0, R.sF, R.nt, R.ntB, R.tabs, R.sB, R.dis, by simp [hl, len0], fun i d z => ?_, fun i r o z => ?_, fun i j a hij h1 h2 => R.apart i j a hij (at_ i a h1) (at_ j a h2)⟩, at_⟩
  · rcases hg i _ (get z) with ⟨d', e1, e2⟩ | ⟨o, e1, _⟩
    · cases e1
      obtain ⟨v, h1, h2⟩ := R0.imm i d (by rw [List.getElem?_map, e2]; rfl)
      exact ⟨v, h1, h2.mono s⟩
    · cases e1
  · rcases hg i _ (get z) with ⟨d', e1, e2⟩ | ⟨o', e1, h3⟩
    · cases e1
    · cases e1
      obtain ⟨b, g1, g2, g3, g4, g5⟩ := R.own i true o h3
      exact ⟨b, by rw [List.getElem?_map, g5 rfl]; rfl, g2, g3, g4, fun _ => g5 rfl⟩
theorem Rel.lessB {B : Hp} (h : Same Y.B B) (R : Rel { Y with B := B } F H σ ρ) : Rel Y F H σ ρ := by
  refine ⟨R.s0, R.sF, R.nt, fun b ps e => R.ntB b ps (h _ _ e), R.tabs, h.trans R.sB, fun a o e => R.dis a o (h _ _ e), R.len, R.imm, fun i r o e => ?_, R.apart⟩
  obtain ⟨a, h1, h2, h3, h4, h5⟩ := R.own i r o e
  exact ⟨a, h1, h2, h.free h3, h4, h5⟩
end
/-- what is wanted of an error reaches the wish E -/
def ErOk (Y : SE) (er : ER) (E : XK) : Prop := ∀ B, Same Y.B B → ∀ F H σ ρ c fs d xs, Rel { Y with B := B } F H σ ρ → er c fs ρ → F d = some (.xd xs) → RepF Y.K F (cflds c) xs fs → E (.ref (He.ga Y.K (cname c))) (some d) H
theorem ErOk.up {Y : SE} {er : ER} {E : XK} (h : ErOk Y er E) {B : Hp} (s : Same Y.B B) : ErOk { Y with B := B } er E := fun B' s' F H σ ρ c fs d xs R => h B' (s.trans s') F H σ ρ c fs d xs R
theorem erNo {Y : SE} {E : XK} : ErOk Y noE E := fun _ _ _ _ _ _ _ _ _ _ _ z => z.elim
section
variable {P : Program} {w : World} {K : PySem.W.Frag} {mg : Str → Option Value} {base : Heap} {T : List (Addr × Str)}
/-- a body's walk from the promise: what stands at the entry, what is asked at the ends -/
theorem body_ok {X : Cx} {S : PSp} {vs : List V} {H : Hp} {Q : VK} {E : XK} {N : List Str} {body : List Stmt} (h : spP K T S vs H Q E)
    (hb : ∀ (Y : SE) (as : List PV) (q : PV → List PV → Prop) (ep : Nat → List D → List PV → Prop), Y.K = K → Y.T = T → as.length = vs.length → S.run as q ep → ErOk Y (erA as ep) E → ∃ t, VSs X Y (erA as ep) body t ∧ t (endsA as q ep) (as.map some ++ List.replicate (N.length - as.length) none)) :
    ∃ t, PSs X body t ∧ t { nx := fun _ H' => Q .non H', rt := Q } (L2.start N vs) H := by
  obtain ⟨B, F, as, R0, hS⟩ := h
  have hl := R0.len
  simp only [List.length_map] at hl
  obtain ⟨t, ht, q⟩ := hb (.of K T B F vs) as _ _ rfl rfl hl.symm hS (fun B' hB F' H' σ ρ c fs d xs R' e hd hr => by
    obtain ⟨bs, e1, q⟩ := Opt.get e
    exact q F' H' d xs (Rel.fin R0 R'.s0 (Rel.lessB hB R') e1).1 hd hr)
  refine ⟨_, ht.pss, F, _, _, ?_, q, rfl, ⟨fun F' H' σ ρ s R q => ?_, fun _ _ _ _ _ _ z => z.elim, fun _ _ _ _ _ _ z => z.elim, fun F' H' σ ρ v p s R r q => ?_⟩⟩
  · have z := R0.start (N.length - vs.length)
    have e : L2.start N vs = vs.map some ++ List.replicate (N.length - as.length) none := by
      unfold L2.start
      rw [hl]
    rw [e]
    rw [hl] at z
    exact z
  · obtain ⟨bs, e1, q⟩ := Opt.get q
    exact q .non F' H' (Rel.fin R0 s R e1).1 .non
  · obtain ⟨bs, e1, q⟩ := Opt.get q
    obtain ⟨R1, at_⟩ := Rel.fin R0 s R e1
    refine q v F' H' R1 ?_
    cases p with
    | imm d => exact r
    | own b o =>
      obtain ⟨a, h1, h2, h3, h4, h5⟩ := r
      exact ⟨a, h1, h2, h3, h4, fun i z => h5 i (at_ i a z)⟩
theorem callP {x qual : Str} {params : Arguments} {body : List Stmt} {scope : Scope} {f : Addr} {N ps : List Str} {k : Nat} {S : PSp} (g : mg x = some (.ref f)) (Fd : ∃ fd, FunD K x qual params body scope [] [] f fd) (Sc : FnScope N ps scope)
    (hb : ∀ (kV doc pm : Value) (an : Option Addr) (cdv ct : Value) (us : List Value), us.length = ps.length → bindArgs (PySem.W.fnOf x qual params body scope .none kV doc pm an cdv ct) ⟨us, []⟩ = pure (ps.zip us))
    (len : ∀ as q ep, S.run as q ep → as.length = ps.length)
    (hbody : ∀ (cdv : Value) (A : Around) (outer : List Env) (s : Shared) (H : Hp) (E : XK) (Y : SE) (as : List PV) (q : PV → List PV → Prop) (ep : Nat → List D → List PV → Prop), Room k (A.deeper (envOfC qual scope s.heap.objs.size f cdv)) → Y.K = K → Y.T = T → S.run as q ep → ErOk Y (erA as ep) E →
      ∃ t, VSs (cxOf (L2.CX P w) P w K mg base N qual scope f cdv A outer s H E) Y (erA as ep) body t ∧ t (endsA as q ep) (as.map some ++ List.replicate (N.length - as.length) none)) : CallOk P w K mg base (k + 1) x ps (spP K T S) :=
  callOk g Fd Sc hb (fun vs H Q E ⟨B, F, as, R, h⟩ => by
    have e := R.len
    simp only [List.length_map] at e
    rw [e]
    exact len _ _ _ h) fun cdv A outer s H vs Q E hr h => body_ok h fun Y as q ep e1 e2 _ hS he => hbody cdv A outer s H E Y as q ep hr e1 e2 hS he
end
/-! ### calls -/
/-- what a callee is not concerned with: all that stands but the known data and the objects handed on -/
def restB (F H : Hp) (ex : List Addr) : Hp := fun b => if (F b).isNone = true ∧ b ∉ ex then noT H b else none
theorem restB_at {F H : Hp} {ex : List Addr} {b : Addr} {o : HO} (h : H b = some o) (n : ∀ ps, o ≠ .tbl ps) (f : F b = none) (x : b ∉ ex) : restB F H ex b = some o := by
  unfold restB
  rw [if_pos ⟨by rw [f]; rfl, x⟩]
  exact noT_at h n
theorem restB_get {F H : Hp} {ex : List Addr} {b : Addr} {o : HO} (h : restB F H ex b = some o) : H b = some o ∧ (∀ ps, o ≠ .tbl ps) ∧ F b = none ∧ b ∉ ex := by
  unfold restB at h
  split at h
  · rename_i c
    refine ⟨noT_same H _ _ h, fun ps z => noT_noT H b ps (by rw [h, z]), ?_, c.2⟩
    cases q : F b with
    | none => rfl
    | some u => rw [q] at c; cases c.1
  · cases h
theorem restB_out {F H : Hp} {ex : List Addr} {b : Addr} (x : b ∈ ex) : restB F H ex b = none := by
  unfold restB
  rw [if_neg fun z => z.2 x]
section
variable {Y : SE} {F F' H H' : Hp} {σ : L2.St} {ρ : PSt} {vs : List V}
/-- ahead of a call with data alone -/
theorem Rel.call (R : Rel Y F H σ ρ) {ds : List D} (r : RepL Y.K F vs ds) : Rel (.of Y.K Y.T (restB F H []) F vs) F H (vs.map some) ((immL ds).map some) := by
  have no : ∀ (i : Nat) (b : Bool) (o : OV), ((immL ds).map some)[i]? ≠ some (some (.own b o)) := fun i b o e => by
    rw [List.getElem?_map, List.getElem?_map] at e
    cases q : ds[i]? with
    | none => rw [q] at e; cases e
    | some d => rw [q] at e; cases e
  refine ⟨Same.refl F, R.sF, R.nt, fun b ps e => (restB_get e).2.1 ps rfl, R.tabs, fun b o e => (restB_get e).1, fun b o e => (restB_get e).2.2.1, by simp [r.length], fun i d e => ?_, fun i b o e => absurd e (no i b o), fun i j a _ ⟨_, b, o, e⟩ => absurd e (no i b o)⟩
  rw [List.getElem?_map, List.getElem?_map] at e
  cases q : ds[i]? with
  | none => rw [q] at e; cases e
  | some d' =>
    rw [q] at e
    cases e
    obtain ⟨v, h1, h2⟩ := r.get q
    exact ⟨v, by rw [List.getElem?_map, h1]; rfl, h2⟩
/-- behind a call: all but the objects handed on stands -/
theorem Rel.back {ex : List Addr} {σ' : L2.St} {ρ' ρ2 : PSt} (R : Rel Y F H σ ρ) (R' : Rel (.of Y.K Y.T (restB F H ex) F vs) F' H' σ' ρ') (hex : ∀ a ∈ ex, Y.B a = none)
    (hl : ρ2.length = ρ.length) (h2 : ∀ (i : Nat) (p : PV), ρ2[i]? = some (some p) → (ρ[i]? = some (some p) ∧ ∀ a, OwnAt σ ρ i a → a ∉ ex) ∨ ∃ r o a, p = .own r o ∧ (∃ o0, ρ[i]? = some (some (.own r o0))) ∧ σ[i]? = some (some (.ref a)) ∧ F' a = none ∧ OwnR Y.K F' H' a o) : Rel Y F' H' σ ρ2 := by
  have sF : Same F F' := R'.s0
  have sB : Same Y.B (restB F H ex) := fun b o e => restB_at (R.sB _ _ e) (fun ps z => R.ntB b ps (by rw [e, z])) (R.dis _ _ e) (fun z => by rw [hex b z] at e; cases e)
  refine ⟨R.s0.trans sF, R'.sF, R'.nt, R.ntB, R'.tabs, sB.trans R'.sB, fun a o e => R'.dis a o (sB _ _ e), by rw [R.len, hl], fun i d e => ?_, fun i r o e => ?_, fun i j a hij ⟨g1, r, o, g2⟩ ⟨g3, r', o', g4⟩ => ?_⟩
  · rcases h2 i _ e with ⟨e1, _⟩ | ⟨r, o, a, z, _⟩
    · obtain ⟨v, g1, g2⟩ := R.imm i d e1
      exact ⟨v, g1, g2.mono sF⟩
    · cases z
  · rcases h2 i _ e with ⟨e1, nx⟩ | ⟨r', o', a, z, ⟨o0, e0⟩, ea, fa, oa⟩
    · obtain ⟨a, g1, g2, g3, g4, g5⟩ := R.own i r o e1
      obtain ⟨u, hu, nu⟩ := g4.at_
      have ba := restB_at hu nu g2 (nx a ⟨g1, r, o, e1⟩)
      have fa := R'.dis _ _ ba
      exact ⟨a, g1, fa, g3, g4.mono sF R'.sF fa (by rw [hu]; exact R'.sB _ _ ba), g5⟩
    · cases z
      obtain ⟨b, g1, g2, g3, g4, g5⟩ := R.own i r o0 e0
      rw [ea] at g1
      cases g1
      exact ⟨a, ea, fa, g3, oa, g5⟩
  · have back : ∀ {i : Nat} {r : Bool} {o : OV}, ρ2[i]? = some (some (.own r o)) → ∃ r o, ρ[i]? = some (some (.own r o)) := fun {i r o} e => by
      rcases h2 i _ e with ⟨e1, _⟩ | ⟨r', o', a, z, ⟨o0, e0⟩, _⟩
      · exact ⟨r, o, e1⟩
      · exact ⟨_, _, e0⟩
    exact R.apart i j a hij ⟨g1, back g2⟩ ⟨g3, back g4⟩
theorem Rel.back0 (R : Rel Y F H σ ρ) {σ' : L2.St} {ρ' : PSt} (R' : Rel (.of Y.K Y.T (restB F H []) F vs) F' H' σ' ρ') : Rel Y F' H' σ ρ :=
  R.back R' (fun _ z => nomatch z) rfl fun i p e => .inl ⟨e, fun a _ z => nomatch z⟩
theorem PVR.back {ex : List Addr} {σ' : L2.St} {ρ' ρ2 : PSt} (R : Rel Y F H σ ρ) (hex : ∀ a ∈ ex, Y.B a = none) {v : V} {p : PV} (R' : Rel (.of Y.K Y.T (restB F H ex) F vs) F' H' σ' ρ') (r : PVR (.of Y.K Y.T (restB F H ex) F vs) F' H' σ' ρ' v p)
    (hown : ∀ i a, OwnAt σ ρ2 i a → OwnAt σ ρ i a) (hx : ∀ a ∈ ex, ∃ i, OwnAt σ' ρ' i a) : PVR Y F' H' σ ρ2 v p := by
  cases p with
  | imm d => exact r
  | own b o =>
    obtain ⟨a, rfl, h1, h2, h3, h4⟩ := r
    have sB : Same Y.B (restB F H ex) := fun b o e => restB_at (R.sB _ _ e) (fun ps z => R.ntB b ps (by rw [e, z])) (R.dis _ _ e) (fun z => by rw [hex b z] at e; cases e)
    refine ⟨a, rfl, h1, sB.free h2, h3, fun i z => ?_⟩
    obtain ⟨g1, r, ov, g2⟩ := hown i a z
    obtain ⟨b, k1, k2, k3, k4, _⟩ := R.own i r ov g2
    rw [g1] at k1
    cases k1
    by_cases hm : a ∈ ex
    · obtain ⟨j, hj⟩ := hx a hm
      exact h4 j hj
    · obtain ⟨u, hu, nu⟩ := k4.at_
      have h2 : restB F H ex a = none := h2
      rw [restB_at hu nu k2 hm] at h2
      cases h2
/-- a call with data alone keeps what it promises -/
theorem call_core {S : PSp} {er : ER} {E : XK} {k : PV → PSt → Prop} {Q : VK} {ds : List D} (R : Rel Y F H σ ρ) (r : RepL Y.K F vs ds) (hE : ErOk Y er E) (h : S.run (immL ds) (fun p _ => k p ρ) (fun c fs _ => er c fs ρ))
    (hk : ∀ p v F' H', Same F F' → Rel Y F' H' σ ρ → PVR Y F' H' σ ρ v p → k p ρ → Q v H') : spP Y.K Y.T S vs H Q E := by
  refine ⟨restB F H [], F, immL ds, R.call r, S.mono _ _ _ _ _ (fun p bs q v F' H' R' pr => ?_) (fun c fs bs q F' H' d xs R' hd hr => ?_) h⟩
  · exact hk p v F' H' R'.s0 (R.back0 R') (PVR.back (ex := []) R (fun _ z => nomatch z) R' pr (fun i a z => z) (fun _ z => nomatch z)) q
  · exact hE Y.B (Same.refl _) F' H' σ ρ c fs d xs (R.back0 R') q hd hr
/-- .. with an object of the name i ahead of the data -/
theorem call_coreR {S : PSp} {er : ER} {E : XK} {k : PV → PSt → Prop} {Q : VK} {ds : List D} {i : Nat} {rr : Bool} {o : OV} {a : Addr} (R : Rel Y F H σ ρ) (e : ρ[i]? = some (some (.own rr o))) (ea : σ[i]? = some (some (.ref a))) (r : RepL Y.K F vs ds) (hE : ErOk Y er E)
    (h : S.run (.own true o :: immL ds) (fun p bs => match bs with
      | .own _ o' :: _ => k p (ρ.set i (some (.own rr o')))
      | _ => False) (fun c fs bs => match bs with
      | .own _ o' :: _ => er c fs (ρ.set i (some (.own rr o')))
      | _ => False))
    (hk : ∀ p v ρ' F' H', Same F F' → Rel Y F' H' σ ρ' → PVR Y F' H' σ ρ' v p → k p ρ' → Q v H') : spP Y.K Y.T S (.ref a :: vs) H Q E := by
  obtain ⟨b, g1, g2, g3, g4, g5⟩ := R.own i rr o e
  rw [ea] at g1
  cases g1
  have hex : ∀ b ∈ [a], Y.B b = none := fun b hb => by rw [List.mem_singleton.mp hb]; exact g3
  have hi : i < ρ.length := (List.getElem?_eq_some_iff.mp e).1
  have R0 : Rel (.of Y.K Y.T (restB F H [a]) F (.ref a :: vs)) F H ((V.ref a :: vs).map some) ((PV.own true o :: immL ds).map some) := by
    have z := R.call r
    have no : ∀ (i : Nat) (b : Bool) (o : OV), ((immL ds).map some)[i]? ≠ some (some (.own b o)) := fun i b o e => by
      rw [List.getElem?_map, List.getElem?_map] at e
      cases q : ds[i]? with
      | none => rw [q] at e; cases e
      | some d => rw [q] at e; cases e
    refine ⟨Same.refl F, R.sF, R.nt, fun b ps e => (restB_get e).2.1 ps rfl, R.tabs, fun b o e => (restB_get e).1, fun b o e => (restB_get e).2.2.1, by simp [r.length], fun i d e => ?_, fun i b o' e => ?_, fun i j b hij ⟨_, r1, o1, e1⟩ ⟨_, r2, o2, e2⟩ => ?_⟩
    · cases i with
      | zero => cases e
      | succ i => exact z.imm i d e
    · cases i with
      | zero =>
        cases e
        exact ⟨a, rfl, g2, restB_out (List.mem_singleton.mpr rfl), g4, fun _ => rfl⟩
      | succ i => exact absurd e (no i b o')
    · cases i with
      | zero =>
        cases j with
        | zero => exact hij rfl
        | succ j => exact absurd e2 (no j r2 o2)
      | succ i => exact absurd e1 (no i r1 o1)
  have set_at : ∀ {o' : OV} {F' H' : Hp} {σ' : L2.St} {bs : List PV}, Rel (.of Y.K Y.T (restB F H [a]) F (.ref a :: vs)) F' H' ((V.ref a :: vs).map some) ((PV.own true o' :: bs).map some) → Rel Y F' H' σ (ρ.set i (some (.own rr o'))) := fun {o' F' H' σ' bs} R' => by
    refine R.back R' hex (by simp) fun j p ej => ?_
    by_cases hj : i = j
    · subst hj
      rw [List.getElem?_set_self hi] at ej
      cases ej
      obtain ⟨b, k1, k2, k3, k4, _⟩ := R'.own 0 true o' rfl
      cases k1
      exact .inr ⟨rr, o', a, rfl, ⟨o, e⟩, ea, k2, k4⟩
    · rw [List.getElem?_set_ne hj] at ej
      refine .inl ⟨ej, fun b ⟨z1, r1, o1, z2⟩ hb => ?_⟩
      rw [List.mem_singleton.mp hb] at z1
      exact R.apart i j a hj ⟨ea, rr, o, e⟩ ⟨z1, r1, o1, z2⟩
  have mk : ∀ {b : Bool} {o' : OV} {F' H' : Hp} {bs : List PV}, Rel (.of Y.K Y.T (restB F H [a]) F (.ref a :: vs)) F' H' ((V.ref a :: vs).map some) ((PV.own b o' :: bs).map some) → Rel (.of Y.K Y.T (restB F H [a]) F (.ref a :: vs)) F' H' ((V.ref a :: vs).map some) ((PV.own true o' :: bs).map some) := fun {b o' F' H' bs} R' => by
    refine ⟨R'.s0, R'.sF, R'.nt, R'.ntB, R'.tabs, R'.sB, R'.dis, R'.len, fun j d ej => ?_, fun j r1 o1 ej => ?_, fun j k c hjk ⟨z1, r1, o1, e1⟩ ⟨z2, r2, o2, e2⟩ => ?_⟩
    · cases j with
      | zero => cases ej
      | succ j => exact R'.imm (j + 1) d ej
    · cases j with
      | zero =>
        cases ej
        obtain ⟨c, k1, k2, k3, k4, _⟩ := R'.own 0 b o' rfl
        exact ⟨c, k1, k2, k3, k4, fun _ => by cases k1; rfl⟩
      | succ j => exact R'.own (j + 1) r1 o1 ej
    · have back : ∀ {j : Nat} {r1 : Bool} {o1 : OV}, ((PV.own true o' :: bs).map some)[j]? = some (some (.own r1 o1)) → ∃ r o, ((PV.own b o' :: bs).map some)[j]? = some (some (.own r o)) := fun {j r1 o1} z => by
        cases j with
        | zero => exact ⟨_, _, rfl⟩
        | succ j => exact ⟨_, _, z⟩
      exact R'.apart j k c hjk ⟨z1, back e1⟩ ⟨z2, back e2⟩
  refine ⟨restB F H [a], F, .own true o :: immL ds, R0, S.mono _ _ _ _ _ (fun p bs q v F' H' R' pr => ?_) (fun c fs bs q F' H' d xs R' hd hr => ?_) h⟩
  · match bs, q, R', pr with
    | .own b o' :: bs, q, R', pr =>
      have R2 := set_at (σ' := σ) (mk R')
      refine hk p v _ F' H' R'.s0 R2 (PVR.back R hex R' pr (fun j c ⟨z1, r1, o1, z2⟩ => ?_) fun c hc => ⟨0, by rw [List.mem_singleton.mp hc]; rfl, _, _, rfl⟩) q
      by_cases hj : i = j
      · subst hj
        exact ⟨z1, rr, o, e⟩
      · rw [List.getElem?_set_ne hj] at z2
        exact ⟨z1, r1, o1, z2⟩
  · match bs, q, R' with
    | .own b o' :: bs, q, R' => exact hE Y.B (Same.refl _) F' H' σ _ c fs d xs (set_at (σ' := σ) (mk R')) q hd hr
end
section
variable {X : Cx} {Y : SE} {er : ER} {E : XK} {k i : Nat} {x m : Str} {ps : List Str} {S : PSp} {p pos apos : Pos} {e o : Expr} {es : List Expr} {t : VA}
/-- f(..), the arguments data -/
def vCall (S : PSp) (t : VA) : VO := fun er ρ k => t er ρ fun ds ρ1 => S.run (immL ds) (fun p _ => k p ρ1) (fun c fs _ => er c fs ρ1)
/-- slot i holds an object -/
def hasO (ρ : PSt) (i : Nat) (k : Prop) : Prop := match ρ[i]? with
  | some (some (.own _ _)) => k
  | _ => False
theorem hasO.get {ρ : PSt} {i : Nat} {k : Prop} (h : hasO ρ i k) : (∃ r o, ρ[i]? = some (some (.own r o))) ∧ k := by
  unfold hasO at h
  split at h
  · exact ⟨⟨_, _, by assumption⟩, h⟩
  · exact h.elim
theorem hasO.imp {ρ : PSt} {i : Nat} {k k' : Prop} (f : k → k') (h : hasO ρ i k) : hasO ρ i k' := by
  obtain ⟨⟨r, o, e⟩, h⟩ := h.get
  unfold hasO
  rw [e]
  exact f h
def vCallR (i : Nat) (S : PSp) (t : VA) : VO := fun er ρ k => hasO ρ i <| t er ρ fun ds ρ1 => match ρ1[i]? with
  | some (some (.own r o)) => S.run (.own true o :: immL ds) (fun p bs => match bs with
      | .own _ o' :: _ => k p (ρ1.set i (some (.own r o')))
      | _ => False) (fun c fs bs => match bs with
      | .own _ o' :: _ => er c fs (ρ1.set i (some (.own r o')))
      | _ => False)
  | _ => False
theorem call_mono {es : List Expr} (ha : VAs X Y er es t) : ∀ ρ k k', (∀ p ρ, k p ρ → k' p ρ) → vCall S t er ρ k → vCall S t er ρ k' :=
  fun ρ k k' hk q => ha.mono _ _ _ (fun ds ρ1 q => S.mono _ _ _ _ _ (fun p _ => hk p ρ1) (fun _ _ _ z => z) q) q
theorem callR_mono {es : List Expr} (ha : VAs X Y er es t) : ∀ ρ k k', (∀ p ρ, k p ρ → k' p ρ) → vCallR i S t er ρ k → vCallR i S t er ρ k' := fun ρ k k' hk q => hasO.imp (fun q => ha.mono _ _ _ (fun ds ρ1 q => by
  split at q
  · exact S.mono _ _ _ _ _ (fun p bs z => by
      split at z
      · exact hk _ _ z
      · exact z.elim) (fun _ _ _ z => z) q
  · exact q.elim) q) q
theorem veo_call (C : CallOk X.prog X.w X.K X.mg X.base k x ps (spP Y.K Y.T S)) (hE : ErOk Y er E) (hr : Room k X.A) (hx : Passes (L2.CX X.prog X.w) X E) (ha : VAs X Y er (e :: es) t) (hg : Gl X x := by rfl)
    (hdb : (x == ("__debug__" : Str)) = false := by decide) (he : starEach (e :: es) X.env = (false, eval e X.env) :: starEach es X.env := by rfl) (hpl : (backTo pos (starEach es X.env)).any (·.1) = false := by rfl) :
    VEO X Y er (.Call (.Name x p) (e :: es) [] pos) (vCall S t) := by
  refine ⟨PE.of (pe_callD C hr hx ha.pa hg hdb he hpl) fun σ H Q ⟨F, ρ, R, q⟩ => ?_, call_mono ha⟩
  refine ⟨F, ρ, R, ha.mono _ _ _ (fun ds ρ1 q vs F1 H1 s1 R1 r1 => ?_) q⟩
  show spP Y.K Y.T S (vs ++ []) H1 Q E
  rw [List.append_nil]
  exact call_core (k := fun p ρ' => ∀ v F' H', Same F F' → Rel Y F' H' σ ρ' → PVR Y F' H' σ ρ' v p → Q v H') R1 r1 hE q fun p v F' H' s2 R2 r2 q => q v F' H' (s1.trans s2) R2 r2
theorem veo_call0 (C : CallOk X.prog X.w X.K X.mg X.base k x ps (spP Y.K Y.T S)) (hE : ErOk Y er E) (hr : Room k X.A) (hx : Passes (L2.CX X.prog X.w) X E) (hg : Gl X x := by rfl)
    (hdb : (x == ("__debug__" : Str)) = false := by decide) : VEO X Y er (.Call (.Name x p) [] [] pos) (vCall S vNil) := by
  refine ⟨PE.of (pe_callD0 C hr hx hg hdb) fun σ H Q ⟨F, ρ, R, q⟩ => ?_, call_mono (X := X) (Y := Y) va_nil⟩
  exact call_core (k := fun p ρ' => ∀ v F' H', Same F F' → Rel Y F' H' σ ρ' → PVR Y F' H' σ ρ' v p → Q v H') R .nil hE q fun p v F' H' s2 R2 r2 q => q v F' H' s2 R2 r2
theorem veo_callR {n : Str} {pn : Pos} (hN : X.N[i]? = some n) (hv : Vis X.env.scope n) (C : CallOk X.prog X.w X.K X.mg X.base k x ps (spP Y.K Y.T S)) (hE : ErOk Y er E) (hr : Room k X.A) (hx : Passes (L2.CX X.prog X.w) X E) (ha : VAs X Y er es t) (hg : Gl X x := by rfl)
    (hdn : (n == ("__debug__" : Str)) = false := by decide) (hcd : (n == ("__classdict__" : Str)) = false := by decide)
    (hdb : (x == ("__debug__" : Str)) = false := by decide) (he : starEach (.Name n pn :: es) X.env = (false, eval (.Name n pn) X.env) :: starEach es X.env := by rfl) (hpl : (backTo pos (starEach es X.env)).any (·.1) = false := by rfl) :
    VEO X Y er (.Call (.Name x p) (.Name n pn :: es) [] pos) (vCallR i S t) := by
  refine ⟨PE.of (pe_callD C hr hx (pa_cons (pe_var hN hv hdn hcd) ha.pa) hg hdb he hpl) fun σ H Q ⟨F, ρ, R, q⟩ => ?_, callR_mono ha⟩
  obtain ⟨⟨r0, o0, e0⟩, q⟩ := q.get
  obtain ⟨a, ea, _⟩ := R.own i r0 o0 e0
  refine ⟨.ref a, ea, F, ρ, R, ha.mono _ _ _ (fun ds ρ1 q vs F1 H1 s1 R1 r1 => ?_) q⟩
  split at q
  · rename_i rr o e
    show spP Y.K Y.T S ((V.ref a :: vs) ++ []) H1 Q E
    rw [List.append_nil]
    exact call_coreR (k := fun p ρ' => ∀ v F' H', Same F F' → Rel Y F' H' σ ρ' → PVR Y F' H' σ ρ' v p → Q v H') R1 e ea r1 hE q fun p v ρ' F' H' s2 R2 r2 q => q v F' H' (s1.trans s2) R2 r2
  · exact q.elim
end
end PL

end
section
set_option maxHeartbeats 1000000
/-! The pure layer, fifth part: operators. -/
namespace PL
open PySem PySem.Spec PyProof.Rows L2 SBX SB LamX
theorem or_op {X : Cx} {f : Value → Value → Sem Value} {r r' : R2} (h : OpR X f r) (h' : OpR X f r') : OpR X f (fun x y H Q => r x y H Q ∨ r' x y H Q) := by
  intro pins s σ H x y v u Q I rx ry q
  rcases q with q | q
  · exact h pins s σ H x y v u Q I rx ry q
  · exact h' pins s σ H x y v u Q I rx ry q
theorem tx_len (l : List Nat) : (tx l).length = l.length := by simp [Str.length]
theorem tx_inj {l m : List Nat} : tx l = tx m ↔ l = m := by
  constructor
  · intro h
    have := congrArg (fun z : Str => z.cps.toList) h
    simpa using this
  · rintro rfl; rfl
theorem tx_add (l m : List Nat) : tx l ++ tx m = tx (l ++ m) := by
  show (⟨l.toArray ++ m.toArray⟩ : Str) = _
  simp
theorem cps_app {l m : List Nat} (h1 : Cps l) (h2 : Cps m) : Cps (l ++ m) := fun c hc => by
  rcases List.mem_append.mp hc with h | h
  · exact h1 c h
  · exact h2 c h
/-! ### arithmetic -/
def gInt (C : Int → Int → Prop) (g : Int → Int → D) : GD := fun x y k => match x, y with
  | .int i, .int j => C i j ∧ k (g i j)
  | _, _ => False
def gInt0 (g : Int → Int → D) : GD := fun x y k => match x, y with
  | .int i, .int j => k (g i j)
  | _, _ => False
section
variable {X : Cx} {Y : SE}
theorem gop_int {f : Value → Value → Sem Value} {C : Int → Int → Prop} {g : Int → Int → Int} (h : OpR X f (rI C fun i j => .int (g i j))) : GOp X Y f (gInt C fun i j => .int (g i j)) := by
  refine ⟨⟨_, h, fun F H σ ρ x y d1 d2 k Q R r1 r2 q hk => ?_⟩, fun d1 d2 k k' hk q => ?_⟩
  · cases r1 <;> first | exact q.elim | skip
    cases r2 <;> first | exact q.elim | skip
    exact ⟨_, _, rfl, rfl, q.1, hk _ F H _ (Same.refl F) R (.int _) q.2⟩
  · cases d1 <;> first | exact q.elim | skip
    cases d2 <;> first | exact q.elim | skip
    exact ⟨q.1, hk _ q.2⟩
theorem gop_int0 {f : Value → Value → Sem Value} {g : Int → Int → Int} (h : OpR X f (rI0 fun i j => .int (g i j))) : GOp X Y f (gInt0 fun i j => .int (g i j)) := by
  refine ⟨⟨_, h, fun F H σ ρ x y d1 d2 k Q R r1 r2 q hk => ?_⟩, fun d1 d2 k k' hk q => ?_⟩
  · cases r1 <;> first | exact q.elim | skip
    cases r2 <;> first | exact q.elim | skip
    exact ⟨_, _, rfl, rfl, hk _ F H _ (Same.refl F) R (.int _) q⟩
  · cases d1 <;> first | exact q.elim | skip
    cases d2 <;> first | exact q.elim | skip
    exact hk _ q
theorem g_sub : GOp X Y (binaryOp .Sub) (gInt0 fun i j => .int (i - j)) := gop_int0 op_sub
theorem g_fdiv : GOp X Y (binaryOp .FloorDiv) (gInt CDiv fun i j => .int (i / j)) := gop_int op_fdiv
theorem g_fdivW : GOp X Y (binaryOp .FloorDiv) (gInt CDivW fun i j => .int (i / j)) := gop_int op_fdivW
theorem g_mod : GOp X Y (binaryOp .Mod) (gInt (fun _ j => 0 < j) fun i j => .int (i % j)) := gop_int op_mod
theorem g_pow : GOp X Y (binaryOp .Pow) (gInt CPow fun i j => .int (i ^ j.toNat)) := gop_int op_pow
theorem g_mulI : GOp X Y (binaryOp .Mult) (gInt CMul fun i j => .int (i * j)) := gop_int op_mul
theorem g_mulW : GOp X Y (binaryOp .Mult) (gInt CMulW fun i j => .int (i * j)) := gop_int op_mulW
/-- + of ints, of texts, of lists, of tuples -/
def gAdd : GD := fun x y k => match x, y with
  | .int i, .int j => k (.int (i + j))
  | .str l, .str m => l.length + m.length ≤ 16777216 ∧ k (.str (l ++ m))
  | .lst xs, .lst ys => xs.length + ys.length ≤ 16777216 ∧ k (.lst (xs ++ ys))
  | .tup xs, .tup ys => xs ≠ [] ∧ xs.length + ys.length ≤ 16777216 ∧ k (.tup (xs ++ ys))
  | .int i, .bl b => k (.int (i + b2i b))
  | _, _ => False
theorem g_add (hK : X.K = Y.K := by rfl) : GOp X Y (binaryOp .Add) gAdd := by
  refine ⟨⟨_, or_op op_add (or_op op_add_str (or_op op_cat (or_op op_catT op_add_ib))), fun F H σ ρ x y d1 d2 k Q R r1 r2 q hk => ?_⟩, fun d1 d2 k k' hk q => ?_⟩
  · cases r1 <;> first | exact q.elim | skip
    all_goals (cases r2 <;> first | exact q.elim | skip)
    case int.int i j => exact .inl ⟨_, _, rfl, rfl, hk _ F H _ (Same.refl F) R (.int _) q⟩
    case int.bl i b => exact .inr (.inr (.inr (.inr ⟨_, _, rfl, rfl, hk _ F H _ (Same.refl F) R (.int _) q⟩)))
    case str.str l h1 m h2 =>
      refine .inr (.inl ⟨_, _, rfl, rfl, by rw [tx_len, tx_len, sizeLine_eq]; exact q.1, ?_⟩)
      rw [tx_add]
      exact hk _ F H _ (Same.refl F) R (.str _ (cps_app h1 h2)) q.2
    case lst.lst a vs ds h r b us es h' r' =>
      refine .inr (.inr (.inl ⟨_, _, _, _, rfl, rfl, R.sF _ _ h, R.sF _ _ h', by rw [r.length, r'.length, sizeLine_eq]; exact q.1, fun p hp => ?_⟩))
      obtain ⟨R2, s2⟩ := R.new (o := .lst (vs ++ us)) hp (fun _ z => nomatch z)
      exact hk _ _ _ _ s2 R2 (.lst upd_same ((r.append r').mono s2)) q.2
    case tup.tup a vs ds h r b us es h' r' =>
      refine .inr (.inr (.inr (.inl ⟨_, _, _, _, rfl, rfl, hK ▸ sqT_same R.sF h, hK ▸ sqT_same R.sF h', ?_, by rw [r.length, r'.length, sizeLine_eq]; exact q.2.1, fun e => ?_, fun e p hp => ?_⟩)))
      · rintro rfl
        cases r
        exact q.1 rfl
      · subst e
        cases r'
        refine hk _ F H _ (Same.refl F) R (.tup h r) ?_
        have := q.2.2
        rw [List.append_nil] at this
        exact this
      · obtain ⟨R2, s2⟩ := R.new (o := .tup (vs ++ us)) hp (fun _ z => nomatch z)
        exact hk _ _ _ _ s2 R2 (.tup (.of upd_same) ((r.append r').mono s2)) q.2.2
  · cases d1 <;> first | exact q.elim | skip
    all_goals (cases d2 <;> first | exact q.elim | skip)
    all_goals first
      | exact hk _ q
      | exact ⟨q.1, hk _ q.2⟩
      | exact ⟨q.1, q.2.1, hk _ q.2.2⟩
/-! ### comparisons of ints and texts -/
def gCmp (p : Int → Int → Bool) (t : List Nat → List Nat → Bool) : GD := fun x y k => match x, y with
  | .int i, .int j => k (.bl (p i j))
  | .str l, .str m => k (.bl (t l m))
  | _, _ => False
theorem gop_cmp {f : Value → Value → Sem Value} {p : Int → Int → Bool} {t : List Nat → List Nat → Bool} (h : OpR X f (rI0 fun i j => .bl (p i j))) (h2 : OpR X f (fun x y H Q => ∃ i j, x = .str i ∧ y = .str j ∧ Q (.bl (t i.cps.toList j.cps.toList)) H)) : GOp X Y f (gCmp p t) := by
  refine ⟨⟨_, or_op h h2, fun F H σ ρ x y d1 d2 k Q R r1 r2 q hk => ?_⟩, fun d1 d2 k k' hk q => ?_⟩
  · cases r1 <;> first | exact q.elim | skip
    all_goals (cases r2 <;> first | exact q.elim | skip)
    · exact .inl ⟨_, _, rfl, rfl, hk _ F H _ (Same.refl F) R (.bl _) q⟩
    · exact .inr ⟨_, _, rfl, rfl, hk _ F H _ (Same.refl F) R (.bl _) q⟩
  · cases d1 <;> first | exact q.elim | skip
    all_goals (cases d2 <;> first | exact q.elim | exact hk _ q)
theorem g_lt : GOp X Y (compareOp .Lt) (gCmp (fun i j => decide (i < j)) (fun l m => decide (l < m))) := gop_cmp op_lt op_lt_str
theorem g_le : GOp X Y (compareOp .LtE) (gCmp (fun i j => decide (i ≤ j)) (fun l m => !decide (m < l))) := gop_cmp op_le op_le_str
theorem g_gt : GOp X Y (compareOp .Gt) (gCmp (fun i j => decide (j < i)) (fun l m => decide (m < l))) := gop_cmp op_gt op_gt_str
theorem g_ge : GOp X Y (compareOp .GtE) (gCmp (fun i j => decide (j ≤ i)) (fun l m => !decide (l < m))) := gop_cmp op_ge op_ge_str
/-! ### equality of plain data -/
mutual
def toPy : D → PyData
  | .non => .none
  | .bl b => .bool b
  | .int i => .int i
  | .str l => .str (tx l)
  | .lst xs => .list (toPyL xs)
  | .tup xs => .tuple (toPyL xs)
  | _ => .none
def toPyL : List D → List PyData
  | [] => []
  | x :: xs => toPy x :: toPyL xs
end
mutual
/-- none, truths, ints, texts, and lists and tuples of such -/
def plD : D → Bool
  | .non => true | .bl _ => true | .int _ => true | .str _ => true
  | .lst xs => plL xs
  | .tup xs => plL xs
  | _ => false
def plL : List D → Bool
  | [] => true
  | x :: xs => plD x && plL xs
end
mutual
theorem Rep.dp {K : PySem.W.Frag} {F H : Hp} (s : Same F H) {v : V} {d : D} : Rep K F v d → plD d = true → Dp K H v (toPy d) ∧ PyData.canLay0 (toPy d) = true
  | .non, _ => ⟨.non, rfl⟩
  | .bl b, _ => ⟨.bl b, rfl⟩
  | .int i, _ => ⟨.int i, rfl⟩
  | .str l h, _ => ⟨.str _, by
      show PyData.strOk (tx l) = true
      unfold PyData.strOk
      unfold Cps at h
      simpa using h⟩
  | .lst h r, p => ⟨.lst (.of (s _ _ h)) (RepL.dp s r p).1, (RepL.dp s r p).2⟩
  | .tup h r, p => ⟨.tup (sqT_same s h) (RepL.dp s r p).1, (RepL.dp s r p).2⟩
  | .dK _ _, p => nomatch p
  | .dT _ _, p => nomatch p
  | .ins _ _, p => nomatch p
  | .insS _ _ _, p => nomatch p
  | .exc _ _ _, p => nomatch p
  | .cls _, p => nomatch p
  | .ty _, p => nomatch p
theorem RepL.dp {K : PySem.W.Frag} {F H : Hp} (s : Same F H) {vs : List V} {ds : List D} : RepL K F vs ds → plL ds = true → DpAll K H vs (toPyL ds) ∧ PyData.canLayAll0 (toPyL ds) = true
  | .nil, _ => ⟨.nil, rfl⟩
  | .cons h t, p => by
    obtain ⟨p1, p2⟩ := Bool.and_eq_true_iff.mp p
    exact ⟨.cons (Rep.dp s h p1).1 (RepL.dp s t p2).1, by
      show (PyData.canLay0 _ && PyData.canLayAll0 _) = true
      rw [(Rep.dp s h p1).2, (RepL.dp s t p2).2]
      rfl⟩
end
/-- how deep data nest -/
def depD (d : D) : Nat := (toPy d).depth
def eqD (x y : D) : Bool := PyData.eqv (toPy x) (toPy y)
def okEq (x y : D) : Prop := plD x = true ∧ plD y = true ∧ depD x ≤ 64 ∧ depD y ≤ 64
def ng (neg b : Bool) : Bool := match neg with
  | true => !b
  | false => b
/-- == -/
def gEqB (neg : Bool) : GD := fun x y k => match x, y with
  | .int i, .int j => k (.bl (ng neg (decide (i = j))))
  | .str l, .str m => k (.bl (ng neg (decide (l = m))))
  | .bl a, .bl b => k (.bl (ng neg (decide (a = b))))
  | .int _, .str _ => k (.bl (ng neg false))
  | .str _, .int _ => k (.bl (ng neg false))
  | .non, .non => k (.bl (ng neg true))
  | .non, .int _ => k (.bl (ng neg false))
  | .non, .str _ => k (.bl (ng neg false))
  | .non, .bl _ => k (.bl (ng neg false))
  | .int _, .non => k (.bl (ng neg false))
  | .str _, .non => k (.bl (ng neg false))
  | .bl _, .non => k (.bl (ng neg false))
  | x, y => okEq x y ∧ k (.bl (ng neg (eqD x y)))
theorem dec_dir {α : Type} [DecidableEq α] {a b : α} {x y : V} (h : x = y ↔ a = b) : decide (x = y) = decide (a = b) := by
  by_cases e : a = b
  · rw [decide_eq_true e, decide_eq_true (h.mpr e)]
  · rw [decide_eq_false e, decide_eq_false (fun z => e (h.mp z))]
theorem g_eqB {op : CmpOp} {neg : Bool} (hK : X.K = Y.K) (h1 : OpR X (compareOp op) (fun x y H Q => scal x y = true ∧ Q (.bl (ng neg (decide (x = y)))) H))
    (h2 : OpR X (compareOp op) (fun x y H Q => ∃ d e, Dp X.K H x d ∧ Dp X.K H y e ∧ SeqAt.shaped d = true ∧ SeqAt.shaped e = true ∧ Q (.bl (ng neg (PyData.eqv d e))) H)) : GOp X Y (compareOp op) (gEqB neg) := by
  refine ⟨⟨_, or_op h1 h2, fun F H σ ρ x y d1 d2 k Q R r1 r2 q hk => ?_⟩, fun d1 d2 k k' hk q => ?_⟩
  · have sc : ∀ {b : Bool}, scal x y = true → decide (x = y) = b → k (.bl (ng neg b)) → (fun (x y : V) (H : Hp) (Q : VK) => (scal x y = true ∧ Q (.bl (ng neg (decide (x = y)))) H) ∨ ∃ d e, Dp X.K H x d ∧ Dp X.K H y e ∧ SeqAt.shaped d = true ∧ SeqAt.shaped e = true ∧ Q (.bl (ng neg (PyData.eqv d e))) H) x y H Q := fun {b} h e q => by
      refine .inl ⟨h, ?_⟩
      rw [e]
      exact hk _ F H _ (Same.refl F) R (.bl _) q
    have gen : okEq d1 d2 ∧ k (.bl (ng neg (eqD d1 d2))) → (fun (x y : V) (H : Hp) (Q : VK) => (scal x y = true ∧ Q (.bl (ng neg (decide (x = y)))) H) ∨ ∃ d e, Dp X.K H x d ∧ Dp X.K H y e ∧ SeqAt.shaped d = true ∧ SeqAt.shaped e = true ∧ Q (.bl (ng neg (PyData.eqv d e))) H) x y H Q := fun ⟨⟨p1, p2, e1, e2⟩, q⟩ => by
      refine .inr ⟨_, _, hK ▸ (Rep.dp R.sF r1 p1).1, hK ▸ (Rep.dp R.sF r2 p2).1, ?_, ?_, hk _ F H _ (Same.refl F) R (.bl _) q⟩
      · unfold SeqAt.shaped; rw [(Rep.dp R.sF r1 p1).2]; exact decide_eq_true e1
      · unfold SeqAt.shaped; rw [(Rep.dp R.sF r2 p2).2]; exact decide_eq_true e2
    cases r1
    case int i =>
      cases r2
      case int j => exact sc rfl (dec_dir (by simp)) q
      case str l hl => exact sc rfl rfl q
      case non => exact sc rfl rfl q
      all_goals exact gen q
    case str l hl =>
      cases r2
      case str m hm => exact sc rfl (dec_dir ⟨fun z => by have z := V.str.inj z; exact tx_inj.mp z, fun z => by rw [z]⟩) q
      case int j => exact sc rfl rfl q
      case non => exact sc rfl rfl q
      all_goals exact gen q
    case bl a =>
      cases r2
      case bl b => exact sc rfl (dec_dir (by simp)) q
      case non => exact sc rfl rfl q
      all_goals exact gen q
    case non =>
      cases r2
      case non => exact sc rfl rfl q
      case int j => exact sc rfl rfl q
      case str m hm => exact sc rfl rfl q
      case bl b => exact sc rfl rfl q
      all_goals exact gen q
    all_goals (cases r2 <;> exact gen q)
  · cases d1 <;> cases d2 <;> first
      | exact hk _ q
      | exact ⟨q.1, hk _ q.2⟩
abbrev gEq : GD := gEqB false
abbrev gNe : GD := gEqB true
theorem g_eq (hu : X.A.units + 64 < cLine) (hK : X.K = Y.K := by rfl) : GOp X Y (compareOp .Eq) gEq := by
  refine g_eqB hK (fun pins s σ H x y v u Q I rx ry q => op_eq pins s σ H x y v u Q I rx ry q) (fun pins s σ H x y v u Q I rx ry q => op_eqD hu pins s σ H x y v u Q I rx ry q)
theorem g_ne (hu : X.A.units + 64 < cLine) (hK : X.K = Y.K := by rfl) : GOp X Y (compareOp .NotEq) gNe := by
  refine g_eqB hK (fun pins s σ H x y v u Q I rx ry q => op_ne pins s σ H x y v u Q I rx ry q) (fun pins s σ H x y v u Q I rx ry q => op_neD hu pins s σ H x y v u Q I rx ry q)
/-! ### is -/
def isNon : D → Bool
  | .non => true
  | _ => false
def gIs (neg : Bool) : GD := fun x y k => match y with
  | .non => k (.bl (ng neg (isNon x)))
  | .bl b => match x with
    | .bl a => k (.bl (ng neg (decide (a = b))))
    | .int _ => k (.bl (ng neg false))
    | _ => False
  | _ => False
theorem rep_non {K : PySem.W.Frag} {F : Hp} {x : V} {d : D} (r : Rep K F x d) : decide (x = .non) = isNon d := by
  cases r <;> rfl
theorem g_is : GOp X Y (compareOp .Is) (gIs false) := by
  refine ⟨⟨_, or_op op_isN (or_op op_isBl op_isFalse), fun F H σ ρ x y d1 d2 k Q R r1 r2 q hk => ?_⟩, fun d1 d2 k k' hk q => ?_⟩
  · cases r2 <;> first | exact q.elim | skip
    · refine .inl ⟨rfl, ?_⟩
      rw [rep_non r1]
      exact hk _ F H _ (Same.refl F) R (.bl _) q
    · cases r1 <;> first | exact q.elim | skip
      · exact .inr (.inl ⟨_, _, rfl, rfl, hk _ F H _ (Same.refl F) R (.bl _) q⟩)
      · exact .inr (.inr ⟨_, _, rfl, rfl, hk _ F H _ (Same.refl F) R (.bl _) q⟩)
  · cases d2 <;> first | exact q.elim | exact hk _ q | skip
    cases d1 <;> first | exact q.elim | exact hk _ q
theorem g_isnot : GOp X Y (compareOp .IsNot) (gIs true) := by
  refine ⟨⟨_, or_op op_notN (or_op op_notBl op_notFalse), fun F H σ ρ x y d1 d2 k Q R r1 r2 q hk => ?_⟩, fun d1 d2 k k' hk q => ?_⟩
  · cases r2 <;> first | exact q.elim | skip
    · refine .inl ⟨rfl, ?_⟩
      rw [rep_non r1]
      exact hk _ F H _ (Same.refl F) R (.bl _) q
    · cases r1 <;> first | exact q.elim | skip
      · exact .inr (.inl ⟨_, _, rfl, rfl, hk _ F H _ (Same.refl F) R (.bl _) q⟩)
      · exact .inr (.inr ⟨_, _, rfl, rfl, hk _ F H _ (Same.refl F) R (.bl _) q⟩)
  · cases d2 <;> first | exact q.elim | exact hk _ q | skip
    cases d1 <;> first | exact q.elim | exact hk _ q
/-! ### in -/
def flatD : D → Bool
  | .non => true | .bl _ => true | .int _ => true | .str _ => true | _ => false
def eqF : D → D → Bool
  | .non, .non => true
  | .bl a, .bl b => a == b
  | .bl a, .int b => (if a then 1 else 0) == b
  | .int a, .bl b => a == (if b then 1 else 0)
  | .int a, .int b => a == b
  | .str a, .str b => a == b
  | _, _ => false
def inD (x : D) (xs : List D) : Bool := xs.any fun y => eqF y x
theorem flat_rep {K : PySem.W.Frag} {F : Hp} {x : V} {d : D} (r : Rep K F x d) : flatV x = flatD d := by
  cases r <;> rfl
theorem eq_rep {K : PySem.W.Frag} {F : Hp} {x y : V} {d e : D} (r : Rep K F x d) (q : Rep K F y e) : eqV x y = eqF d e := by
  cases r <;> cases q <;> first
    | rfl
    | (show (tx _ == tx _) = (_ == _)
       rw [Bool.eq_iff_iff]
       simp only [beq_iff_eq]
       exact tx_inj)
theorem all_flat {K : PySem.W.Frag} {F : Hp} {vs : List V} {ds : List D} (r : RepL K F vs ds) : vs.all flatV = ds.all flatD := by
  induction ds generalizing vs with
  | nil => cases r; rfl
  | cons d ds ih => cases r with | cons h t => rw [List.all_cons, List.all_cons, flat_rep h, ih t]
theorem in_rep {K : PySem.W.Frag} {F : Hp} {x : V} {d : D} (r : Rep K F x d) {vs : List V} {ds : List D} (q : RepL K F vs ds) : inV x vs = inD d ds := by
  unfold inV inD
  induction ds generalizing vs with
  | nil => cases q; rfl
  | cons e ds ih => cases q with | cons h t => rw [List.any_cons, List.any_cons, eq_rep h r, ih t]
def gInB (neg : Bool) : GD := fun x y k => match y with
  | .lst ys => flatD x = true ∧ ys.all flatD = true ∧ k (.bl (ng neg (inD x ys)))
  | .tup ys => flatD x = true ∧ ys.all flatD = true ∧ k (.bl (ng neg (inD x ys)))
  | .str l => match x with
    | .str m => match m with
      | [c] => k (.bl (ng neg (decide (c ∈ l))))
      | _ => False
    | _ => False
  | _ => False
theorem g_inB {op : CmpOp} {neg : Bool} (hK : X.K = Y.K) (h1 : OpR X (compareOp op) (rIn X.K neg)) (h2 : OpR X (compareOp op) (fun x y H Q => ∃ (c : Nat) (z : Str), x = .str ⟨#[c]⟩ ∧ y = .str z ∧ Q (.bl (ng neg (decide (c ∈ z.cps.toList)))) H)) : GOp X Y (compareOp op) (gInB neg) := by
  refine ⟨⟨_, or_op h1 h2, fun F H σ ρ x y d1 d2 k Q R r1 r2 q hk => ?_⟩, fun d1 d2 k k' hk q => ?_⟩
  · have fin : ∀ b : Bool, (if neg = true then !b else b) = ng neg b := fun b => by cases neg <;> cases b <;> rfl
    cases r2 <;> first | exact q.elim | skip
    case str l hl =>
      cases r1 <;> first | exact q.elim | skip
      case str m hm =>
        match m, hm, q with
        | [], hm, q => exact q.elim
        | c :: c' :: r, hm, q => exact q.elim
        | [c], hm, q => exact .inr ⟨c, tx l, rfl, rfl, hk _ F H _ (Same.refl F) R (.bl _) (show k (.bl (ng neg (decide (c ∈ (tx l).cps.toList)))) from by rw [show (tx l).cps.toList = l from rfl]; exact q)⟩
    case lst a vs ds h r =>
      refine .inl ⟨a, vs, rfl, .inl (.of (R.sF _ _ h)), by rw [flat_rep r1]; exact q.1, by rw [all_flat r]; exact q.2.1, ?_⟩
      rw [fin, in_rep r1 r]
      exact hk _ F H _ (Same.refl F) R (.bl _) q.2.2
    case tup a vs ds h r =>
      refine .inl ⟨a, vs, rfl, .inr (hK ▸ sqT_same R.sF h), by rw [flat_rep r1]; exact q.1, by rw [all_flat r]; exact q.2.1, ?_⟩
      rw [fin, in_rep r1 r]
      exact hk _ F H _ (Same.refl F) R (.bl _) q.2.2
  · cases d2 <;> first | exact q.elim | exact ⟨q.1, q.2.1, hk _ q.2.2⟩ | skip
    case str l =>
      cases d1 <;> first | exact q.elim | skip
      case str m =>
        match m, q with
        | [], q => exact q.elim
        | c :: c' :: r, q => exact q.elim
        | [c], q => exact hk _ q
theorem g_in (hK : X.K = Y.K := by rfl) : GOp X Y (compareOp .In) (gInB false) := g_inB hK op_in_seq fun pins s σ H x y v u Q I rx ry q => op_in_sign pins s σ H x y v u Q I rx ry q
theorem g_notin (hK : X.K = Y.K := by rfl) : GOp X Y (compareOp .NotIn) (gInB true) := g_inB hK op_notIn_seq fun pins s σ H x y v u Q I rx ry q => op_notIn_sign pins s σ H x y v u Q I rx ry q
/-! ### one-place operators, chains -/
def vNeg (t : VT) : VT := fun er ρ k => t er ρ fun d ρ' => match d with
  | .int i => k (.int (-i)) ρ'
  | _ => False
variable {er : ER} {pos : Pos} {a b c : Expr} {ta tb tc : VT}
theorem ve_neg (ha : VE X Y er a ta) : VE X Y er (.UnaryOp .USub a pos) (vNeg ta) := by
  refine ⟨PE.of (pe_un un_neg ha.pe) fun σ H Q ⟨F, ρ, R, q⟩ => ⟨F, ρ, R, ha.mono _ _ _ (fun d ρ' q v F' H' s R' r => ?_) q⟩, fun ρ k k' hk q => ha.mono _ _ _ (fun d ρ' q => ?_) q⟩
  · cases d with
    | int i => cases r; exact ⟨i, rfl, q _ F' H' s R' (.int _)⟩
    | _ => exact q.elim
  · cases d with
    | int i => exact hk _ _ q
    | _ => exact q.elim
/-- a op b op' c -/
def vChain (g g' : GD) (ta tb tc : VT) : VT := fun er ρ k => ta er ρ fun d1 ρ1 => tb er ρ1 fun d2 ρ2 => g d1 d2 fun z => match z with
  | .bl b => if b = true then tc er ρ2 fun d3 ρ3 => g' d2 d3 fun d => k d ρ3 else k (.bl false) ρ2
  | _ => False
theorem chain_mono {g g' : GD} {op op' : CmpOp} (h1 : GOp X Y (compareOp op) g) (h2 : GOp X Y (compareOp op') g') (ha : VE X Y er a ta) (hb : VE X Y er b tb) (hc : VE X Y er c tc) : ∀ ρ k k', (∀ d ρ, k d ρ → k' d ρ) → vChain g g' ta tb tc er ρ k → vChain g g' ta tb tc er ρ k' :=
  fun ρ k k' hk q => ha.mono _ _ _ (fun d1 ρ1 q => hb.mono _ _ _ (fun d2 ρ2 q => h1.mono _ _ _ _ (fun z q => by
    cases z with
    | bl b =>
      cases b with
      | true => exact hc.mono _ _ _ (fun d3 ρ3 q => h2.mono _ _ _ _ (fun d => hk d ρ3) q) q
      | false => exact hk _ _ q
    | _ => exact q.elim) q) q) q
theorem chain_ok {g g' : GD} {op op' : CmpOp} (h1 : GOp X Y (compareOp op) g) (h2 : GOp X Y (compareOp op') g') (ha : VE X Y er a ta) (hb : VE X Y er b tb) (hc : VE X Y er c tc) : ∃ r r', OpR X (compareOp op) r ∧ OpR X (compareOp op') r' ∧ ∀ σ H Q, tE Y er (vChain g g' ta tb tc) σ H Q → tChain r r' (tE Y er ta) (tE Y er tb) (tE Y er tc) σ H Q := by
  obtain ⟨r, o1, g1⟩ := h1.ok
  obtain ⟨r', o2, g2⟩ := h2.ok
  refine ⟨r, r', o1, o2, fun σ H Q ⟨F, ρ, R, q⟩ => ⟨F, ρ, R, ha.mono _ _ _ (fun d1 ρ1 q x F1 H1 s1 R1 r1 => ⟨F1, ρ1, R1, hb.mono _ _ _ (fun d2 ρ2 q y F2 H2 s2 R2 r2 => ?_) q⟩) q⟩⟩
  refine g1 F2 H2 σ ρ2 x y d1 d2 _ _ R2 (r1.mono s2) r2 q fun v F3 H3 z s3 R3 r3 q => ?_
  cases z with
  | bl b =>
    cases r3
    refine ⟨b, rfl, ?_⟩
    cases b with
    | true =>
      rw [if_pos rfl]
      refine ⟨F3, ρ2, R3, hc.mono _ _ _ (fun d3 ρ3 q w F4 H4 s4 R4 r4 => ?_) q⟩
      exact g2 F4 H4 σ ρ3 y w d2 d3 _ _ R4 (r2.mono (s3.trans s4)) r4 q fun v F5 H5 d s5 R5 r5 q => q v F5 H5 ((((s1.trans s2).trans s3).trans s4).trans s5) R5 r5
    | false =>
      rw [if_neg (by decide)]
      exact q _ F3 H3 ((s1.trans s2).trans s3) R3 (.bl false)
  | _ => exact q.elim
theorem ve_chain {g g' : GD} {op op' : CmpOp} (h1 : GOp X Y (compareOp op) g) (h2 : GOp X Y (compareOp op') g') (ha : VE X Y er a ta) (hb : VE X Y er b tb) (hc : VE X Y er c tc) (hm : lastMarks [op, op'] [b, c] = false := by with_unfolding_all rfl) :
    VE X Y er (.Compare a [op, op'] [b, c] pos) (vChain g g' ta tb tc) := by
  obtain ⟨r, r', o1, o2, h⟩ := chain_ok h1 h2 ha hb hc
  exact ⟨PE.of (pe_chain o1 o2 ha.pe hb.pe hc.pe hm) h, chain_mono h1 h2 ha hb hc⟩
theorem vt_chain {g g' : GD} {op op' : CmpOp} (h1 : GOp X Y (compareOp op) g) (h2 : GOp X Y (compareOp op') g') (ha : VE X Y er a ta) (hb : VE X Y er b tb) (hc : VE X Y er c tc) (hm : lastMarks [op, op'] [b, c] = false := by with_unfolding_all rfl) :
    VTs X Y er (.Compare a [op, op'] [b, c] pos) (vBl (vChain g g' ta tb tc)) := by
  obtain ⟨r, r', o1, o2, h⟩ := chain_ok h1 h2 ha hb hc
  refine ⟨PT.of (pt_chain o1 o2 ha.pe hb.pe hc.pe hm) fun σ H Q ⟨F, ρ, R, q⟩ => h σ H _ ⟨F, ρ, R, chain_mono h1 h2 ha hb hc _ _ _ (fun d ρ' q v F' H' s R' r => ?_) q⟩, fun ρ k k' hk q => chain_mono h1 h2 ha hb hc _ _ _ (fun d ρ' q => ?_) q⟩
  · cases d with
    | bl b => cases r; exact ⟨b, rfl, q F' H' s R'⟩
    | _ => exact q.elim
  · cases d with
    | bl b => exact hk _ _ q
    | _ => exact q.elim
end
end PL

end
section
set_option maxHeartbeats 1000000
/-! The pure layer, sixth part: items, slices, displays, built-in calls, methods of texts, objects that change. -/
namespace PL
open PySem PySem.Spec PyProof.Rows L2 SBX SB LamX
section
variable {X : Cx} {Y : SE} {er : ER} {pos : Pos} {a b c e : Expr} {es : List Expr} {ta tb tc : VT}
theorem RepL.at_ {K : PySem.W.Frag} {F : Hp} {vs : List V} {ds : List D} (r : RepL K F vs ds) {i : Int} {d : D} (h : atI ds i = some d) : ∃ v, atI vs i = some v ∧ Rep K F v d := by
  unfold atI at h ⊢
  rw [r.length]
  cases q : ixN ds.length i with
  | none => rw [q] at h; cases h
  | some j =>
    rw [q] at h
    exact r.get h
theorem atI_mem {α : Type} {xs : List α} {i : Int} {x : α} (h : atI xs i = some x) : x ∈ xs := by
  unfold atI at h
  cases q : ixN xs.length i with
  | none => rw [q] at h; cases h
  | some j => rw [q] at h; exact List.mem_of_getElem? h
/-- a[b] -/
def gIx : GD := fun x y k => match x, y with
  | .lst xs, .int i => Opt (atI xs i) k
  | .tup xs, .int i => Opt (atI xs i) k
  | .str l, .int i => l.length ≤ 16777216 ∧ Opt (atI l i) fun c => k (.str [c])
  | _, _ => False
theorem ix_mono : ∀ d1 d2 (k k' : D → Prop), (∀ d, k d → k' d) → gIx d1 d2 k → gIx d1 d2 k' := fun d1 d2 k k' hk q => by
  cases d1 <;> first | exact q.elim | skip
  all_goals (cases d2 <;> first | exact q.elim | skip)
  · exact ⟨q.1, Opt.imp (fun c => hk _) q.2⟩
  · exact Opt.imp hk q
  · exact Opt.imp hk q
theorem ve_ix (hK : X.K = Y.K) (ha : VE X Y er a ta) (hb : VE X Y er b tb) (hs : PlainIx b) : VE X Y er (.Subscript a b pos) (vBin gIx ta tb) := by
  refine ⟨PE.of (pe_ix ix_seq ha.pe hb.pe hs) fun σ H Q h => bin_ok ha hb (r := rIx X.K) (fun F H σ ρ x y d1 d2 k Q R r1 r2 q hk => ?_) h, bin_mono ix_mono ha hb⟩
  cases r1 with
  | str l hc =>
    cases r2 with
    | int i =>
      obtain ⟨hl, q⟩ := q
      obtain ⟨c, e, q⟩ := Opt.get q
      exact .inr (.inr ⟨tx l, i, c, rfl, rfl, by rw [tx_len, sizeLine_eq]; exact hl, e, hk _ F H _ (Same.refl F) R (.str [c] (fun z hz => by rw [List.mem_singleton.mp hz]; exact hc c (atI_mem e))) q⟩)
    | _ => exact q.elim
  | lst h r =>
    cases r2 with
    | int i =>
      obtain ⟨d, e, q⟩ := Opt.get q
      obtain ⟨v, e2, r2⟩ := r.at_ e
      exact .inl ⟨_, _, _, v, rfl, rfl, .of (R.sF _ _ h), e2, hk _ F H _ (Same.refl F) R r2 q⟩
    | _ => exact q.elim
  | tup h r =>
    cases r2 with
    | int i =>
      obtain ⟨d, e, q⟩ := Opt.get q
      obtain ⟨v, e2, r2⟩ := r.at_ e
      exact .inr (.inl ⟨_, _, _, v, rfl, rfl, hK ▸ sqT_same R.sF h, e2, hk _ F H _ (Same.refl F) R r2 q⟩)
    | _ => exact q.elim
  | _ => exact q.elim
/-! ### slices -/
def cutL {α : Type} (xs : List α) (lo hi : Option Int) : List α := (xs.drop (HT.sIx xs.length 0 lo)).take (HT.sIx xs.length xs.length hi - HT.sIx xs.length 0 lo)
abbrev VP := ER → PSt → (Option Int → PSt → Prop) → Prop
def tP (Y : SE) (er : ER) (t : VP) : TO := fun σ H Q => ∃ F ρ, Rel Y F H σ ρ ∧ t er ρ fun o ρ' => ∀ F' H', Same F F' → Rel Y F' H' σ ρ' → Q o H'
structure VPo (X : Cx) (Y : SE) (er : ER) (e : Option Expr) (t : VP) : Prop where
  po : PO X e (tP Y er t)
  mono : ∀ ρ k k', (∀ o ρ, k o ρ → k' o ρ) → t er ρ k → t er ρ k'
def vPn : VP := fun _ ρ k => k none ρ
def vPs (t : VT) : VP := fun er ρ k => t er ρ fun d ρ' => match d with
  | .int i => k (some i) ρ'
  | _ => False
theorem PO.of {e : Option Expr} {t t' : TO} (h : PO X e t) (i : ∀ σ H Q, t' σ H Q → t σ H Q) : PO X e t' := ⟨fun pins s σ H Q I q => h.run pins s σ H Q I (i σ H Q q)⟩
theorem vp_none : VPo X Y er none vPn := ⟨PO.of po_none fun σ H Q ⟨F, ρ, R, q⟩ => q F H (Same.refl F) R, fun ρ k k' hk q => hk _ _ q⟩
theorem vp_some (ha : VE X Y er a ta) : VPo X Y er (some a) (vPs ta) := by
  refine ⟨PO.of (po_some ha.pe) fun σ H Q ⟨F, ρ, R, q⟩ => ⟨F, ρ, R, ha.mono _ _ _ (fun d ρ' q v F' H' s R' r => ?_) q⟩, fun ρ k k' hk q => ha.mono _ _ _ (fun d ρ' q => ?_) q⟩
  · cases d with
    | int i => cases r; exact ⟨i, rfl, q F' H' s R'⟩
    | _ => exact q.elim
  · cases d with
    | int i => exact hk _ _ q
    | _ => exact q.elim
def gSl (d : D) (lo hi : Option Int) (k : D → Prop) : Prop := match d with
  | .str l => l.length ≤ 16777216 ∧ k (.str (cutL l lo hi))
  | .lst xs => k (.lst (cutL xs lo hi))
  | .tup xs => ¬ (HT.sIx xs.length 0 lo = 0 ∧ HT.sIx xs.length xs.length hi = xs.length) ∧ k (.tup (cutL xs lo hi))
  | _ => False
def vSl (t : VT) (tl th : VP) : VT := fun er ρ k => t er ρ fun d ρ1 => tl er ρ1 fun l ρ2 => th er ρ2 fun h ρ3 => gSl d l h fun d => k d ρ3
theorem gSl_mono {d : D} {l h : Option Int} {k k' : D → Prop} (hk : ∀ d, k d → k' d) (q : gSl d l h k) : gSl d l h k' := by
  cases d <;> first | exact q.elim | exact hk _ q | exact ⟨q.1, hk _ q.2⟩
theorem cut_rep {K : PySem.W.Frag} {F : Hp} {vs : List V} {ds : List D} (r : RepL K F vs ds) (lo hi : Option Int) : RepL K F (cutV vs lo hi) (cutL ds lo hi) := by
  unfold cutV cutL
  rw [r.length]
  exact (r.drop _).take _
theorem cutS_tx (l : List Nat) (lo hi : Option Int) : cutS (tx l) lo hi = tx (cutL l lo hi) := by
  unfold cutS cutL
  rw [tx_len]
theorem cut_cps {l : List Nat} (h : Cps l) (lo hi : Option Int) : Cps (cutL l lo hi) := fun c hc => h c (List.mem_of_mem_drop (List.mem_of_mem_take hc))
theorem ve_sl {lo hi : Option Expr} {tl th : VP} {p2 : Pos} (hK : X.K = Y.K) (ha : VE X Y er a ta) (hl : VPo X Y er lo tl) (hh : VPo X Y er hi th) : VE X Y er (.Subscript a (.Slice lo hi none p2) pos) (vSl ta tl th) := by
  refine ⟨PE.of (pe_slice (sl_str.or (sl_list.or sl_tup)) ha.pe hl.po hh.po) fun σ H Q ⟨F, ρ, R, q⟩ => ?_, fun ρ k k' hk q => ha.mono _ _ _ (fun d ρ1 q => hl.mono _ _ _ (fun l ρ2 q => hh.mono _ _ _ (fun h ρ3 q => gSl_mono (fun d => hk d ρ3) q) q) q) q⟩
  refine ⟨F, ρ, R, ha.mono _ _ _ (fun d ρ1 q v F1 H1 s1 R1 r1 => ⟨F1, ρ1, R1, hl.mono _ _ _ (fun l ρ2 q F2 H2 s2 R2 => ⟨F2, ρ2, R2, hh.mono _ _ _ (fun h ρ3 q F3 H3 s3 R3 => ?_) q⟩) q⟩) q⟩
  have r3 := r1.mono (s2.trans s3)
  have s13 := (s1.trans s2).trans s3
  cases r3 with
  | str l0 hc =>
    refine .inl ⟨tx l0, rfl, by rw [tx_len, sizeLine_eq]; exact q.1, ?_⟩
    rw [cutS_tx]
    exact q.2 _ F3 H3 s13 R3 (.str _ (cut_cps hc l h))
  | @lst a0 vs ds hh0 r =>
    refine .inr (.inl ⟨a0, vs, rfl, .of (R3.sF _ _ hh0), fun p hp => ?_⟩)
    obtain ⟨R4, s4⟩ := R3.new (o := .lst (cutV vs l h)) hp (fun _ z => nomatch z)
    exact q _ _ _ (s13.trans s4) R4 (.lst upd_same ((cut_rep r l h).mono s4))
  | @tup a0 vs ds hh0 r =>
    refine .inr (.inr ⟨a0, vs, rfl, hK ▸ sqT_same R3.sF hh0, by rw [r.length]; exact q.1, fun p hp => ?_⟩)
    obtain ⟨R4, s4⟩ := R3.new (o := .tup (cutV vs l h)) hp (fun _ z => nomatch z)
    exact q.2 _ _ _ (s13.trans s4) R4 (.tup (.of upd_same) ((cut_rep r l h).mono s4))
  | _ => exact q.elim
/-- text[::-1], and a list's -/
def vRevS (t : VT) : VT := fun er ρ k => t er ρ fun d ρ' => match d with
  | .str l => l.length ≤ 1000000 ∧ k (.str l.reverse) ρ'
  | _ => False
theorem ve_revS {k : Nat} {p1 p2 p3 : Pos} (ha : VE X Y er a ta) : VE X Y er (.Subscript a (.Slice none none (some (.UnaryOp .USub (.Constant (.int 1) k p1) p2)) p3) pos) (vRevS ta) := by
  refine ⟨PE.of (pe_revS ha.pe) fun σ H Q ⟨F, ρ, R, q⟩ => ⟨F, ρ, R, ha.mono _ _ _ (fun d ρ' q v F' H' s R' r => ?_) q⟩, fun ρ k k' hk q => ha.mono _ _ _ (fun d ρ' q => ?_) q⟩
  · cases d with
    | str l =>
      cases r with
      | str _ hc => exact ⟨l, rfl, q.1, q.2 _ F' H' s R' (.str _ (fun c hc' => hc c (List.mem_reverse.mp hc')))⟩
    | _ => exact q.elim
  · cases d with
    | str l => exact ⟨q.1, hk _ _ q.2⟩
    | _ => exact q.elim
/-! ### displays -/
def vLst (t : VA) : VO := fun er ρ k => t er ρ fun ds ρ' => ds.length ≤ 16777216 ∧ k (.own false (.lst ds)) ρ'
def vTup (t : VA) : VT := fun er ρ k => t er ρ fun ds ρ' => ds.length ≤ 16777216 ∧ k (.tup ds) ρ'
theorem veo_lst {t : VA} (h : VAs X Y er es t) : VEO X Y er (.List es pos) (vLst t) := by
  refine ⟨PE.of (pe_lst h.pa) fun σ H Q ⟨F, ρ, R, q⟩ => ⟨F, ρ, R, h.mono _ _ _ (fun ds ρ' q vs F' H' s R' r => ⟨by rw [r.length, sizeLine_eq]; exact q.1, fun p hp => ?_⟩) q⟩, fun ρ k k' hk q => h.mono _ _ _ (fun ds ρ' q => ⟨q.1, hk _ _ q.2⟩) q⟩
  obtain ⟨R2, h1, h2, h3⟩ := R'.newO (o := .lst vs) hp (fun _ z => nomatch z)
  exact q.2 _ F' _ s R2 ⟨p, rfl, h1, h2, ⟨vs, upd_same, r⟩, h3⟩
theorem ve_tup {x1 : Nat} {t : VA} (h : VAs X Y er es t) : VE X Y er (.Tuple es x1 pos) (vTup t) := by
  refine ⟨PE.of (pe_tup h.pa) fun σ H Q ⟨F, ρ, R, q⟩ => ⟨F, ρ, R, h.mono _ _ _ (fun ds ρ' q vs F' H' s R' r => ⟨by rw [r.length, sizeLine_eq]; exact q.1, fun p hp => ?_⟩) q⟩, fun ρ k k' hk q => h.mono _ _ _ (fun ds ρ' q => ⟨q.1, hk _ _ q.2⟩) q⟩
  obtain ⟨R2, s2⟩ := R'.new (o := .tup vs) hp (fun _ z => nomatch z)
  exact q.2 _ _ _ (s.trans s2) R2 (.tup (.of upd_same) (r.mono s2))
/-! ### calls of what is built in -/
abbrev GC := List D → (PV → Prop) → Prop
structure GCl (X : Cx) (Y : SE) (f : Value) (g : GC) : Prop where
  ok : ∃ r, CallR X f r ∧ ∀ F H σ ρ vs ds (k : PV → Prop) (Q : VK), Rel Y F H σ ρ → RepL Y.K F vs ds → g ds k → (∀ v F' H' p, Same F F' → Rel Y F' H' σ ρ → PVR Y F' H' σ ρ v p → k p → Q v H') → r vs H Q
  mono : ∀ ds (k k' : PV → Prop), (∀ p, k p → k' p) → g ds k → g ds k'
def vCB (g : GC) (t : VA) : VO := fun er ρ k => t er ρ fun ds ρ' => g ds fun p => k p ρ'
theorem cb_mono {f : Value} {g : GC} {t : VA} (hc : GCl X Y f g) (ha : VAs X Y er es t) : ∀ ρ k k', (∀ p ρ, k p ρ → k' p ρ) → vCB g t er ρ k → vCB g t er ρ k' := fun ρ k k' hk q => ha.mono _ _ _ (fun ds ρ' q => hc.mono _ _ _ (fun p => hk p ρ') q) q
theorem veo_callB {x : Str} {id : String} {g : GC} {t : VA} {p : Pos} (hc : GCl X Y (.builtin id) g) (hm : X.mg x = none) (hv : bootBuiltins x = some (.builtin id)) (ha : VAs X Y er (e :: es) t) (hg : Gl X x := by rfl) (hn : x ≠ "__name__" := by decide) (hdb : (x == ("__debug__" : Str)) = false := by decide)
    (he : starEach (e :: es) X.env = (false, eval e X.env) :: starEach es X.env := by rfl) (hpl : (backTo pos (starEach es X.env)).any (·.1) = false := by rfl) : VEO X Y er (.Call (.Name x p) (e :: es) [] pos) (vCB g t) := by
  obtain ⟨r, h1, h2⟩ := hc.ok
  exact ⟨PE.of (pe_callB h1 hg hm hv ha.pa hn hdb he hpl) fun σ H Q ⟨F, ρ, R, q⟩ => ⟨F, ρ, R, ha.mono _ _ _ (fun ds ρ' q vs F' H' s R' rr => h2 F' H' σ ρ' vs ds _ Q R' rr q fun v F2 H2 p s2 R2 r2 q => q v F2 H2 (s.trans s2) R2 r2) q⟩, cb_mono hc ha⟩
theorem veo_callTy {x : Str} {T : String} {g : GC} {t : VA} {p : Pos} (hc : GCl X Y (.type T) g) (hm : X.mg x = none) (hv : bootBuiltins x = some (.type T)) (ha : VAs X Y er (e :: es) t) (hg : Gl X x := by rfl) (hn : x ≠ "__name__" := by decide) (hdb : (x == ("__debug__" : Str)) = false := by decide)
    (he : starEach (e :: es) X.env = (false, eval e X.env) :: starEach es X.env := by rfl) (hpl : (backTo pos (starEach es X.env)).any (·.1) = false := by rfl) : VEO X Y er (.Call (.Name x p) (e :: es) [] pos) (vCB g t) := by
  obtain ⟨r, h1, h2⟩ := hc.ok
  exact ⟨PE.of (pe_callTy h1 hg hm hv ha.pa hn hdb he hpl) fun σ H Q ⟨F, ρ, R, q⟩ => ⟨F, ρ, R, ha.mono _ _ _ (fun ds ρ' q vs F' H' s R' rr => h2 F' H' σ ρ' vs ds _ Q R' rr q fun v F2 H2 p s2 R2 r2 q => q v F2 H2 (s.trans s2) R2 r2) q⟩, cb_mono hc ha⟩
/-- a function of plain values -/
theorem gcl_of {f : Value} {g : List D → Option D} {C : List D → Prop} {r : List V → Hp → VK → Prop} (h : CallR X f r) (hr : ∀ F H vs ds d (Q : VK), Same F H → RepL Y.K F vs ds → C ds → g ds = some d → (∀ v, Rep Y.K F v d → Q v H) → r vs H Q) : GCl X Y f (fun ds k => C ds ∧ Opt (g ds) fun d => k (.imm d)) := by
  refine ⟨⟨r, h, fun F H σ ρ vs ds k Q R rr q hk => ?_⟩, fun ds k k' hk q => ⟨q.1, Opt.imp (fun d => hk _) q.2⟩⟩
  obtain ⟨d, e, q2⟩ := q.2.get
  exact hr F H vs ds d Q R.sF rr q.1 e fun v rv => hk v F H (.imm d) (Same.refl F) R rv q2
/-- built-in functions of one value -/
structure G1 (X : Cx) (Y : SE) (f : Value) (g : D → (PV → Prop) → Prop) : Prop where
  ok : ∃ r, CallR X f r ∧ ∀ F H σ ρ v d (k : PV → Prop) (Q : VK), Rel Y F H σ ρ → Rep Y.K F v d → g d k → (∀ v F' H' p, Same F F' → Rel Y F' H' σ ρ → PVR Y F' H' σ ρ v p → k p → Q v H') → r [v] H Q
  mono : ∀ d (k k' : PV → Prop), (∀ p, k p → k' p) → g d k → g d k'
def on1 (g : D → (PV → Prop) → Prop) : GC := fun ds k => match ds with
  | [d] => g d k
  | _ => False
theorem G1.gcl {f : Value} {g : D → (PV → Prop) → Prop} (h : G1 X Y f g) : GCl X Y f (on1 g) := by
  obtain ⟨r, h1, h2⟩ := h.ok
  refine ⟨⟨r, h1, fun F H σ ρ vs ds k Q R rr q hk => ?_⟩, fun ds k k' hk q => ?_⟩
  · match ds, rr, q with
    | [d], .cons r0 .nil, q => exact h2 F H σ ρ _ d k Q R r0 q hk
    | [], _, q => exact q.elim
    | _ :: _ :: _, _, q => exact q.elim
  · match ds, q with
    | [d], q => exact h.mono d k k' hk q
    | [], q => exact q.elim
    | _ :: _ :: _, q => exact q.elim
/-- len -/
def lenG (d : D) (k : PV → Prop) : Prop := match d with
  | .str l => l.length ≤ 16777216 ∧ k (.imm (.int l.length))
  | .lst xs => k (.imm (.int xs.length))
  | .tup xs => k (.imm (.int xs.length))
  | _ => False
theorem c_len (hK : X.K = Y.K) : GCl X Y (.builtin "len") (on1 lenG) := by
  refine G1.gcl ⟨⟨_, call_len, fun F H σ ρ v d k Q R r q hk => ?_⟩, fun d k k' hk q => ?_⟩
  · cases r with
    | str l hc => exact ⟨_, l.length, rfl, ⟨by rw [tx_len, sizeLine_eq]; exact q.1, (tx_len l).symm⟩, hk _ F H (.imm (.int l.length)) (Same.refl F) R (.int _) q.2⟩
    | @lst a vs xs h r => exact ⟨_, xs.length, rfl, .inl ⟨_, .of (R.sF _ _ h), r.length.symm⟩, hk _ F H (.imm (.int xs.length)) (Same.refl F) R (.int _) q⟩
    | @tup a vs xs h r => exact ⟨_, xs.length, rfl, .inr ⟨_, hK ▸ sqT_same R.sF h, r.length.symm⟩, hk _ F H (.imm (.int xs.length)) (Same.refl F) R (.int _) q⟩
    | _ => exact q.elim
  · cases d with
    | str l => exact ⟨q.1, hk _ q.2⟩
    | lst xs => exact hk _ q
    | tup xs => exact hk _ q
    | _ => exact q.elim
/-- abs, int, bool, str of numbers and texts -/
def absG (d : D) (k : PV → Prop) : Prop := match d with
  | .int i => k (.imm (.int (if i < 0 then -i else i)))
  | _ => False
theorem c_abs : GCl X Y (.builtin "abs") (on1 absG) := by
  refine G1.gcl ⟨⟨_, call_abs, fun F H σ ρ v d k Q R r q hk => ?_⟩, fun d k k' hk q => ?_⟩
  · cases r with
    | int i => exact ⟨i, rfl, hk _ F H (.imm (.int _)) (Same.refl F) R (.int _) q⟩
    | _ => exact q.elim
  · cases d with
    | int i => exact hk _ q
    | _ => exact q.elim
def intG (d : D) (k : PV → Prop) : Prop := match d with
  | .int i => k (.imm (.int i))
  | .bl b => k (.imm (.int (if b = true then 1 else 0)))
  | .str l => Opt (PySem.intText? (tx l)) fun n => l.length ≤ 640 ∧ k (.imm (.int n))
  | _ => False
theorem or_cl {f : Value} {r r' : List V → Hp → VK → Prop} (h : CallR X f r) (h' : CallR X f r') : CallR X f (fun xs H Q => r xs H Q ∨ r' xs H Q) := by
  intro pins s σ H xs us Q I rx q
  rcases q with q | q
  · exact h pins s σ H xs us Q I rx q
  · exact h' pins s σ H xs us Q I rx q
theorem c_int : GCl X Y (.type "int") (on1 intG) := by
  refine G1.gcl ⟨⟨_, or_cl call_int1 call_int_str, fun F H σ ρ v d k Q R r q hk => ?_⟩, fun d k k' hk q => ?_⟩
  · cases r with
    | int i => exact .inl (.inl ⟨i, rfl, hk _ F H (.imm (.int _)) (Same.refl F) R (.int _) q⟩)
    | bl b => exact .inl (.inr ⟨b, rfl, hk _ F H (.imm (.int _)) (Same.refl F) R (.int _) q⟩)
    | str l hc =>
      obtain ⟨n, e, hl, q⟩ := Opt.get q
      exact .inr ⟨tx l, n, rfl, e, by rw [tx_len]; exact hl, hk _ F H (.imm (.int _)) (Same.refl F) R (.int _) q⟩
    | _ => exact q.elim
  · cases d with
    | int i => exact hk _ q
    | bl b => exact hk _ q
    | str l => exact Opt.imp (fun n q => ⟨q.1, hk _ q.2⟩) q
    | _ => exact q.elim
def numT (i : Int) : List Nat := (toString i).toList.map Char.toNat
def strG (d : D) (k : PV → Prop) : Prop := match d with
  | .str l => k (.imm (.str l))
  | _ => False
theorem c_str : GCl X Y (.type "str") (on1 strG) := by
  refine G1.gcl ⟨⟨_, SkE.call_str_str, fun F H σ ρ v d k Q R r q hk => ?_⟩, fun d k k' hk q => ?_⟩
  · cases r with
    | str l hc => exact ⟨tx l, rfl, hk _ F H (.imm (.str l)) (Same.refl F) R (.str l hc) q⟩
    | _ => exact q.elim
  · cases d with
    | str l => exact hk _ q
    | _ => exact q.elim
/-- list, tuple -/
def listG (d : D) (k : PV → Prop) : Prop := match d with
  | .lst xs => k (.own false (.lst xs))
  | .tup xs => k (.own false (.lst xs))
  | _ => False
theorem c_list (hK : X.K = Y.K) : GCl X Y (.type "list") (on1 listG) := by
  have fin : ∀ {F H σ ρ} {a : Addr} {vs : List V} {xs : List D} {k : PV → Prop} {Q : VK}, Rel Y F H σ ρ → (SqL X.K H a vs ∨ SqT X.K H a vs) → RepL Y.K F vs xs → (∀ v F' H' p, Same F F' → Rel Y F' H' σ ρ → PVR Y F' H' σ ρ v p → k p → Q v H') → k (.own false (.lst xs)) →
      ∃ p ys, [V.ref a] = [.ref p] ∧ (SqL X.K H p ys ∨ SqT X.K H p ys) ∧ ∀ l, H l = none → Q (.ref l) (upd H l (.lst ys)) := fun {F H σ ρ a vs xs k Q} R h r hk q => by
    refine ⟨a, vs, rfl, h, fun l hl => ?_⟩
    obtain ⟨R2, h1, h2, h3⟩ := R.newO (o := .lst vs) hl (fun _ z => nomatch z)
    exact hk _ F _ (.own false (.lst xs)) (Same.refl F) R2 ⟨l, rfl, h1, h2, ⟨vs, upd_same, r⟩, h3⟩ q
  refine G1.gcl ⟨⟨_, call_list_of, fun F H σ ρ v d k Q R r q hk => ?_⟩, fun d k k' hk q => ?_⟩
  · cases r with
    | lst h r => exact fin R (.inl (.of (R.sF _ _ h))) r hk q
    | tup h r => exact fin R (.inr (hK ▸ sqT_same R.sF h)) r hk q
    | _ => exact q.elim
  · cases d with
    | lst xs => exact hk _ q
    | tup xs => exact hk _ q
    | _ => exact q.elim
def tupG (d : D) (k : PV → Prop) : Prop := match d with
  | .lst xs => k (.imm (.tup xs))
  | .tup xs => k (.imm (.tup xs))
  | _ => False
theorem c_tuple (hK : X.K = Y.K) : GCl X Y (.type "tuple") (on1 tupG) := by
  refine G1.gcl ⟨⟨_, call_tuple_of, fun F H σ ρ v d k Q R r q hk => ?_⟩, fun d k k' hk q => ?_⟩
  · cases r with
    | @lst a vs xs h r =>
      refine ⟨a, vs, rfl, .inl ⟨.of (R.sF _ _ h), fun l hl => ?_⟩⟩
      obtain ⟨R2, s2⟩ := R.new (o := .tup vs) hl (fun _ z => nomatch z)
      exact hk _ _ _ (.imm (.tup xs)) s2 R2 (.tup (.of upd_same) (r.mono s2)) q
    | @tup a vs xs h r => exact ⟨a, vs, rfl, .inr ⟨hK ▸ sqT_same R.sF h, hk _ F H (.imm (.tup xs)) (Same.refl F) R (.tup h r) q⟩⟩
    | _ => exact q.elim
  · cases d with
    | lst xs => exact hk _ q
    | tup xs => exact hk _ q
    | _ => exact q.elim
/-- max, min of two ints -/
def max2G (ds : List D) (k : PV → Prop) : Prop := match ds with
  | [.int i, .int j] => k (.imm (.int (if j > i then j else i)))
  | _ => False
def min2G (ds : List D) (k : PV → Prop) : Prop := match ds with
  | [.int i, .int j] => k (.imm (.int (if j < i then j else i)))
  | _ => False
theorem two_ints {P : List D → Prop} {g : Int → Int → Prop} {ds : List D} (h : match ds with | [.int i, .int j] => g i j | _ => False) : ∃ i j, ds = [.int i, .int j] ∧ g i j := by
  split at h
  · exact ⟨_, _, rfl, h⟩
  · exact h.elim
theorem c_max2 (hc : X.calm = true) : GCl X Y (.builtin "max") max2G := by
  refine ⟨⟨_, call_max2 hc, fun F H σ ρ vs ds k Q R rr q hk => ?_⟩, fun ds k k' hk q => ?_⟩
  · obtain ⟨i, j, e, q⟩ := two_ints (P := fun _ => True) q
    subst e
    cases rr with
    | cons r1 rr =>
    cases rr with
    | cons r2 rr =>
    cases rr
    cases r1
    cases r2
    exact ⟨i, j, rfl, hk _ F H (.imm (.int _)) (Same.refl F) R (.int _) q⟩
  · obtain ⟨i, j, e, q⟩ := two_ints (P := fun _ => True) q
    subst e
    exact hk _ q
theorem c_min2 (hc : X.calm = true) : GCl X Y (.builtin "min") min2G := by
  refine ⟨⟨_, call_min2 hc, fun F H σ ρ vs ds k Q R rr q hk => ?_⟩, fun ds k k' hk q => ?_⟩
  · obtain ⟨i, j, e, q⟩ := two_ints (P := fun _ => True) q
    subst e
    cases rr with
    | cons r1 rr =>
    cases rr with
    | cons r2 rr =>
    cases rr
    cases r1
    cases r2
    exact ⟨i, j, rfl, hk _ F H (.imm (.int _)) (Same.refl F) R (.int _) q⟩
  · obtain ⟨i, j, e, q⟩ := two_ints (P := fun _ => True) q
    subst e
    exact hk _ q
/-! ### methods of texts -/
abbrev GM := List Nat → List D → (PV → Prop) → Prop
structure GMt (X : Cx) (Y : SE) (id : String) (g : GM) : Prop where
  ok : ∃ r, MtR X id r ∧ ∀ F H σ ρ l vs ds (k : PV → Prop) (Q : VK), Rel Y F H σ ρ → Cps l → RepL Y.K F vs ds → g l ds k → (∀ v F' H' p, Same F F' → Rel Y F' H' σ ρ → PVR Y F' H' σ ρ v p → k p → Q v H') → r (T l) vs H Q
  mono : ∀ l ds (k k' : PV → Prop), (∀ p, k p → k' p) → g l ds k → g l ds k'
def vM0 (g : GM) (t : VT) : VO := fun er ρ k => t er ρ fun d ρ' => match d with
  | .str l => g l [] fun p => k p ρ'
  | _ => False
def vM1 (g : GM) (t u : VT) : VO := fun er ρ k => t er ρ fun d ρ1 => match d with
  | .str l => u er ρ1 fun e ρ2 => g l [e] fun p => k p ρ2
  | _ => False
theorem veo_m0 {id : String} {name : Str} {apos : Pos} {g : GM} (slot : Slot "str" name id) (ty : typeOf (.builtin id) = pure (.type "method_descriptor")) (rule : GMt X Y id g) (ho : VE X Y er a ta)
    (hbase : attributeBase a name X.env (eval a X.env) = eval a X.env := by rfl) (hline : (apos.endLine == pos.line) = true := by rfl) : VEO X Y er (.Call (.Attribute a name apos) [] [] pos) (vM0 g ta) := by
  obtain ⟨r, h1, h2⟩ := rule.ok
  refine ⟨PE.of (pe_m0 slot ty h1 ho.pe hbase hline) fun σ H Q ⟨F, ρ, R, q⟩ => ⟨F, ρ, R, ho.mono _ _ _ (fun d ρ' q v F' H' s R' r' => ?_) q⟩, fun ρ k k' hk q => ho.mono _ _ _ (fun d ρ' q => ?_) q⟩
  · cases d with
    | str l =>
      cases r' with
      | str _ hc => exact ⟨⟨_, rfl⟩, h2 F' H' σ ρ' l [] [] _ Q R' hc .nil q fun v F2 H2 p s2 R2 r2 q => q v F2 H2 (s.trans s2) R2 r2⟩
    | _ => exact q.elim
  · cases d with
    | str l => exact rule.mono _ _ _ _ (fun p => hk p ρ') q
    | _ => exact q.elim
theorem veo_m1 {id : String} {name : Str} {apos : Pos} {g : GM} (slot : Slot "str" name id) (ty : typeOf (.builtin id) = pure (.type "method_descriptor")) (rule : GMt X Y id g) (ho : VE X Y er a ta) (he : VE X Y er b tb)
    (hs : starEach [b] X.env = [(false, eval b X.env)] := by rfl) (hbase : attributeBase a name X.env (eval a X.env) = eval a X.env := by rfl) (hline : (apos.endLine == pos.line) = true := by rfl) : VEO X Y er (.Call (.Attribute a name apos) [b] [] pos) (vM1 g ta tb) := by
  obtain ⟨r, h1, h2⟩ := rule.ok
  refine ⟨PE.of (pe_m1 slot ty h1 ho.pe he.pe hs hbase hline) fun σ H Q ⟨F, ρ, R, q⟩ => ⟨F, ρ, R, ho.mono _ _ _ (fun d ρ' q v F' H' s R' r' => ?_) q⟩, fun ρ k k' hk q => ho.mono _ _ _ (fun d ρ' q => ?_) q⟩
  · cases d with
    | str l =>
      cases r' with
      | str _ hc => exact ⟨⟨_, rfl⟩, F', ρ', R', he.mono _ _ _ (fun e ρ2 q w F2 H2 s2 R2 r2 => h2 F2 H2 σ ρ2 l [w] [e] _ Q R2 hc (.cons r2 .nil) q fun v F3 H3 p s3 R3 r3 q => q v F3 H3 ((s.trans s2).trans s3) R3 r3) q⟩
    | _ => exact q.elim
  · cases d with
    | str l => exact he.mono _ _ _ (fun e ρ2 q => rule.mono _ _ _ _ (fun p => hk p ρ2) q) q
    | _ => exact q.elim
end
end PL

end
section
set_option maxHeartbeats 1000000
/-! The pure layer, seventh part: facts of classes, isinstance, fields, objects that change, methods of texts. -/
namespace L2
open PySem PySem.Spec PyProof.Rows SBX
def rIsZT (K : PySem.W.Frag) : List V → Hp → VK → Prop := fun xs H Q => ∃ (x : V) (tp : Addr) (cs : List V) (t : Value) (us : List Value) (b : Bool), xs = [x, .ref tp] ∧ SqT K H tp cs ∧ Paired ClsV cs us ∧ TyZ K H x t ∧ PySem.W.kitAny K t us = some b ∧ Q (.bl b) H
theorem call_isZT {X : Cx} : CallR X (.builtin "isinstance") (rIsZT X.K) := by
  intro pins s σ H xs us Q I r h
  obtain ⟨x, tp, cs, t, ws, b, rfl, hT, k, ty, e, q⟩ := h
  obtain ⟨u1, u2, rfl, r1, r2⟩ := vals2 r
  cases (show u2 = Value.ref tp from r2)
  obtain ⟨P, Z, p, hx⟩ := kit_ofZ I r1 ty
  obtain ⟨its, rv, ⟨o, h1, h2, n, h3⟩, _⟩ := I.tuple hT
  have e3 := ClsV.all k rv
  subst e3
  obtain ⟨oc, od, dt, sl⟩ := o
  simp only at h2 h3
  subst h2 h3
  exact PySem.W.kia_tup Z I.kIn p h1 e hx fun tk => ⟨.bl b, H, I.tok tk, rfl, q⟩
end L2
namespace PL
open PySem PySem.Spec PyProof.Rows L2 SBX SB LamX
abbrev gac (K : PySem.W.Frag) (c : Nat) : Addr := He.ga K (cname c)
def tys : List BT := [.int, .str, .bool, .none, .list, .tuple, .dict, .set]
/-- one check for all that is asked of the classes cs and the errors es; ask: the classes that isinstance is asked about, cat: those that are caught -/
def fctB (K : PySem.W.Frag) (cs es ask cat : List Nat) : Bool :=
  cs.all (fun c => tyB K (gac K c) && ((He.Fa.cls (cname c)).ok K && (cflds c).all fun f => (He.Fa.noat (cname c) f).ok K)) &&
  (es.all (fun c => excCB K (gac K c) && (xfB K (gac K c) && (cflds c).all fun f => eqO (PySem.W.findIn K (.ref (gac K c)) f) (some none))) &&
  (ask.all (fun c => tys.all fun t => eqB (PySem.W.kitOne K (.type t.name) (.ref (gac K c))) (some false)) &&
  ((cs ++ es).all (fun c => tys.all fun t => eqB (PySem.W.kitOne K (.ref (gac K c)) (.type t.name)) (some false)) &&
  ((cs ++ es).all (fun c => ask.all fun d => eqB (PySem.W.kitOne K (.ref (gac K c)) (.ref (gac K d))) (some ((anc c).contains d))) &&
  es.all (fun c => cat.all fun d => (He.Fa.exm (cname c) (cname d) ((anc c).contains d)).ok K)))))
structure Fct (K : PySem.W.Frag) (cs es ask cat : List Nat) : Prop where
  ty : ∀ c ∈ cs, TyC K (gac K c) ∧ Cls K (gac K c) ∧ ∀ f ∈ cflds c, NoAttr K (gac K c) f
  ex : ∀ c ∈ es, ExcC K (gac K c) ∧ XfC K (gac K c) ∧ ∀ f ∈ cflds c, PySem.W.findIn K (.ref (gac K c)) f = some none
  tc : ∀ c ∈ ask, ∀ t : BT, PySem.W.kitOne K (.type t.name) (.ref (gac K c)) = some false
  ct : ∀ c ∈ cs ++ es, ∀ t : BT, PySem.W.kitOne K (.ref (gac K c)) (.type t.name) = some false
  cc : ∀ c ∈ cs ++ es, ∀ d ∈ ask, PySem.W.kitOne K (.ref (gac K c)) (.ref (gac K d)) = some ((anc c).contains d)
  xm : ∀ c ∈ es, ∀ d ∈ cat, PySem.W.exmOne K (.ref (gac K c)) (.ref (gac K d)) = some ((anc c).contains d)
theorem tys_all (t : BT) : t ∈ tys := by cases t <;> decide
theorem fctB_ok {K : PySem.W.Frag} {cs es ask cat : List Nat} (h : fctB K cs es ask cat = true) : Fct K cs es ask cat := by
  obtain ⟨h1, h⟩ := band h
  obtain ⟨h2, h⟩ := band h
  obtain ⟨h3, h⟩ := band h
  obtain ⟨h4, h⟩ := band h
  obtain ⟨h5, h6⟩ := band h
  refine ⟨fun c hc => ?_, fun c hc => ?_, fun c hc t => ?_, fun c hc t => ?_, fun c hc d hd => ?_, fun c hc d hd => ?_⟩
  · obtain ⟨g1, g⟩ := band (List.all_eq_true.mp h1 c hc)
    obtain ⟨g2, g3⟩ := band g
    exact ⟨tyB_ok g1, He.cls_ok g2, fun f hf => He.noat_ok (List.all_eq_true.mp g3 f hf)⟩
  · obtain ⟨g1, g⟩ := band (List.all_eq_true.mp h2 c hc)
    obtain ⟨g2, g3⟩ := band g
    exact ⟨excCB_ok g1, xfB_ok g2, fun f hf => of_decide_eq_true (List.all_eq_true.mp g3 f hf)⟩
  · exact of_decide_eq_true (List.all_eq_true.mp (List.all_eq_true.mp h3 c hc) t (tys_all t))
  · exact of_decide_eq_true (List.all_eq_true.mp (List.all_eq_true.mp h4 c hc) t (tys_all t))
  · exact of_decide_eq_true (List.all_eq_true.mp (List.all_eq_true.mp h5 c hc) d hd)
  · exact He.exm_ok (List.all_eq_true.mp (List.all_eq_true.mp h6 c hc) d hd)
/-! ### isinstance -/
def btSub : BT → BT → Bool
  | .bool, .int => true
  | .int, .int => true | .str, .str => true | .bool, .bool => true | .none, .none => true | .list, .list => true | .tuple, .tuple => true | .dict, .dict => true | .set, .set => true
  | _, _ => false
theorem btSub_ok {K : PySem.W.Frag} (a b : BT) : PySem.W.kitOne K (.type a.name) (.type b.name) = some (btSub a b) := by
  cases a <;> cases b <;> exact kit_ty (by decide +kernel)
def tyD : D → Option (BT ⊕ Nat)
  | .non => some (.inl .none)
  | .bl _ => some (.inl .bool)
  | .int _ => some (.inl .int)
  | .str _ => some (.inl .str)
  | .lst _ => some (.inl .list)
  | .tup _ => some (.inl .tuple)
  | .dct _ => some (.inl .dict)
  | .ins c _ => some (.inr c)
  | .exc c _ => some (.inr c)
  | _ => none
def tyV_ (K : PySem.W.Frag) : BT ⊕ Nat → Value
  | .inl t => .type t.name
  | .inr c => .ref (gac K c)
def isi1 : BT ⊕ Nat → D → Option Bool
  | .inl a, .ty b => some (btSub a b)
  | .inl _, .cls _ => some false
  | .inr _, .ty _ => some false
  | .inr c, .cls d => some ((anc c).contains d)
  | _, _ => none
def isiA (t : BT ⊕ Nat) : List D → Option Bool
  | [] => some false
  | T :: Ts => match isi1 t T, isiA t Ts with
    | some a, some b => some (a || b)
    | _, _ => none
/-- the classes that a test names are known ones -/
def askB (cs es ask : List Nat) (d : D) (Ts : List D) : Bool := (match d with
  | .ins c _ => cs.contains c
  | .exc c _ => es.contains c
  | _ => true) && Ts.all fun T => match T with
    | .cls c => ask.contains c
    | .ty _ => true
    | _ => false
section
variable {X : Cx} {Y : SE} {er : ER} {pos : Pos} {a b e : Expr} {es' : List Expr} {ta tb : VT} {cs es ask cat : List Nat}
theorem Rep.tyz {F H : Hp} (Fc : Fct Y.K cs es ask cat) (s : Same F H) {v : V} {d : D} (r : Rep Y.K F v d) {t : BT ⊕ Nat} (h : tyD d = some t) {Ts : List D} (hk : askB cs es ask d Ts = true) : TyZ Y.K H v (tyV_ Y.K t) ∧ ∀ c, t = .inr c → c ∈ cs ++ es := by
  obtain ⟨hk, _⟩ := band hk
  cases r with
  | non => cases h; exact ⟨.base (.base .non), fun _ z => nomatch z⟩
  | bl b => cases h; exact ⟨.base (.base (.bl b)), fun _ z => nomatch z⟩
  | int i => cases h; exact ⟨.base (.base (.int i)), fun _ z => nomatch z⟩
  | str l hc => cases h; exact ⟨.base (.base (.str _)), fun _ z => nomatch z⟩
  | lst hh r => cases h; exact ⟨.base (.base (.lst (s _ _ hh))), fun _ z => nomatch z⟩
  | tup hh r =>
    cases h
    refine ⟨?_, fun _ z => nomatch z⟩
    rcases hh with (hh | ⟨o, hh⟩) | ⟨o, its, n, hk, hc, hd, hz⟩
    · exact .base (.base (.tup (s _ _ hh)))
    · exact .base (.fTuple (s _ _ hh))
    · exact .base (.kTuple hk hc)
  | dK hh r => cases h; exact ⟨.base (.base (.dK (s _ _ hh))), fun _ z => nomatch z⟩
  | dT hh r => cases h; exact ⟨.base (.base (.dT (s _ _ hh))), fun _ z => nomatch z⟩
  | @ins a dx c vs ds hh r =>
    cases h
    have hc : c ∈ cs := List.contains_iff_mem.mp hk
    obtain ⟨h1, h2, _⟩ := Fc.ty c hc
    exact ⟨h1.ins h2 (s _ _ hh), fun _ z => by cases z; exact List.mem_append_left _ hc⟩
  | @insS a dx c n vs ds hh hn r =>
    cases h
    have hc : c ∈ cs := List.contains_iff_mem.mp hk
    obtain ⟨h1, h2, _⟩ := Fc.ty c hc
    exact ⟨h1.ins h2 (s _ _ hh), fun _ z => by cases z; exact List.mem_append_left _ hc⟩
  | @exc a d c vs ds hh hd r =>
    cases h
    have hc : c ∈ es := List.contains_iff_mem.mp hk
    obtain ⟨h1, h2, _⟩ := Fc.ex c hc
    exact ⟨.exc (s _ _ hh) (fun b hb => by cases hb; exact ⟨_, s _ _ hd⟩) h1, fun _ z => by cases z; exact List.mem_append_right _ hc⟩
  | cls c => cases h
  | ty n => cases h
theorem isi1_ok (Fc : Fct Y.K cs es ask cat) {F : Hp} {t : BT ⊕ Nat} {T : D} {b : Bool} {c : V} (r : Rep Y.K F c T) (h : isi1 t T = some b) (ht : ∀ c, t = .inr c → c ∈ cs ++ es) {Ts : List D} {d : D} (hk : askB cs es ask d Ts = true) (hm : T ∈ Ts) : ∃ u, ClsV c u ∧ PySem.W.kitOne Y.K (tyV_ Y.K t) u = some b := by
  obtain ⟨_, hk⟩ := band hk
  have hT := List.all_eq_true.mp hk T hm
  cases r with
  | cls d =>
    have hd : d ∈ ask := List.contains_iff_mem.mp hT
    cases t with
    | inl a => cases h; exact ⟨_, .own _, Fc.tc d hd a⟩
    | inr c => cases h; exact ⟨_, .own _, Fc.cc c (ht c rfl) d hd⟩
  | ty n =>
    cases t with
    | inl a => cases h; exact ⟨_, .ty _, btSub_ok a n⟩
    | inr c => cases h; exact ⟨_, .ty _, Fc.ct c (ht c rfl) n⟩
  | _ => cases hT
theorem isiA_ok (Fc : Fct Y.K cs es ask cat) {F : Hp} {t : BT ⊕ Nat} (ht : ∀ c, t = .inr c → c ∈ cs ++ es) {d : D} {Ts0 : List D} (hk : askB cs es ask d Ts0 = true) : ∀ {Ts : List D} {vs : List V} {b : Bool}, RepL Y.K F vs Ts → isiA t Ts = some b → (∀ T ∈ Ts, T ∈ Ts0) → ∃ us, Paired ClsV vs us ∧ PySem.W.kitAny Y.K (tyV_ Y.K t) us = some b
  | [], _, _, .nil, h, _ => by cases h; exact ⟨[], .nil, rfl⟩
  | T :: Ts, v :: vs, b, .cons r rr, h, hm => by
    unfold isiA at h
    cases h1 : isi1 t T with
    | none => rw [h1] at h; cases h
    | some b1 =>
      cases h2 : isiA t Ts with
      | none => rw [h1, h2] at h; cases h
      | some b2 =>
        rw [h1, h2] at h
        cases h
        obtain ⟨u, c1, k1⟩ := isi1_ok Fc r h1 ht hk (hm T List.mem_cons_self)
        obtain ⟨us, c2, k2⟩ := isiA_ok Fc ht hk rr h2 fun T hT => hm T (List.mem_cons_of_mem _ hT)
        exact ⟨u :: us, .cons c1 c2, kitAny_cons (r := b1 || b2) k1 (fun e => by rw [e]; exact k2) (fun e => by rw [e]; rfl)⟩
def onB (b : Bool) (k : Prop) : Prop := match b with
  | true => k
  | false => False
theorem onB.get {b : Bool} {k : Prop} (h : onB b k) : b = true ∧ k := by
  cases b with
  | true => exact ⟨rfl, h⟩
  | false => exact h.elim
theorem onB.imp {b : Bool} {k k' : Prop} (f : k → k') (h : onB b k) : onB b k' := by
  cases b with
  | true => exact f h
  | false => exact h
def isiG (cs es ask : List Nat) (ds : List D) (k : PV → Prop) : Prop := match ds with
  | [d, T] => match T with
    | .tup Ts => onB (askB cs es ask d Ts) <| Opt (tyD d) fun t => Opt (isiA t Ts) fun b => k (.imm (.bl b))
    | T => onB (askB cs es ask d [T]) <| Opt (tyD d) fun t => Opt (isi1 t T) fun b => k (.imm (.bl b))
  | _ => False
theorem c_isi (hK : X.K = Y.K) (Fc : Fct Y.K cs es ask cat) : GCl X Y (.builtin "isinstance") (isiG cs es ask) := by
  refine ⟨⟨_, or_cl call_isZ call_isZT, fun F H σ ρ vs ds k Q R rr q hk => ?_⟩, fun ds k k' hk q => ?_⟩
  · cases rr with
    | nil => exact q.elim
    | @cons x d vs ds rx rr =>
    cases rr with
    | nil => exact q.elim
    | @cons c T vs ds rc rr =>
    cases rr with
    | cons _ _ => exact q.elim
    | nil =>
    have one : onB (askB cs es ask d [T]) (Opt (tyD d) fun t => Opt (isi1 t T) fun b => k (.imm (.bl b))) → (rIsZ X.K [x, c] H Q ∨ rIsZT X.K [x, c] H Q) := fun q => by
      obtain ⟨ha, q⟩ := q.get
      obtain ⟨t, et, q⟩ := Opt.get q
      obtain ⟨b, eb, q⟩ := Opt.get q
      obtain ⟨ty, ht⟩ := rx.tyz Fc R.sF et ha
      obtain ⟨u, h1, h2⟩ := isi1_ok Fc rc eb ht ha (List.mem_singleton.mpr rfl)
      exact .inl ⟨x, c, _, u, b, rfl, h1, hK ▸ ty, hK ▸ h2, hk _ F H (.imm (.bl b)) (Same.refl F) R (.bl b) q⟩
    cases rc with
    | @tup a us Ts hh r =>
      obtain ⟨ha, q⟩ := onB.get q
      obtain ⟨t, et, q⟩ := Opt.get q
      obtain ⟨b, eb, q⟩ := Opt.get q
      obtain ⟨ty, ht⟩ := rx.tyz Fc R.sF et ha
      obtain ⟨us', h1, h2⟩ := isiA_ok Fc ht ha r eb fun _ h => h
      exact .inr ⟨x, a, us, _, us', b, rfl, hK ▸ sqT_same R.sF hh, h1, hK ▸ ty, hK ▸ h2, hk _ F H (.imm (.bl b)) (Same.refl F) R (.bl b) q⟩
    | _ => exact one q
  · match ds, q with
    | [d, T], q =>
      cases T <;> exact onB.imp (fun q => Opt.imp (fun t q => Opt.imp (fun b q => hk _ q) q) q) q
    | [], q => exact q.elim
    | [_], q => exact q.elim
    | _ :: _ :: _ :: _, q => exact q.elim
/-! ### fields -/
/-- o.f: tb tells the field's place by the class -/
def fldD (tb : List (Nat × Nat)) (d : D) (k : D → Prop) : Prop := match d with
  | .ins c fs => Opt (tb.lookup c) fun j => Opt fs[j]? k
  | _ => False
def vFld (tb : List (Nat × Nat)) (t : VT) : VT := fun er ρ k => t er ρ fun d ρ' => fldD tb d fun e => k e ρ'
def fldOk (f : Str) (cs : List Nat) (tb : List (Nat × Nat)) : Bool := tb.all fun p => cs.contains p.1 && decide ((cflds p.1)[p.2]? = some f)
theorem lk_mem {tb : List (Nat × Nat)} {c j : Nat} (h : tb.lookup c = some j) : (c, j) ∈ tb := by
  induction tb with
  | nil => cases h
  | cons p tb ih =>
    obtain ⟨a, b⟩ := p
    unfold List.lookup at h
    by_cases e : c = a
    · subst e
      simp at h
      subst h
      exact List.mem_cons_self
    · have e1 : (c == a) = false := by simpa using e
      rw [e1] at h
      exact List.mem_cons_of_mem _ (ih h)
theorem Rep.fld {K : PySem.W.Frag} {F H : Hp} (s : Same F H) {v : V} {c j : Nat} {fs : List D} {f : Str} {d : D} (r : Rep K F v (.ins c fs)) (hf : (cflds c)[j]? = some f) (hd : fs[j]? = some d) : ∃ a dx vs u, v = .ref a ∧ H a = some (.ins (gac K c) dx vs) ∧ vs.lookup f = some u ∧ Rep K F u d := by
  cases r with
  | @ins a dx c vs ds h r =>
    obtain ⟨u, h1, h2⟩ := r.look (ws := []) (cflds_nd c) hf hd
    rw [List.append_nil] at h1
    exact ⟨a, dx, vs, u, rfl, s _ _ h, h1, h2⟩
  | @insS a dx c n vs ds h hn r =>
    obtain ⟨u, h1, h2⟩ := r.look (ws := [(n, .ref a)]) (cflds_nd c) hf hd
    exact ⟨a, dx, _, u, rfl, s _ _ h, h1, h2⟩
theorem ve_fld {f : Str} {tb : List (Nat × Nat)} (hK : X.K = Y.K) (Fc : Fct Y.K cs es ask cat) (htb : fldOk f cs tb = true) (ha : VE X Y er a ta) (hb : attributeBase a f X.env (eval a X.env) = eval a X.env := by rfl) : VE X Y er (.Attribute a f pos) (vFld tb ta) := by
  refine ⟨PE.of (pe_fld ha.pe hb) fun σ H Q ⟨F, ρ, R, q⟩ => ⟨F, ρ, R, ha.mono _ _ _ (fun d ρ' q v F' H' s R' r => ?_) q⟩, fun ρ k k' hk q => ha.mono _ _ _ (fun d ρ' q => ?_) q⟩
  · cases d with
    | ins c fs =>
      obtain ⟨j, ej, q⟩ := Opt.get q
      obtain ⟨e, ee, q⟩ := Opt.get q
      obtain ⟨h1, h2⟩ := band (List.all_eq_true.mp htb _ (lk_mem ej))
      have hf : (cflds c)[j]? = some f := of_decide_eq_true h2
      obtain ⟨_, t2, t3⟩ := Fc.ty c (List.contains_iff_mem.mp h1)
      obtain ⟨a, dx, vs, u, rfl, ha, hl, ru⟩ := r.fld R'.sF hf ee
      rw [hK]
      exact ⟨a, _, dx, vs, u, rfl, ha, t2, t3 f (List.mem_of_getElem? hf), hl, q u F' H' s R' ru⟩
    | _ => exact q.elim
  · cases d with
    | ins c fs => exact Opt.imp (fun j q => Opt.imp (fun d => hk d ρ') q) q
    | _ => exact q.elim
/-- e.f, e a caught error -/
def fldX (tb : List (Nat × Nat)) (d : D) (k : D → Prop) : Prop := match d with
  | .exc c fs => Opt (tb.lookup c) fun j => Opt fs[j]? k
  | _ => False
def vFldX (tb : List (Nat × Nat)) (t : VT) : VT := fun er ρ k => t er ρ fun d ρ' => fldX tb d fun e => k e ρ'
theorem ve_fldX {f : Str} {tb : List (Nat × Nat)} (hK : X.K = Y.K) (Fc : Fct Y.K cs es ask cat) (htb : fldOk f es tb = true) (ha : VE X Y er a ta) (hb : attributeBase a f X.env (eval a X.env) = eval a X.env := by rfl) : VE X Y er (.Attribute a f pos) (vFldX tb ta) := by
  refine ⟨PE.of (pe_xh ha.pe hb) fun σ H Q ⟨F, ρ, R, q⟩ => ⟨F, ρ, R, ha.mono _ _ _ (fun d ρ' q v F' H' s R' r => ?_) q⟩, fun ρ k k' hk q => ha.mono _ _ _ (fun d ρ' q => ?_) q⟩
  · cases d with
    | exc c fs =>
      obtain ⟨j, ej, q⟩ := Opt.get q
      obtain ⟨e, ee, q⟩ := Opt.get q
      obtain ⟨h1, h2⟩ := band (List.all_eq_true.mp htb _ (lk_mem ej))
      have hf : (cflds c)[j]? = some f := of_decide_eq_true h2
      obtain ⟨_, t2, t3⟩ := Fc.ex c (List.contains_iff_mem.mp h1)
      cases r with
      | @exc a d c vs ds h hd r =>
        obtain ⟨u, g1, g2⟩ := r.look (ws := []) (cflds_nd c) hf ee
        rw [List.append_nil] at g1
        rw [hK]
        exact ⟨a, _, d, vs, u, rfl, R'.sF _ _ h, t2, t3 f (List.mem_of_getElem? hf), R'.sF _ _ hd, g1, q u F' H' s R' g2⟩
    | _ => exact q.elim
  · cases d with
    | exc c fs => exact Opt.imp (fun j q => Opt.imp (fun d => hk d ρ') q) q
    | _ => exact q.elim
/-- x.f of an object that x holds -/
def vFldO (i j c : Nat) : VT := fun _ ρ k => match ρ[i]? with
  | some (some (.own _ (.obj c' fs))) => c' = c ∧ Opt fs[j]? fun d => k d ρ
  | _ => False
theorem ve_fldO {i j c : Nat} {f x : Str} {pn : Pos} (hK : X.K = Y.K) (Fc : Fct Y.K cs es ask cat) (hc : c ∈ cs) (hf : (cflds c)[j]? = some f) (hN : X.N[i]? = some x) (hv : Vis X.env.scope x) (hb : attributeBase (.Name x pn) f X.env (eval (.Name x pn) X.env) = eval (.Name x pn) X.env := by rfl)
    (hd : (x == ("__debug__" : Str)) = false := by decide) (hcd : (x == ("__classdict__" : Str)) = false := by decide) : VE X Y er (.Attribute (.Name x pn) f pos) (vFldO i j c) := by
  refine ⟨PE.of (pe_fld (pe_var hN hv hd hcd) hb) fun σ H Q ⟨F, ρ, R, q⟩ => ?_, fun ρ k k' hk q => ?_⟩
  · unfold vFldO at q
    split at q
    · rename_i r c' fs e
      obtain ⟨rfl, q⟩ := q
      obtain ⟨d, ed, q⟩ := Opt.get q
      obtain ⟨a, h1, h2, h3, ⟨dx, vs, h4, h5⟩, _⟩ := R.own i r _ e
      obtain ⟨_, t2, t3⟩ := Fc.ty c' hc
      obtain ⟨u, g1, g2⟩ := h5.look (ws := []) (cflds_nd c') hf ed
      rw [List.append_nil] at g1
      rw [hK]
      exact ⟨_, h1, a, _, dx, vs, u, rfl, h4, t2, t3 f (List.mem_of_getElem? hf), g1, q u F H (Same.refl F) R g2⟩
    · exact q.elim
  · unfold vFldO at q ⊢
    split at q
    · rename_i r c' fs e
      exact ⟨q.1, Opt.imp (fun d => hk d ρ) q.2⟩
    · exact q.elim
/-- x.f = e -/
def vPutO (i j c : Nat) (t : VT) : VS := fun P ρ => t P.er ρ fun d ρ' => match ρ'[i]? with
  | some (some (.own r (.obj c' fs))) => c' = c ∧ Opt (putD j d fs) fun gs => P.nx (ρ'.set i (some (.own r (.obj c gs))))
  | _ => False
theorem RepF.few {K : PySem.W.Frag} {F : Hp} {c : Nat} {vs : List (Str × V)} {ds : List D} (r : RepF K F (cflds c) vs ds) : vs.length < 1000 := by
  have h1 := r.length
  have h2 := r.bound
  have h3 : (cflds c).length ≤ 20 := by
    unfold cflds
    split <;> decide +kernel
  omega
theorem vs_putO {i j c : Nat} {f x : Str} {pn pos' : Pos} {t : VT} (hK : X.K = Y.K) (Fc : Fct Y.K cs es ask cat) (hc : c ∈ cs) (hf : (cflds c)[j]? = some f) (hN : X.N[i]? = some x) (hv : Vis X.env.scope x) (he : VE X Y er e t)
    (hs : swapsWith e (some (.Attribute (.Name x pn) f pos')) pos.line X.env = pure false := by rfl) (hd : (x == ("__debug__" : Str)) = false := by decide) (hcd : (x == ("__classdict__" : Str)) = false := by decide) : VSt X Y er (.Assign [.Attribute (.Name x pn) f pos'] e pos) (vPutO i j c t) := by
  refine ⟨PS.of (ps_fldV (pe_var hN hv hd hcd) he.pe hs) fun D σ H ⟨F, ρ, P, R, q, ee, K⟩ => ⟨F, ρ, R, he.mono _ _ _ (fun d ρ' q v F' H' s R' r => ?_) (by rw [← ee]; exact q)⟩⟩
  split at q
  · rename_i r' c' fs e0
    obtain ⟨rfl, q⟩ := q
    obtain ⟨gs, eg, q⟩ := Opt.get q
    obtain ⟨a, h1, h2, h3, ⟨dx, vs, h4, h5⟩, _⟩ := R'.own i r' _ e0
    obtain ⟨_, t2, t3⟩ := Fc.ty c' hc
    rw [hK]
    refine ⟨_, h1, a, _, dx, vs, _, rfl, h4, t2, t3 f (List.mem_of_getElem? hf), h5.few, rfl, fun H2 w2 => ?_⟩
    have e2 : H2 = upd H' a (.ins (gac Y.K c') dx (putF f v vs)) := by
      funext b
      by_cases hb : b = a
      · rw [hb, w2.at_, upd_same]
      · rw [w2.oth b hb, upd_ne hb]
    subst e2
    exact K.nx F' _ σ _ s (R'.write (o' := .obj c' gs) e0 h1 (.inr ⟨_, _, _, h4⟩) ⟨dx, _, upd_same, h5.put (cflds_nd c') hf r eg⟩) q
  · exact q.elim
end
end PL

end
section
set_option maxHeartbeats 1000000
/-! The pure layer, eighth part: lists that change, walks, comprehensions. -/
namespace PL
open PySem PySem.Spec PyProof.Rows L2 SBX SB LamX
theorem wr_eq {H H' : Hp} {a : Addr} {o : HO} (w : Wr H a o H') : H' = upd H a o := by
  funext b
  by_cases hb : b = a
  · rw [hb, w.at_, upd_same]
  · rw [w.oth b hb, upd_ne hb]
/-- an object of no name is written -/
theorem Rel.writeN {Y : SE} {F H : Hp} {σ : L2.St} {ρ : PSt} (R : Rel Y F H σ ρ) {a : Addr} {xs ys : List V} (hx : H a = some (.lst xs)) (hF : F a = none) (hB : Y.B a = none) (no : ∀ i, ¬ OwnAt σ ρ i a) : Rel Y F (upd H a (.lst ys)) σ ρ := by
  have sF : Same F (upd H a (.lst ys)) := fun c w q => by rw [upd_ne (fun z => by rw [z, hF] at q; cases q)]; exact R.sF _ _ q
  refine ⟨R.s0, sF, R.nt, R.ntB, ?_, fun c w q => ?_, R.dis, R.len, R.imm, fun j r' o2 q => ?_, R.apart⟩
  · intro p hp
    obtain ⟨ps, h1, h2, h3⟩ := R.tabs p hp
    have ne : p.1 ≠ a := fun z => by rw [z, hx] at h1; cases h1
    refine ⟨ps, by rw [upd_ne ne]; exact h1, h2, fun pos cv hc => ?_⟩
    obtain ⟨c, e1, e2⟩ := h3 pos cv hc
    refine ⟨c, e1, ?_⟩
    have ne2 : c ≠ a := fun z => by
      rw [z, hx] at e2
      unfold CodeO at e2
      cases e2
    rw [upd_ne ne2]
    exact e2
  · rw [upd_ne (fun z => by rw [z, hB] at q; cases q)]
    exact R.sB _ _ q
  · obtain ⟨b, f1, f2, f3, f4, f5⟩ := R.own j r' o2 q
    have ne : b ≠ a := fun z => by
      subst z
      exact no j ⟨f1, r', o2, q⟩
    exact ⟨b, f1, f2, f3, f4.mono (Same.refl F) sF f2 (upd_ne ne), f5⟩
/-- slot i holds a list that may change -/
def atL (ρ : PSt) (i : Nat) (k : Bool → List D → Prop) : Prop := match ρ[i]? with
  | some (some (.own r (.lst xs))) => k r xs
  | _ => False
theorem atL.get {ρ : PSt} {i : Nat} {k : Bool → List D → Prop} (h : atL ρ i k) : ∃ r xs, ρ[i]? = some (some (.own r (.lst xs))) ∧ k r xs := by
  unfold atL at h
  split at h
  · exact ⟨_, _, by assumption, h⟩
  · exact h.elim
theorem atL.of {ρ : PSt} {i : Nat} {k : Bool → List D → Prop} {r : Bool} {xs : List D} (e : ρ[i]? = some (some (.own r (.lst xs)))) (h : k r xs) : atL ρ i k := by
  unfold atL
  rw [e]
  exact h
theorem atL.imp {ρ : PSt} {i : Nat} {k k' : Bool → List D → Prop} (f : ∀ r xs, k r xs → k' r xs) (h : atL ρ i k) : atL ρ i k' := by
  obtain ⟨r, xs, e, h⟩ := h.get
  exact .of e (f r xs h)
section
variable {X : Cx} {Y : SE} {er : ER} {pos : Pos} {a b e : Expr} {es : List Expr} {ta tb te : VT} {i : Nat} {x : Str} {pn apos : Pos}
/-- x.append(e) -/
def vApp (i : Nat) (t : VT) : VT := fun er ρ k => atL ρ i fun _ _ => t er ρ fun d ρ1 => atL ρ1 i fun r xs => xs.length < 16777216 ∧ k .non (ρ1.set i (some (.own r (.lst (xs ++ [d])))))
theorem ve_app (hN : X.N[i]? = some x) (hv : Vis X.env.scope x) (he : VE X Y er e te) (hd : (x == ("__debug__" : Str)) = false := by decide) (hcd : (x == ("__classdict__" : Str)) = false := by decide)
    (hbase : attributeBase (.Name x pn) "append" X.env (eval (.Name x pn) X.env) = eval (.Name x pn) X.env := by rfl) (hfew : ((backTo pos (starEach [e] X.env)).all (fun x => !x.1) && (backToKw pos (keywordEach [] X.env)).all (fun x => x.1.isSome)
      && decide ([e].length + ([] : List Keyword).length + (if ([] : List Keyword).isEmpty then 0 else 1) < 30)) = true := by rfl)
    (hline : (apos.endLine == pos.line) = true := by rfl) (hs : starEach [e] X.env = (false, eval e X.env) :: starEach [] X.env := by rfl) :
    VE X Y er (.Call (.Attribute (.Name x pn) "append" apos) [e] [] pos) (vApp i te) := by
  refine ⟨PE.of (pe_bm PySem.F.plainAttrs_list PySem.F.slot_list_append PySem.F.type_list_append mt_appendV (pe_var hN hv hd hcd) (pa_cons he.pe pa_nil hs) hbase hfew hline hs) fun σ H Q ⟨F, ρ, R, q⟩ => ?_, fun ρ k k' hk q => atL.imp (fun _ _ q => he.mono _ _ _ (fun d ρ1 q => atL.imp (fun r xs q => ⟨q.1, hk _ _ q.2⟩) q) q) q⟩
  obtain ⟨r0, xs0, e0, q⟩ := q.get
  obtain ⟨a, h1, h2, h3, ⟨vs, h4, h5⟩, _⟩ := R.own i r0 _ e0
  refine ⟨_, h1, .inl ⟨rfl, vs, .of h4⟩, F, ρ, R, he.mono _ _ _ (fun d ρ1 q v F1 H1 s1 R1 r1 => ?_) q⟩
  obtain ⟨r, xs, e1, hl, q⟩ := q.get
  obtain ⟨b, g1, g2, g3, ⟨us, g4, g5⟩, _⟩ := R1.own i r _ e1
  rw [h1] at g1
  cases g1
  refine ⟨a, us, v, rfl, rfl, g4, by rw [g5.length, sizeLine_eq]; exact hl, fun H2 w2 => ?_⟩
  rw [wr_eq w2]
  exact q _ F1 _ s1 (R1.write (o' := .lst (xs ++ [d])) e1 h1 (.inl ⟨_, g4⟩) ⟨_, upd_same, g5.append (.cons r1 .nil)⟩) .non
/-- x.pop() -/
def vPop (i : Nat) : VT := fun _ ρ k => atL ρ i fun r xs => Opt xs.getLast? fun d => k d (ρ.set i (some (.own r (.lst xs.dropLast))))
theorem RepL.dropLast {K : PySem.W.Frag} {F : Hp} {vs : List V} {ds : List D} (r : RepL K F vs ds) : RepL K F vs.dropLast ds.dropLast := by
  rw [List.dropLast_eq_take, List.dropLast_eq_take, r.length]
  exact r.take _
theorem ve_pop (hN : X.N[i]? = some x) (hv : Vis X.env.scope x) (hd : (x == ("__debug__" : Str)) = false := by decide) (hcd : (x == ("__classdict__" : Str)) = false := by decide)
    (hbase : attributeBase (.Name x pn) "pop" X.env (eval (.Name x pn) X.env) = eval (.Name x pn) X.env := by rfl) (hline : (apos.endLine == pos.line) = true := by rfl) : VE X Y er (.Call (.Attribute (.Name x pn) "pop" apos) [] [] pos) (vPop i) := by
  refine ⟨PE.of (pe_bm0 PySem.F.plainAttrs_list PySem.F.slot_list_pop PySem.F.type_list_pop mt_pop (pe_var hN hv hd hcd) hbase hline) fun σ H Q ⟨F, ρ, R, q⟩ => ?_, fun ρ k k' hk q => atL.imp (fun r xs q => Opt.imp (fun d q => hk _ _ q) q) q⟩
  obtain ⟨r, xs, e1, q⟩ := q.get
  obtain ⟨a, g1, g2, g3, ⟨us, g4, g5⟩, _⟩ := R.own i r _ e1
  obtain ⟨d, ed, q⟩ := Opt.get q
  rw [List.getLast?_eq_getElem?] at ed
  obtain ⟨v, hv, rv⟩ := g5.get ed
  refine ⟨_, g1, .inl ⟨rfl, us, .of g4⟩, a, us, v, rfl, rfl, g4, by rw [g5.length]; exact hv, ?_⟩
  exact q v F _ (Same.refl F) (R.write (o' := .lst xs.dropLast) e1 g1 (.inl ⟨_, g4⟩) ⟨_, upd_same, g5.dropLast⟩) rv
/-- x.extend(e) -/
def vExt (i : Nat) (t : VT) : VT := fun er ρ k => atL ρ i fun _ _ => t er ρ fun d ρ1 => match d with
  | .lst ys => atL ρ1 i fun r xs => xs.length + ys.length ≤ 16777216 ∧ k .non (ρ1.set i (some (.own r (.lst (xs ++ ys)))))
  | _ => False
theorem ve_ext (hN : X.N[i]? = some x) (hv : Vis X.env.scope x) (he : VE X Y er e te) (hd : (x == ("__debug__" : Str)) = false := by decide) (hcd : (x == ("__classdict__" : Str)) = false := by decide)
    (hbase : attributeBase (.Name x pn) "extend" X.env (eval (.Name x pn) X.env) = eval (.Name x pn) X.env := by rfl) (hfew : ((backTo pos (starEach [e] X.env)).all (fun x => !x.1) && (backToKw pos (keywordEach [] X.env)).all (fun x => x.1.isSome)
      && decide ([e].length + ([] : List Keyword).length + (if ([] : List Keyword).isEmpty then 0 else 1) < 30)) = true := by rfl)
    (hline : (apos.endLine == pos.line) = true := by rfl) (hs : starEach [e] X.env = (false, eval e X.env) :: starEach [] X.env := by rfl) :
    VE X Y er (.Call (.Attribute (.Name x pn) "extend" apos) [e] [] pos) (vExt i te) := by
  refine ⟨PE.of (pe_bm PySem.F.plainAttrs_list PySem.F.slot_list_extend PySem.F.type_list_extend mt_extend (pe_var hN hv hd hcd) (pa_cons he.pe pa_nil hs) hbase hfew hline hs) fun σ H Q ⟨F, ρ, R, q⟩ => ?_, fun ρ k k' hk q => atL.imp (fun _ _ q => he.mono _ _ _ (fun d ρ1 q => by
    cases d with
    | lst ys => exact atL.imp (fun r xs q => ⟨q.1, hk _ _ q.2⟩) q
    | _ => exact q.elim) q) q⟩
  obtain ⟨r0, xs0, e0, q⟩ := q.get
  obtain ⟨a, h1, h2, h3, ⟨vs, h4, h5⟩, _⟩ := R.own i r0 _ e0
  refine ⟨_, h1, .inl ⟨rfl, vs, .of h4⟩, F, ρ, R, he.mono _ _ _ (fun d ρ1 q v F1 H1 s1 R1 r1 => ?_) q⟩
  cases r1 with
  | @lst c ws ys hh rr =>
    obtain ⟨r, xs, e1, hl, q⟩ := q.get
    obtain ⟨b, g1, g2, g3, ⟨us, g4, g5⟩, _⟩ := R1.own i r _ e1
    rw [h1] at g1
    cases g1
    exact ⟨a, c, us, ws, rfl, rfl, g4, R1.sF _ _ hh, by rw [g5.length, rr.length, sizeLine_eq]; exact hl, q _ F1 _ s1 (R1.write (o' := .lst (xs ++ ys)) e1 h1 (.inl ⟨_, g4⟩) ⟨_, upd_same, g5.append rr⟩) .non⟩
  | _ => exact q.elim
/-- x[b] = e -/
def vPutI (i : Nat) (te tb : VT) : VS := fun P ρ => te P.er ρ fun d ρ1 => atL ρ1 i fun _ _ => tb P.er ρ1 fun n ρ2 => match n with
  | .int n => atL ρ2 i fun r xs => Opt (ixN xs.length n) fun j => P.nx (ρ2.set i (some (.own r (.lst (xs.set j d)))))
  | _ => False
theorem vs_putI {ps : Pos} (hN : X.N[i]? = some x) (hv : Vis X.env.scope x) (he : VE X Y er e te) (hb : VE X Y er b tb) (hd : (x == ("__debug__" : Str)) = false := by decide) (hcd : (x == ("__classdict__" : Str)) = false := by decide)
    (ha : ∀ v, assign (.Subscript (.Name x pn) b ps) X.env v = (do
      let ov ← holding [v] (eval (.Name x pn) X.env)
      let iv ← holding [v, ov] (eval b X.env)
      standAt ps
      holding [v, ov, iv] (setItem ov iv v)
      release [v, ov, iv] []) := by intro _; rfl)
    (hs : swapsWithSole [.Subscript (.Name x pn) b ps] e pos.line X.env = pure false := by rfl) (hw : swappedStores [.Subscript (.Name x pn) b ps] e X.env = pure none := by rfl)
    (h1 : (assignEach [.Subscript (.Name x pn) b ps] X.env).map (·.2) = [assign (.Subscript (.Name x pn) b ps) X.env] := by rfl) : VSt X Y er (.Assign [.Subscript (.Name x pn) b ps] e pos) (vPutI i te tb) := by
  refine ⟨PS.of (ps_asg he.pe (pg_sub (pe_var hN hv hd hcd) hb.pe set_listV ha) hs hw h1) fun D0 σ H ⟨F, ρ, P, R, q, ee, K⟩ => ⟨F, ρ, R, he.mono _ _ _ (fun d ρ1 q v F1 H1 s1 R1 r1 => ?_) (by rw [← ee]; exact q)⟩⟩
  obtain ⟨r0, xs0, e0, q⟩ := atL.get q
  obtain ⟨a, k1, k2, k3, ⟨vs, k4, k5⟩, _⟩ := R1.own i r0 _ e0
  refine ⟨_, k1, F1, ρ1, R1, hb.mono _ _ _ (fun n ρ2 q w F2 H2 s2 R2 r2 => ?_) (by rw [← ee]; exact q)⟩
  cases n with
  | int n =>
    cases r2
    obtain ⟨r, xs, e1, q⟩ := atL.get q
    obtain ⟨j, ej, q⟩ := Opt.get q
    obtain ⟨c, g1, g2, g3, ⟨us, g4, g5⟩, _⟩ := R2.own i r _ e1
    rw [k1] at g1
    cases g1
    refine ⟨a, us, n, j, _, rfl, rfl, g4, by rw [g5.length]; exact ej, rfl, fun H3 w3 => ?_⟩
    rw [wr_eq w3]
    exact K.nx F2 _ σ _ (s1.trans s2) (R2.write (o' := .lst (xs.set j d)) e1 k1 (.inl ⟨_, g4⟩) ⟨_, upd_same, g5.set j (r1.mono s2)⟩) q
  | _ => exact q.elim
/-! ### what is walked -/
theorem PI.of {tg iter : Expr} {t t' : TI} (h : PI X tg iter t) (i : ∀ σ H R, t' σ H R → t σ H R) : PI X tg iter t' := ⟨fun pins s σ H R I q => h.run pins s σ H R I (i σ H R q)⟩
def seqD : D → Option (List D)
  | .lst xs => some xs
  | .tup xs => some xs
  | .str l => some (l.map fun c => .str [c])
  | _ => none
theorem yields_list {K : PySem.W.Frag} {F : Hp} {a : Addr} {vs : List V} {ds : List D} (h : F a = some (.lst vs)) (r : RepL K F vs ds) : Yields K F (Itl K a) ds where
  go := fun i H s hi => by
    obtain ⟨v, h1, _⟩ := r.get (List.getElem?_eq_getElem hi)
    exact ⟨vs, v, .of (s _ _ h), h1⟩
  stop := fun H s => ⟨vs, .of (s _ _ h), by rw [r.length]; exact Nat.le_refl _⟩
  yld := fun i H x H' d s hd y => by
    obtain ⟨e, y⟩ := y
    obtain ⟨v, h1, h2⟩ := r.get hd
    have := y vs (.of (s _ _ h))
    rw [h1] at this
    cases this
    exact .inl ⟨e, h2⟩
theorem yields_tup {K : PySem.W.Frag} {F : Hp} {a : Addr} {vs : List V} {ds : List D} (h : SqT K F a vs) (r : RepL K F vs ds) : Yields K F (Itt K a) ds where
  go := fun i H s hi => by
    obtain ⟨v, h1, _⟩ := r.get (List.getElem?_eq_getElem hi)
    exact ⟨vs, v, sqT_same s h, h1⟩
  stop := fun H s => ⟨vs, sqT_same s h, by rw [r.length]; exact Nat.le_refl _⟩
  yld := fun i H x H' d s hd y => by
    obtain ⟨e, y⟩ := y
    obtain ⟨v, h1, h2⟩ := r.get hd
    have := y vs (sqT_same s h)
    rw [h1] at this
    cases this
    exact .inl ⟨e, h2⟩
theorem yields_str {K : PySem.W.Frag} {F : Hp} {l : List Nat} (hc : Cps l) : Yields K F (Its (tx l)) (l.map fun c => D.str [c]) where
  go := fun i H s hi => by show i < (tx l).cps.size; simpa using hi
  stop := fun H s => by show (tx l).cps.size ≤ _; simp
  yld := fun i H x H' d s hd y => by
    obtain ⟨e, c, h1, rfl⟩ := y
    have h2 : l[i]? = some c := by simpa using h1
    rw [List.getElem?_map, h2] at hd
    cases hd
    exact .inl ⟨e, .str [c] (fun z hz => by rw [List.mem_singleton.mp hz]; exact hc c (List.mem_of_getElem? h2))⟩
def rngD (lo : Int) (n : Nat) : List D := (List.range n).map fun (i : Nat) => D.int (lo + i)
theorem yields_rng {K : PySem.W.Frag} {F : Hp} (lo : Int) (n : Nat) : Yields K F (Itr lo n) (rngD lo n) where
  go := fun i H s hi => by show i < n; simpa [rngD] using hi
  stop := fun H s => by show n ≤ _; simp [rngD]
  yld := fun i H x H' d s hd y => by
    obtain ⟨e, rfl⟩ := y
    unfold rngD at hd
    rw [List.getElem?_map] at hd
    cases q : (List.range n)[i]? with
    | none => rw [q] at hd; cases hd
    | some j =>
      rw [q] at hd
      cases hd
      have : j = i := by
        rw [List.getElem?_range] at q
        · cases q; rfl
        · have := (List.getElem?_eq_some_iff.mp q).1
          simpa using this
      subst this
      exact .inl ⟨e, .int _⟩
def enumD : Nat → List D → List D
  | _, [] => []
  | n, d :: ds => .tup [.int (n : Int), d] :: enumD (n + 1) ds
theorem enumD_length : ∀ (n : Nat) (ds : List D), (enumD n ds).length = ds.length
  | _, [] => rfl
  | n, d :: ds => by simp [enumD, enumD_length (n + 1) ds]
theorem enumD_get : ∀ (ds : List D) (n i : Nat), (enumD n ds)[i]? = (ds[i]?).map fun d => .tup [.int ((n + i : Nat) : Int), d]
  | [], _, _ => by simp [enumD]
  | d :: ds, n, 0 => by simp [enumD]
  | d :: ds, n, i + 1 => by
    simp only [enumD, List.getElem?_cons_succ]
    rw [enumD_get ds (n + 1) i]
    have : n + 1 + i = n + (i + 1) := by omega
    rw [this]
theorem yields_enum {K : PySem.W.Frag} {F : Hp} {a : Addr} {vs : List V} {ds : List D} (h : F a = some (.lst vs)) (r : RepL K F vs ds) : Yields K F (Ite K a) (enumD 0 ds) where
  go := fun i H s hi => by
    rw [enumD_length] at hi
    obtain ⟨v, h1, _⟩ := r.get (List.getElem?_eq_getElem hi)
    exact ⟨vs, v, .of (s _ _ h), h1⟩
  stop := fun H s => ⟨vs, .of (s _ _ h), by rw [r.length, enumD_length]; exact Nat.le_refl _⟩
  yld := fun i H x H' d s hd y => by
    obtain ⟨T0, x0, rfl, h1, rfl, y⟩ := y
    rw [enumD_get] at hd
    cases q : ds[i]? with
    | none => rw [q] at hd; cases hd
    | some e =>
      rw [q] at hd
      cases hd
      obtain ⟨v, g1, g2⟩ := r.get q
      have := y vs (.of (s _ _ h))
      rw [g1] at this
      cases this
      have s2 : Same F (upd F T0 (.tup [.int (i : Nat), x0])) := fun b u z => by rw [upd_ne (fun w => by rw [w] at z; have := s _ _ z; rw [h1] at this; cases this)]; exact z
      refine .inr ⟨T0, .tup [.int (i : Nat), x0], h1, (fun _ z => nomatch z), rfl, .tup (.of upd_same) ?_⟩
      rw [Nat.zero_add]
      exact .cons (.int _) (.cons (g2.mono s2) .nil)
theorem yields_enumS {K : PySem.W.Frag} {F : Hp} {l : List Nat} (hc : Cps l) : Yields K F (Itn (tx l)) (enumD 0 (l.map fun c => D.str [c])) where
  go := fun i H s hi => by show i < (tx l).cps.size; rw [enumD_length] at hi; simpa using hi
  stop := fun H s => by show (tx l).cps.size ≤ _; rw [enumD_length]; simp
  yld := fun i H x H' d s hd y => by
    obtain ⟨T0, c, rfl, h1, rfl, h2⟩ := y
    have h3 : l[i]? = some c := by simpa using h2
    rw [enumD_get, List.getElem?_map, h3] at hd
    cases hd
    refine .inr ⟨T0, .tup [.int (i : Nat), T [c]], h1, (fun _ z => nomatch z), rfl, .tup (.of upd_same) ?_⟩
    rw [Nat.zero_add]
    exact .cons (.int _) (.cons (.str [c] (fun z hz => by rw [List.mem_singleton.mp hz]; exact hc c (List.mem_of_getElem? h3))) .nil)
theorem yields_zip {K : PySem.W.Frag} {F : Hp} {a b : Addr} {vs us : List V} {ds es : List D} (h : F a = some (.lst vs)) (r : RepL K F vs ds) (h' : F b = some (.lst us)) (r' : RepL K F us es) : Yields K F (Itz K a b) (List.zipWith (fun x y => D.tup [x, y]) ds es) where
  go := fun i H s hi => by
    rw [List.length_zipWith] at hi
    obtain ⟨v, h1, _⟩ := r.get (List.getElem?_eq_getElem (show i < ds.length by omega))
    obtain ⟨u, h2, _⟩ := r'.get (List.getElem?_eq_getElem (show i < es.length by omega))
    exact ⟨vs, us, v, u, .of (s _ _ h), .of (s _ _ h'), h1, h2⟩
  stop := fun H s => ⟨vs, us, .of (s _ _ h), .of (s _ _ h'), by rw [r.length, r'.length, List.length_zipWith]; omega⟩
  yld := fun i H x H' d s hd y => by
    obtain ⟨T0, x0, y0, rfl, h1, rfl, y1, y2⟩ := y
    rw [List.getElem?_zipWith] at hd
    cases q : ds[i]? with
    | none => rw [q] at hd; cases hd
    | some e =>
      cases q' : es[i]? with
      | none => rw [q, q'] at hd; cases hd
      | some e' =>
        rw [q, q'] at hd
        cases hd
        obtain ⟨v, g1, g2⟩ := r.get q
        obtain ⟨u, g3, g4⟩ := r'.get q'
        have z1 := y1 vs (.of (s _ _ h))
        have z2 := y2 us (.of (s _ _ h'))
        rw [g1] at z1
        rw [g3] at z2
        cases z1
        cases z2
        have s2 : Same F (upd F T0 (.tup [x0, y0])) := fun b u z => by rw [upd_ne (fun w => by rw [w] at z; have := s _ _ z; rw [h1] at this; cases this)]; exact z
        exact .inr ⟨T0, .tup [x0, y0], h1, (fun _ z => nomatch z), rfl, .tup (.of upd_same) (.cons (g2.mono s2) (.cons (g4.mono s2) .nil))⟩
/-- a list, a tuple, a text, by the kind that is known of it -/
def vItL (t : VT) : VI := fun er ρ k => t er ρ fun d ρ' => match d with
  | .lst xs => k xs ρ'
  | _ => False
def vItT (t : VT) : VI := fun er ρ k => t er ρ fun d ρ' => match d with
  | .tup xs => k xs ρ'
  | _ => False
def vItS (t : VT) : VI := fun er ρ k => t er ρ fun d ρ' => match d with
  | .str l => k (l.map fun c => .str [c]) ρ'
  | _ => False
theorem vi_lst {tg : Expr} (hK : X.K = Y.K) (ha : VE X Y er a ta) : VIt X Y er tg a (vItL ta) := by
  refine ⟨PI.of (pi_list ha.pe) fun σ H R0 ⟨F, ρ, R, q⟩ => ⟨F, ρ, R, ha.mono _ _ _ (fun d ρ' q v F' H' s R' r => ?_) q⟩, fun ρ k k' hk q => ha.mono _ _ _ (fun d ρ' q => ?_) q⟩
  · cases d with
    | lst xs =>
      cases r with
      | @lst a vs ds h r => exact ⟨a, rfl, ⟨vs, .of (R'.sF _ _ h)⟩, hK ▸ q F' H' _ s R' (yields_list h r)⟩
    | _ => exact q.elim
  · cases d with
    | lst xs => exact hk _ _ q
    | _ => exact q.elim
theorem vi_tup {tg : Expr} (hK : X.K = Y.K) (ha : VE X Y er a ta) : VIt X Y er tg a (vItT ta) := by
  refine ⟨PI.of (pi_tup ha.pe) fun σ H R0 ⟨F, ρ, R, q⟩ => ⟨F, ρ, R, ha.mono _ _ _ (fun d ρ' q v F' H' s R' r => ?_) q⟩, fun ρ k k' hk q => ha.mono _ _ _ (fun d ρ' q => ?_) q⟩
  · cases d with
    | tup xs =>
      cases r with
      | @tup a vs ds h r => exact ⟨a, rfl, ⟨vs, hK ▸ sqT_same R'.sF h⟩, hK ▸ q F' H' _ s R' (yields_tup h r)⟩
    | _ => exact q.elim
  · cases d with
    | tup xs => exact hk _ _ q
    | _ => exact q.elim
theorem vi_str {tg : Expr} (ha : VE X Y er a ta) : VIt X Y er tg a (vItS ta) := by
  refine ⟨PI.of (pi_str ha.pe) fun σ H R0 ⟨F, ρ, R, q⟩ => ⟨F, ρ, R, ha.mono _ _ _ (fun d ρ' q v F' H' s R' r => ?_) q⟩, fun ρ k k' hk q => ha.mono _ _ _ (fun d ρ' q => ?_) q⟩
  · cases d with
    | str l =>
      cases r with
      | str l hc => exact ⟨tx l, rfl, q F' H' _ s R' (yields_str hc)⟩
    | _ => exact q.elim
  · cases d with
    | str l => exact hk _ _ q
    | _ => exact q.elim
def vRng1 (t : VA) : VI := fun er ρ k => t er ρ fun ds ρ' => match ds with
  | [.int j] => (-(2 ^ 62) ≤ j ∧ j < 2 ^ 62) ∧ k (rngD 0 j.toNat) ρ'
  | _ => False
def vRng2 (t : VA) : VI := fun er ρ k => t er ρ fun ds ρ' => match ds with
  | [.int i, .int j] => (-(2 ^ 62) ≤ i ∧ i < 2 ^ 62 ∧ -(2 ^ 62) ≤ j ∧ j < 2 ^ 62) ∧ k (rngD i (j - i).toNat) ρ'
  | _ => False
theorem one_int {g : Int → Prop} {ds : List D} (h : match ds with | [.int i] => g i | _ => False) : ∃ i, ds = [.int i] ∧ g i := by
  split at h
  · exact ⟨_, rfl, h⟩
  · exact h.elim
theorem vi_rng1 {tg : Expr} {t : VA} {p : Pos} (hg : Gl X "range") (hm : X.mg "range" = none) (ha : VAs X Y er [a] t) (hs : starEach [a] X.env = [(false, eval a X.env)] := by rfl) : VIt X Y er tg (.Call (.Name "range" p) [a] [] pos) (vRng1 t) := by
  refine ⟨PI.of (pi_range1 hg hm ha.pa hs) fun σ H R0 ⟨F, ρ, R, q⟩ => ⟨F, ρ, R, ha.mono _ _ _ (fun ds ρ' q vs F' H' s R' r => ?_) q⟩, fun ρ k k' hk q => ha.mono _ _ _ (fun ds ρ' q => ?_) q⟩
  · obtain ⟨j, rfl, ⟨h1, h2⟩, q⟩ := one_int q
    cases r with
    | cons r rr =>
    cases rr
    cases r
    exact ⟨j, rfl, h1, h2, q F' H' _ s R' (yields_rng 0 _)⟩
  · obtain ⟨j, rfl, h, q⟩ := one_int q
    exact ⟨h, hk _ _ q⟩
theorem vi_rng2 {tg : Expr} {t : VA} {p : Pos} (hg : Gl X "range") (hm : X.mg "range" = none) (ha : VAs X Y er [a, b] t) (hs : starEach [a, b] X.env = [(false, eval a X.env), (false, eval b X.env)] := by rfl) (hs2 : starEach [b] X.env = [(false, eval b X.env)] := by rfl) : VIt X Y er tg (.Call (.Name "range" p) [a, b] [] pos) (vRng2 t) := by
  refine ⟨PI.of (pi_range2 hg hm ha.pa hs hs2) fun σ H R0 ⟨F, ρ, R, q⟩ => ⟨F, ρ, R, ha.mono _ _ _ (fun ds ρ' q vs F' H' s R' r => ?_) q⟩, fun ρ k k' hk q => ha.mono _ _ _ (fun ds ρ' q => ?_) q⟩
  · obtain ⟨i, j, rfl, h1, q⟩ := two_ints (P := fun _ => True) q
    cases r with
    | cons r rr =>
    cases rr with
    | cons r' rr =>
    cases rr
    cases r
    cases r'
    exact ⟨i, j, rfl, h1, q F' H' _ s R' (yields_rng i _)⟩
  · obtain ⟨i, j, rfl, h, q⟩ := two_ints (P := fun _ => True) q
    exact ⟨h, hk _ _ q⟩
def vEnumL (t : VA) : VI := fun er ρ k => t er ρ fun ds ρ' => match ds with
  | [.lst xs] => k (enumD 0 xs) ρ'
  | _ => False
def vEnumS (t : VA) : VI := fun er ρ k => t er ρ fun ds ρ' => match ds with
  | [.str l] => k (enumD 0 (l.map fun c => .str [c])) ρ'
  | _ => False
theorem one_lst {g : List D → Prop} {ds : List D} (h : match ds with | [.lst i] => g i | _ => False) : ∃ i, ds = [.lst i] ∧ g i := by
  split at h
  · exact ⟨_, rfl, h⟩
  · exact h.elim
theorem one_str {g : List Nat → Prop} {ds : List D} (h : match ds with | [.str i] => g i | _ => False) : ∃ i, ds = [.str i] ∧ g i := by
  split at h
  · exact ⟨_, rfl, h⟩
  · exact h.elim
theorem two_lst {g : List D → List D → Prop} {ds : List D} (h : match ds with | [.lst i, .lst j] => g i j | _ => False) : ∃ i j, ds = [.lst i, .lst j] ∧ g i j := by
  split at h
  · exact ⟨_, _, rfl, h⟩
  · exact h.elim
theorem vi_enumL {t : VA} {p tpos : Pos} {elts : List Expr} {kk : Nat} (hK : X.K = Y.K) (hg : Gl X "enumerate") (hm : X.mg "enumerate" = none) (ha : VAs X Y er [a] t) (hs : starEach [a] X.env = [(false, eval a X.env)] := by rfl) : VIt X Y er (.Tuple elts kk tpos) (.Call (.Name "enumerate" p) [a] [] pos) (vEnumL t) := by
  refine ⟨PI.of (pi_enum hg hm ha.pa hs) fun σ H R0 ⟨F, ρ, R, q⟩ => ⟨F, ρ, R, ha.mono _ _ _ (fun ds ρ' q vs F' H' s R' r => ?_) q⟩, fun ρ k k' hk q => ha.mono _ _ _ (fun ds ρ' q => ?_) q⟩
  · obtain ⟨xs, rfl, q⟩ := one_lst q
    cases r with
    | cons r rr =>
    cases rr
    cases r with
    | @lst a vs ds h r => exact ⟨a, vs, rfl, .of (R'.sF _ _ h), hK ▸ q F' H' _ s R' (yields_enum h r)⟩
  · obtain ⟨xs, rfl, q⟩ := one_lst q
    exact hk _ _ q
theorem vi_enumS {t : VA} {p tpos : Pos} {elts : List Expr} {kk : Nat} (hm : X.mg "enumerate" = none) (ha : VAs X Y er [a] t) (hg : Gl X "enumerate" := by rfl) (hs : starEach [a] X.env = [(false, eval a X.env)] := by rfl) : VIt X Y er (.Tuple elts kk tpos) (.Call (.Name "enumerate" p) [a] [] pos) (vEnumS t) := by
  refine ⟨PI.of (pi_enumS hm ha.pa hg hs) fun σ H R0 ⟨F, ρ, R, q⟩ => ⟨F, ρ, R, ha.mono _ _ _ (fun ds ρ' q vs F' H' s R' r => ?_) q⟩, fun ρ k k' hk q => ha.mono _ _ _ (fun ds ρ' q => ?_) q⟩
  · obtain ⟨l, rfl, q⟩ := one_str q
    cases r with
    | cons r rr =>
    cases rr
    cases r with
    | str l hc => exact ⟨tx l, rfl, q F' H' _ s R' (yields_enumS hc)⟩
  · obtain ⟨xs, rfl, q⟩ := one_str q
    exact hk _ _ q
def vZip (t : VA) : VI := fun er ρ k => t er ρ fun ds ρ' => match ds with
  | [.lst xs, .lst ys] => k (List.zipWith (fun x y => D.tup [x, y]) xs ys) ρ'
  | _ => False
theorem vi_zip {t : VA} {p tpos : Pos} {elts : List Expr} {kk : Nat} (hK : X.K = Y.K) (hg : Gl X "zip") (hm : X.mg "zip" = none) (ha : VAs X Y er [a, b] t) (hs : starEach [a, b] X.env = (false, eval a X.env) :: starEach [b] X.env := by rfl) (hpl : (backTo pos (starEach [b] X.env)).any (·.1) = false := by rfl) :
    VIt X Y er (.Tuple elts kk tpos) (.Call (.Name "zip" p) [a, b] [] pos) (vZip t) := by
  refine ⟨PI.of (pi_zip hg hm ha.pa hs hpl) fun σ H R0 ⟨F, ρ, R, q⟩ => ⟨F, ρ, R, ha.mono _ _ _ (fun ds ρ' q vs F' H' s R' r => ?_) q⟩, fun ρ k k' hk q => ha.mono _ _ _ (fun ds ρ' q => ?_) q⟩
  · obtain ⟨xs, ys, rfl, q⟩ := two_lst q
    cases r with
    | cons r rr =>
    cases rr with
    | cons r' rr =>
    cases rr
    cases r with
    | @lst a vs ds h r =>
    cases r' with
    | @lst b us es h' r' => exact ⟨a, b, vs, us, rfl, .of (R'.sF _ _ h), .of (R'.sF _ _ h'), hK ▸ q F' H' _ s R' (yields_zip h r h' r')⟩
  · obtain ⟨xs, ys, rfl, q⟩ := two_lst q
    exact hk _ _ q
/-! ### comprehensions -/
def wipeP (ρ : PSt) : List Nat → PSt
  | [] => ρ
  | v :: vs => (wipeP ρ vs).set v none
theorem wipeP_length (ρ : PSt) : ∀ vs : List Nat, (wipeP ρ vs).length = ρ.length
  | [] => rfl
  | v :: vs => by show ((wipeP ρ vs).set v none).length = _; rw [List.length_set, wipeP_length ρ vs]
theorem wipeP_some {ρ : PSt} {i : Nat} {p : PV} : ∀ {vs : List Nat}, (wipeP ρ vs)[i]? = some (some p) → ρ[i]? = some (some p) ∧ i ∉ vs
  | [], h => ⟨h, by simp⟩
  | v :: vs, h => by
    have h : ((wipeP ρ vs).set v none)[i]? = some (some p) := h
    by_cases hi : v = i
    · subst hi
      by_cases hv : v < (wipeP ρ vs).length
      · rw [List.getElem?_set_self hv] at h; cases h
      · rw [List.getElem?_eq_none (by simpa using hv)] at h; cases h
    · rw [List.getElem?_set_ne hi] at h
      obtain ⟨h1, h2⟩ := wipeP_some h
      exact ⟨h1, by simp only [List.mem_cons, not_or]; exact ⟨fun e => hi e.symm, h2⟩⟩
theorem wipe_get {σ : L2.St} {i : Nat} : ∀ {vs : List Nat}, i ∉ vs → (wipe σ vs)[i]? = σ[i]?
  | [], _ => rfl
  | v :: vs, h => by
    simp only [List.mem_cons, not_or] at h
    show ((wipe σ vs).set v none)[i]? = _
    rw [List.getElem?_set_ne (fun e => h.1 e.symm)]
    exact wipe_get h.2
theorem only_wipe {ws vs : List Nat} {σ σ' : L2.St} (h : Only ws σ σ') (hs : ∀ w ∈ ws, w ∈ vs) : wipe σ' vs = wipe σ vs := by
  refine List.ext_getElem? fun i => ?_
  by_cases hi : i ∈ vs
  · have n : ∀ (σ : L2.St), ∀ vs : List Nat, i ∈ vs → (wipe σ vs)[i]? = if i < σ.length then some none else none := fun σ vs => by
      induction vs with
      | nil => intro h; cases h
      | cons v vs ih =>
        intro h
        show ((wipe σ vs).set v none)[i]? = _
        by_cases e : v = i
        · subst e
          by_cases hv : v < σ.length
          · rw [List.getElem?_set_self (by rw [wipe_length]; exact hv), if_pos hv]
          · rw [List.getElem?_eq_none (by rw [List.length_set, wipe_length]; omega), if_neg hv]
        · rw [List.getElem?_set_ne e]
          rcases List.mem_cons.mp h with h | h
          · exact absurd h.symm e
          · exact ih h
    rw [n σ' vs hi, n σ vs hi, h.1]
  · rw [wipe_get hi, wipe_get hi]
    exact h.2 i fun z => hi (hs i z)
theorem Rel.swap {F H : Hp} {σ σ' : L2.St} {ρ ρ' : PSt} (R : Rel Y F H σ ρ) (hl : ρ'.length = ρ.length) (hσ : σ'.length = σ.length) (h : ∀ (i : Nat) (p : PV), ρ'[i]? = some (some p) → ρ[i]? = some (some p) ∧ σ'[i]? = σ[i]?) : Rel Y F H σ' ρ' := by
  have at_ : ∀ {i : Nat} {a : Addr}, OwnAt σ' ρ' i a → OwnAt σ ρ i a := fun {i a} ⟨h1, r, o, h2⟩ => by
    obtain ⟨g1, g2⟩ := h i _ h2
    exact ⟨by rw [← g2]; exact h1, r, o, g1⟩
  refine ⟨R.s0, R.sF, R.nt, R.ntB, R.tabs, R.sB, R.dis, by rw [hσ, R.len, hl], fun i d e => ?_, fun i r o e => ?_, fun i j a hij h1 h2 => R.apart i j a hij (at_ h1) (at_ h2)⟩
  · obtain ⟨g1, g2⟩ := h i _ e
    obtain ⟨v, h1, h2⟩ := R.imm i d g1
    exact ⟨v, by rw [g2]; exact h1, h2⟩
  · obtain ⟨g1, g2⟩ := h i _ e
    obtain ⟨a, h1, h2⟩ := R.own i r o g1
    exact ⟨a, by rw [g2]; exact h1, h2⟩
theorem Rel.wipe {F H : Hp} {σ : L2.St} {ρ : PSt} (R : Rel Y F H σ ρ) (vs : List Nat) : Rel Y F H (L2.wipe σ vs) (wipeP ρ vs) :=
  R.swap (wipeP_length ρ vs) (wipe_length σ vs) fun i p e => by
    obtain ⟨h1, h2⟩ := wipeP_some e
    exact ⟨h1, wipe_get h2⟩
theorem Rel.unwipe {F H : Hp} {σ σ' : L2.St} {ρ : PSt} {vs : List Nat} (R : Rel Y F H σ' ρ) (h : L2.wipe σ' vs = L2.wipe σ vs) : Rel Y F H σ (wipeP ρ vs) := by
  have hl : σ.length = σ'.length := by
    have := congrArg List.length h
    rw [wipe_length, wipe_length] at this
    exact this.symm
  refine R.swap (wipeP_length ρ vs) hl fun i p e => ?_
  obtain ⟨h1, h2⟩ := wipeP_some e
  refine ⟨h1, ?_⟩
  have := congrArg (fun z : L2.St => z[i]?) h
  simp only [wipe_get h2] at this
  exact this.symm
def lcL (g : VG) (tt : VB) (te : VT) (vs : List Nat) : List D → List D → PSt → (List D → PSt → Prop) → Prop
  | [], acc, ρ, k => k acc ρ
  | d :: ds, acc, ρ, k => g d (wipeP ρ vs) fun ρ2 => tt noE ρ2 fun b ρ3 => if b = true then te noE ρ3 fun x ρ4 => lcL g tt te vs ds (acc ++ [x]) (wipeP ρ4 vs) k else lcL g tt te vs ds acc (wipeP ρ3 vs) k
def vYes : VB := fun _ ρ k => k true ρ
def vLc (wi : VI) (g : VG) (tt : VB) (te : VT) (vs : List Nat) : VO := fun er ρ k => wi er ρ fun ds ρ1 => ds.length < 16777216 ∧ lcL g tt te vs ds [] ρ1 fun acc ρ2 => k (.own false (.lst acc)) ρ2
structure VTss (X : Cx) (Y : SE) (ifs : List Expr) (t : VB) : Prop where
  pts : PTs X ifs (tT Y noE t)
  mono : ∀ ρ k k', (∀ b ρ, k b ρ → k' b ρ) → t noE ρ k → t noE ρ k'
theorem PTs.of {e : List Expr} {t t' : TT} (h : PTs X e t) (i : ∀ σ H Q, t' σ H Q → t σ H Q) : PTs X e t' := ⟨fun pins s σ H Q I q => h.run pins s σ H Q I (i σ H Q q)⟩
theorem vts_nil : VTss X Y [] vYes := ⟨PTs.of pts_nil fun σ H Q ⟨F, ρ, R, q⟩ => q F H (Same.refl F) R, fun ρ k k' hk q => hk _ _ q⟩
theorem vts_one {c : Expr} {t : VB} (h : VTs X Y noE c t) : VTss X Y [c] t := ⟨pts_one h.pt, h.mono⟩
theorem lcL_mono {g : VG} {tt : VB} {te : VT} {vs : List Nat} (hg : ∀ d ρ (k k' : PSt → Prop), (∀ ρ, k ρ → k' ρ) → g d ρ k → g d ρ k') (ht : ∀ ρ k k', (∀ b ρ, k b ρ → k' b ρ) → tt noE ρ k → tt noE ρ k') (he : ∀ ρ k k', (∀ d ρ, k d ρ → k' d ρ) → te noE ρ k → te noE ρ k') {k k' : List D → PSt → Prop} (hk : ∀ ds ρ, k ds ρ → k' ds ρ) : ∀ (ds acc : List D) (ρ : PSt), lcL g tt te vs ds acc ρ k → lcL g tt te vs ds acc ρ k'
  | [], acc, ρ, q => hk _ _ q
  | d :: ds, acc, ρ, q => hg _ _ _ _ (fun ρ2 q => ht _ _ _ (fun b ρ3 q => by
      cases b with
      | true => exact he _ _ _ (fun x ρ4 q => lcL_mono hg ht he hk ds _ _ q) q
      | false => exact lcL_mono hg ht he hk ds _ _ q) q) q
variable {elt tg iter : Expr} {ifs : List Expr} {scope : Scope} {own : List (Str × Nat)} {wi : VI} {g : VG} {tt : VB} {ws : List Nat}
/-- the reading of a comprehension, from the layer's -/
theorem lc_ok (hi : VIt X Y er tg iter wi) (hws : ∀ v ∈ ws, v ∈ own.map (·.2))
    (hg : ∀ (s : Shared) (H : Hp) (C : Addr) (cl : List (Str × Addr)) (fp : List Addr) (B : Hp), VGt (X.blk s H scope (compEnvC scope cl C X.env) fp) { Y with B := B } tg ws g) (ht : ∀ (s : Shared) (H : Hp) (C : Addr) (cl : List (Str × Addr)) (fp : List Addr) (B : Hp), VTss (X.blk s H scope (compEnvC scope cl C X.env) fp) { Y with B := B } ifs tt)
    (he : ∀ (s : Shared) (H : Hp) (C : Addr) (cl : List (Str × Addr)) (fp : List Addr) (B : Hp), VE (X.blk s H scope (compEnvC scope cl C X.env) fp) { Y with B := B } noE elt te) :
    (∀ ρ k k', (∀ p ρ, k p ρ → k' p ρ) → vLc wi g tt te (own.map (·.2)) er ρ k → vLc wi g tt te (own.map (·.2)) er ρ k') ∧
    ∃ gg ttt tee, (∀ (s : Shared) (H : Hp) (C : Addr) (cl : List (Str × Addr)) (fp : List Addr), PG (X.blk s H scope (compEnvC scope cl C X.env) fp) tg gg) ∧ (∀ (s : Shared) (H : Hp) (C : Addr) (cl : List (Str × Addr)) (fp : List Addr), PTs (X.blk s H scope (compEnvC scope cl C X.env) fp) ifs ttt) ∧
      (∀ (s : Shared) (H : Hp) (C : Addr) (cl : List (Str × Addr)) (fp : List Addr), PE (X.blk s H scope (compEnvC scope cl C X.env) fp) elt tee) ∧ ∀ σ H Q, tO Y er (vLc wi g tt te (own.map (·.2))) σ H Q → tLc (tI Y er wi) gg ttt tee (own.map (·.2)) σ H Q := by
  have X0 : Shared := X.s_0
  have mg := fun B => (hg X0 (fun _ => none) 0 [] [] B).mono
  have mt := fun B => (ht X0 (fun _ => none) 0 [] [] B).mono
  have me := fun B => (he X0 (fun _ => none) 0 [] [] B).mono
  refine ⟨fun ρ k k' hk q => hi.mono _ _ _ (fun ds ρ1 q => ⟨q.1, lcL_mono (mg (fun _ => none)) (mt (fun _ => none)) (me (fun _ => none)) (fun ds ρ => hk _ ρ) _ _ _ q.2⟩) q, ?_⟩
  refine ⟨fun v σ H Q => ∃ B, tG { Y with B := B } ws g v σ H Q, fun σ H Q => ∃ B, tT { Y with B := B } noE tt σ H Q, fun σ H Q => ∃ B, tE { Y with B := B } noE te σ H Q, fun s H C cl fp => ?_, fun s H C cl fp => ?_, fun s H C cl fp => ?_, fun σ H Q h => ?_⟩
  · exact ⟨fun pins s1 σ H v u Q I r ⟨B, q⟩ => (hg s _ C cl fp B).pg.run pins s1 σ H v u Q I r q⟩
  · exact ⟨fun pins s1 σ H Q I ⟨B, q⟩ => (ht s _ C cl fp B).pts.run pins s1 σ H Q I q⟩
  · exact ⟨fun pins s1 σ H Q I ⟨B, q⟩ => (he s _ C cl fp B).pe.run pins s1 σ H Q I q⟩
  obtain ⟨F, ρ, R, q⟩ := h
  refine ⟨F, ρ, R, hi.mono _ _ _ (fun ds ρ1 q F1 H1 J s1 R1 yl => ?_) q⟩
  obtain ⟨hlen, q⟩ := q
  intro L hL
  have FL : F1 L = none := R1.sF.free hL
  have BL : Y.B L = none := R1.sB.free hL
  -- ahead of the i-th turn
  refine ⟨fun i m H => m = ds.length - i ∧ i ≤ ds.length ∧ ∃ F2 ρ2 accV acc, Same F1 F2 ∧ Rel Y F2 H σ ρ2 ∧ H L = some (.lst accV) ∧ F2 L = none ∧ (∀ j, ¬ OwnAt σ ρ2 j L) ∧ RepL Y.K F2 accV acc ∧ acc.length ≤ i ∧ lcL g tt te (own.map (·.2)) (ds.drop i) acc ρ2 fun acc ρ2 => ∀ v F' H', Same F F' → Rel Y F' H' σ ρ2 → PVR Y F' H' σ ρ2 v (.own false (.lst acc)) → Q v H', ⟨ds.length, by simp, Nat.zero_le _, F1, ρ1, [], [], Same.refl _, ?_, upd_same, FL, ?_, .nil, Nat.le_refl _, q⟩, ?_⟩
  · exact (R1.newO (o := .lst []) hL (fun _ z => nomatch z)).1
  · exact (R1.newO (o := .lst []) hL (fun _ z => nomatch z)).2.2.2
  rintro i m H2 ⟨rfl, hle, F2, ρ2, accV, acc, s2, R2, e2, FL2, no2, ra, la, q2⟩
  by_cases hlt : i < ds.length
  · refine .inr ⟨yl.go i H2 (s2.trans R2.sF) hlt, fun H => i < ds.length ∧ ∃ F2 ρ2 accV acc, Same F1 F2 ∧ Rel Y F2 H σ ρ2 ∧ H L = some (.lst accV) ∧ F2 L = none ∧ (∀ j, ¬ OwnAt σ ρ2 j L) ∧ RepL Y.K F2 accV acc ∧ acc.length ≤ i + 1 ∧ lcL g tt te (own.map (·.2)) (ds.drop (i + 1)) acc ρ2 fun acc ρ2 => ∀ v F' H', Same F F' → Rel Y F' H' σ ρ2 → PVR Y F' H' σ ρ2 v (.own false (.lst acc)) → Q v H', fun H' z => ⟨ds.length - (i + 1), by omega, rfl, z.1, z.2⟩, fun x H3 y => ?_⟩
    have hd : ds[i]? = some ds[i] := List.getElem?_eq_getElem hlt
    rw [List.drop_eq_getElem_cons hlt] at q2
    -- the item, what is known grown by it
    have key : ∀ F3, Same F2 F3 → Rel Y F3 H3 σ ρ2 → Rep Y.K F3 x ds[i] → H3 L = some (.lst accV) → F3 L = none → ∃ B, tG { Y with B := B } ws g x (L2.wipe σ (own.map (·.2))) H3 fun σ2 H2 => L2.wipe σ2 (own.map (·.2)) = L2.wipe σ (own.map (·.2)) ∧ ∃ B, tT { Y with B := B } noE tt σ2 H2 fun b H3 =>
        if b = true then ∃ B, tE { Y with B := B } noE te σ2 H3 fun y H4 => ∃ acc, H4 L = some (.lst acc) ∧ acc.length < sizeLine ∧ (i < ds.length ∧ ∃ F2 ρ2 accV acc', Same F1 F2 ∧ Rel Y F2 (upd H4 L (.lst (acc ++ [y]))) σ ρ2 ∧ upd H4 L (.lst (acc ++ [y])) L = some (.lst accV) ∧ F2 L = none ∧ (∀ j, ¬ OwnAt σ ρ2 j L) ∧ RepL Y.K F2 accV acc' ∧ acc'.length ≤ i + 1 ∧ lcL g tt te (own.map (·.2)) (ds.drop (i + 1)) acc' ρ2 fun acc ρ2 => ∀ v F' H', Same F F' → Rel Y F' H' σ ρ2 → PVR Y F' H' σ ρ2 v (.own false (.lst acc)) → Q v H')
        else i < ds.length ∧ ∃ F2 ρ2 accV acc, Same F1 F2 ∧ Rel Y F2 H3 σ ρ2 ∧ H3 L = some (.lst accV) ∧ F2 L = none ∧ (∀ j, ¬ OwnAt σ ρ2 j L) ∧ RepL Y.K F2 accV acc ∧ acc.length ≤ i + 1 ∧ lcL g tt te (own.map (·.2)) (ds.drop (i + 1)) acc ρ2 fun acc ρ2 => ∀ v F' H', Same F F' → Rel Y F' H' σ ρ2 → PVR Y F' H' σ ρ2 v (.own false (.lst acc)) → Q v H' := by
      intro F3 s3 R3 rx e3 f3
      let B1 : Hp := upd Y.B L (.lst accV)
      have BB : Same Y.B B1 := fun b o e => by
        show upd Y.B L (.lst accV) b = some o
        rw [upd_ne (fun z => by rw [z, BL] at e; cases e)]
        exact e
      have BL1 : B1 L = some (.lst accV) := upd_same
      -- with the list among what is of no concern
      have in_ : Rel { Y with B := B1 } F3 H3 (L2.wipe σ (own.map (·.2))) (wipeP ρ2 (own.map (·.2))) := by
        have W := R3.wipe (own.map (·.2))
        refine ⟨W.s0, W.sF, W.nt, fun b ps e => ?_, W.tabs, fun b o e => ?_, fun b o e => ?_, W.len, W.imm, fun j r o e => ?_, W.apart⟩
        · have e : upd Y.B L (.lst accV) b = some (.tbl ps) := e
          unfold upd at e
          by_cases hb : b = L
          · simp [hb] at e
          · simp [hb] at e; exact R3.ntB b ps e
        · have e : upd Y.B L (.lst accV) b = some o := e
          unfold upd at e
          by_cases hb : b = L
          · simp [hb] at e; rw [hb, e3, e]
          · simp [hb] at e; exact R3.sB _ _ e
        · have e : upd Y.B L (.lst accV) b = some o := e
          unfold upd at e
          by_cases hb : b = L
          · rw [hb]; exact f3
          · simp [hb] at e; exact R3.dis _ _ e
        · obtain ⟨b, g1, g2, g3, g4, g5⟩ := W.own j r o e
          refine ⟨b, g1, g2, ?_, g4, g5⟩
          show upd Y.B L (.lst accV) b = none
          rw [upd_ne fun z => ?_]
          · exact g3
          · subst z
            obtain ⟨z1, z2⟩ := wipeP_some e
            exact no2 j ⟨by rw [← wipe_get z2]; exact g1, r, o, z1⟩
      -- out of it again
      have out : ∀ {F4 H4 : Hp} {σ4 : L2.St} {ρ4 : PSt}, Rel { Y with B := B1 } F4 H4 σ4 ρ4 → L2.wipe σ4 (own.map (·.2)) = L2.wipe σ (own.map (·.2)) → Rel Y F4 H4 σ (wipeP ρ4 (own.map (·.2))) ∧ H4 L = some (.lst accV) ∧ F4 L = none ∧ ∀ j, ¬ OwnAt σ (wipeP ρ4 (own.map (·.2))) j L := fun {F4 H4 σ4 ρ4} R4 ew => by
        have U := R4.unwipe ew
        refine ⟨Rel.lessB BB U, R4.sB _ _ BL1, R4.dis _ _ BL1, fun j ⟨z1, r, o, z2⟩ => ?_⟩
        obtain ⟨b, g1, g2, g3, g4, g5⟩ := U.own j r o z2
        rw [z1] at g1
        cases g1
        have g3 : B1 L = none := g3
        rw [BL1] at g3
        cases g3
      refine ⟨B1, F3, _, _, in_, rx, mg B1 _ _ _ _ (fun ρ3 q F4 H4 σ4 s4 R4 o4 => ?_) q2⟩
      have ew : L2.wipe σ4 (own.map (·.2)) = L2.wipe σ (own.map (·.2)) := by
        rw [only_wipe o4 hws]
        refine List.ext_getElem? fun j => ?_
        by_cases hj : j ∈ own.map (·.2)
        · have n : ∀ (τ : L2.St), (L2.wipe τ (own.map (·.2)))[j]? = if j < τ.length then some none else none := fun τ => by
            generalize own.map (·.2) = vs at hj
            induction vs with
            | nil => cases hj
            | cons v vs ih =>
              show ((L2.wipe τ vs).set v none)[j]? = _
              by_cases e : v = j
              · subst e
                by_cases hv : v < τ.length
                · rw [List.getElem?_set_self (by rw [wipe_length]; exact hv), if_pos hv]
                · rw [List.getElem?_eq_none (by rw [List.length_set, wipe_length]; omega), if_neg hv]
              · rw [List.getElem?_set_ne e]
                rcases List.mem_cons.mp hj with h | h
                · exact absurd h.symm e
                · exact ih h
          rw [n, n, wipe_length]
        · rw [wipe_get hj]
      refine ⟨ew, B1, F4, ρ3, R4, mt B1 _ _ _ (fun b ρ4 q F5 H5 s5 R5 => ?_) q⟩
      cases b with
      | false =>
        rw [if_neg (by decide)]
        obtain ⟨O, oL, oF, on⟩ := out R5 ew
        exact ⟨hlt, F5, _, accV, acc, ((s2.trans s3).trans s4).trans s5, O, oL, oF, on, ra.mono ((s3.trans s4).trans s5), Nat.le_succ_of_le la, q⟩
      | true =>
        rw [if_pos rfl]
        refine ⟨B1, F5, ρ4, R5, me B1 _ _ _ (fun d ρ5 q y F6 H6 s6 R6 r6 => ?_) q⟩
        obtain ⟨O, oL, oF, on⟩ := out R6 ew
        have sA := ((s3.trans s4).trans s5).trans s6
        refine ⟨accV, oL, by rw [ra.length, sizeLine_eq]; omega, hlt, F6, _, accV ++ [y], acc ++ [d], s2.trans sA, O.writeN oL oF BL on, upd_same, oF, on, (ra.mono sA).append (.cons r6 .nil), by simp; omega, q⟩
    rcases yl.yld i H2 x H3 _ (s2.trans R2.sF) hd y with ⟨rfl, r⟩ | ⟨a, o, ha, no, rfl, r⟩
    · exact key F2 (Same.refl _) R2 (r.mono s2) e2 FL2
    · obtain ⟨R3, s3⟩ := R2.new ha no
      have hne : L ≠ a := ne_of_none e2 ha
      refine key _ s3 R3 (r.mono fun b u z => ?_) (by rw [upd_ne hne]; exact e2) (by rw [upd_ne hne]; exact FL2)
      unfold upd at z ⊢
      by_cases hb : b = a
      · simp [hb] at z ⊢; exact z
      · simp [hb] at z ⊢; exact s2 _ _ z
  · have hi : i = ds.length := by omega
    subst hi
    rw [List.drop_length] at q2
    exact .inl ⟨yl.stop H2 (s2.trans R2.sF), q2 _ F2 H2 (s1.trans s2) R2 ⟨L, rfl, FL2, BL, ⟨accV, e2, ra⟩, no2⟩⟩
theorem veo_lc (hc : X.calm = true) (hN : X.N.Nodup) (hi : VIt X Y er tg iter wi) (ok : BlkOk X.N X.env.scope scope own) (hws : ∀ v ∈ ws, v ∈ own.map (·.2))
    (hg : ∀ (s : Shared) (H : Hp) (C : Addr) (cl : List (Str × Addr)) (fp : List Addr) (B : Hp), VGt (X.blk s H scope (compEnvC scope cl C X.env) fp) { Y with B := B } tg ws g) (ht : ∀ (s : Shared) (H : Hp) (C : Addr) (cl : List (Str × Addr)) (fp : List Addr) (B : Hp), VTss (X.blk s H scope (compEnvC scope cl C X.env) fp) { Y with B := B } ifs tt)
    (he : ∀ (s : Shared) (H : Hp) (C : Addr) (cl : List (Str × Addr)) (fp : List Addr) (B : Hp), VE (X.blk s H scope (compEnvC scope cl C X.env) fp) { Y with B := B } noE elt te) (hs : ∀ x, foldedSetIterable iter X.env x = pure x := by intro _; rfl) :
    VEO X Y er (.ListComp elt [⟨tg, iter, ifs, 0⟩] scope pos) (vLc wi g tt te (own.map (·.2))) := by
  obtain ⟨m, gg, ttt, tee, h1, h2, h3, h4⟩ := lc_ok (own := own) hi hws hg ht he
  exact ⟨PE.of (pe_lc hc hN hi.pi ok h1 h2 h3 hs) h4, m⟩
theorem vs_setLc {j : Nat} {y : Str} {py spos : Pos} (hc : X.calm = true) (hN : X.N.Nodup) (hy : X.N[j]? = some y) (hyl : X.env.scope.names.lookup y = some .local)
    (hsw : swapsWith (.ListComp elt [⟨tg, iter, ifs, 0⟩] scope pos) (some (.Name y py)) spos.line X.env = pure true) (hi : VIt X Y er tg iter wi) (ok : BlkOk X.N X.env.scope scope own) (hws : ∀ v ∈ ws, v ∈ own.map (·.2))
    (hg : ∀ (s : Shared) (H : Hp) (C : Addr) (cl : List (Str × Addr)) (fp : List Addr) (B : Hp), VGt (X.blk s H scope (compEnvC scope cl C X.env) fp) { Y with B := B } tg ws g) (ht : ∀ (s : Shared) (H : Hp) (C : Addr) (cl : List (Str × Addr)) (fp : List Addr) (B : Hp), VTss (X.blk s H scope (compEnvC scope cl C X.env) fp) { Y with B := B } ifs tt)
    (he : ∀ (s : Shared) (H : Hp) (C : Addr) (cl : List (Str × Addr)) (fp : List Addr) (B : Hp), VE (X.blk s H scope (compEnvC scope cl C X.env) fp) { Y with B := B } noE elt te) (hs : ∀ x, foldedSetIterable iter X.env x = pure x := by intro _; rfl) :
    VSt X Y er (.Assign [.Name y py] (.ListComp elt [⟨tg, iter, ifs, 0⟩] scope pos) spos) (vSetO j (vLc wi g tt te (own.map (·.2)))) := by
  obtain ⟨m, gg, ttt, tee, h1, h2, h3, h4⟩ := lc_ok (own := own) hi hws hg ht he
  refine ⟨PS.of (ps_setLc hc hN hy hyl hsw hi.pi ok h1 h2 h3 hs) fun D0 σ H ⟨F, ρ, P, R, q, ee, K⟩ => h4 σ H _ ⟨F, ρ, R, m _ _ _ (fun p ρ' q v F' H' s R' r => ?_) (by rw [← ee]; exact q)⟩⟩
  obtain ⟨q1, nr⟩ := notRef.get q.get
  exact K.nx F' H' _ _ s (R'.set r nr) q1
end
end PL

end
section
set_option maxHeartbeats 1000000
/-! The pure layer, ninth part: methods of texts, errors raised and heard, objects made, methods, own operators. -/
namespace PL
open PySem PySem.Spec PyProof.Rows L2 SBX SB LamX
section
variable {X : Cx} {Y : SE}
/-! ### methods of texts -/
def swapG (l : List Nat) (ds : List D) (k : PV → Prop) : Prop := match ds with
  | [] => AllL l ∧ l.length ≤ 1000000 ∧ k (.imm (.str (l.map und)))
  | _ => False
theorem und_lt {c : Nat} (h : isL c = true) : und c < 1114112 := by
  rcases isL_iff.mp (und_L h) with e | e | e | e | e | e | e | e <;> rw [e] <;> decide
theorem allL_und {l : List Nat} (h : AllL l) : Cps (l.map und) := fun c hc => by
  obtain ⟨d, hd, rfl⟩ := List.mem_map.mp hc
  exact und_lt (h d hd)
theorem m_swap : GMt X Y "str.swapcase" swapG := by
  refine ⟨⟨_, mt_swap, fun F H σ ρ l vs ds k Q R hc rr q hk => ?_⟩, fun l ds k k' hk q => ?_⟩
  · cases rr with
    | nil =>
      obtain ⟨h1, h2, q⟩ := q
      refine ⟨tx l, rfl, rfl, by rw [tx_len]; omega, ?_⟩
      rw [swap_all h1]
      exact hk _ F H (.imm (.str (l.map und))) (Same.refl F) R (.str _ (allL_und h1)) q
    | cons _ _ => exact q.elim
  · cases ds with
    | nil => exact ⟨q.1, q.2.1, hk _ q.2.2⟩
    | cons _ _ => exact q.elim
/-- the texts that a list or tuple holds -/
def strsOf : List D → Option (List (List Nat))
  | [] => some []
  | .str l :: r => match strsOf r with
    | some ls => some (l :: ls)
    | none => none
  | _ :: _ => none
theorem strsOf_map : ∀ ls : List (List Nat), strsOf (ls.map D.str) = some ls
  | [] => rfl
  | l :: ls => by
    show (match strsOf (ls.map D.str) with | some ls => some (l :: ls) | none => none) = _
    rw [strsOf_map ls]
theorem strs_rep {K : PySem.W.Frag} {F : Hp} : ∀ (ds : List D) {vs : List V} {ls : List (List Nat)}, RepL K F vs ds → strsOf ds = some ls → vs = (ls.map tx).map V.str ∧ ∀ l ∈ ls, Cps l := by
  intro ds
  induction ds with
  | nil =>
    intro vs ls r h
    cases r
    cases h
    exact ⟨rfl, fun _ z => nomatch z⟩
  | cons d ds ih =>
    intro vs ls r h
    cases r with
    | cons r1 t =>
      cases d with
      | str l =>
        have h : (match strsOf ds with | some ls => some (l :: ls) | none => none) = some ls := h
        cases q : strsOf ds with
        | none => rw [q] at h; cases h
        | some ms =>
          rw [q] at h
          cases h
          cases r1 with
          | str _ hc =>
            obtain ⟨h1, h2⟩ := ih t q
            refine ⟨by rw [h1]; rfl, fun m hm => ?_⟩
            rcases List.mem_cons.mp hm with rfl | hm
            · exact hc
            · exact h2 m hm
      | _ => cases h
/-- texts behind one another, a text between -/
def glue (s : List Nat) (ls : List (List Nat)) : List Nat := TL.joinL s ls
def joinG (s : List Nat) (ds : List D) (k : PV → Prop) : Prop := match ds with
  | [.lst xs] => Opt (strsOf xs) fun ls => (ls.map (·.length)).sum + ls.length * s.length ≤ 16777216 ∧ k (.imm (.str (glue s ls)))
  | [.tup xs] => Opt (strsOf xs) fun ls => (ls.map (·.length)).sum + ls.length * s.length ≤ 16777216 ∧ k (.imm (.str (glue s ls)))
  | _ => False
theorem glue_cps {s : List Nat} (hs : Cps s) : ∀ {ls : List (List Nat)}, (∀ l ∈ ls, Cps l) → Cps (glue s ls)
  | [], _ => fun _ z => nomatch z
  | [l], h => h l List.mem_cons_self
  | l :: m :: r, h => cps_app (h l List.mem_cons_self) (cps_app hs (glue_cps hs fun x hx => h x (List.mem_cons_of_mem _ hx)))
theorem join_tx (s : List Nat) (ls : List (List Nat)) : Txt.join (tx s) (ls.map tx) = tx (glue s ls) := by
  have e := TL.tl_join (tx s) (ls.map tx)
  have e2 : (ls.map tx).map TL.tl = ls := by
    rw [List.map_map]
    have : (TL.tl ∘ tx) = id := by funext l; rfl
    rw [this, List.map_id]
  rw [e2] at e
  have e3 : TL.tl (tx s) = s := rfl
  rw [e3] at e
  unfold glue
  rw [← e, TL.join_eq]
theorem m_join (hK : X.K = Y.K) : GMt X Y "str.join" joinG := by
  have lens : ∀ ls : List (List Nat), ((ls.map tx).map (·.length)).sum = (ls.map (·.length)).sum := fun ls => by
    rw [List.map_map]
    have : (fun (l : List Nat) => l.length) = ((·.length) ∘ tx) := by funext l; exact (tx_len l).symm
    rw [this]
  have fin : ∀ {F H σ ρ} {s : List Nat} {a : Addr} {vs : List V} {xs : List D} {k : PV → Prop} {Q : VK}, Rel Y F H σ ρ → Cps s → (SqL X.K H a vs ∨ SqT X.K H a vs) → RepL Y.K F vs xs → (∀ v F' H' p, Same F F' → Rel Y F' H' σ ρ → PVR Y F' H' σ ρ v p → k p → Q v H') →
      (Opt (strsOf xs) fun ls => (ls.map (·.length)).sum + ls.length * s.length ≤ 16777216 ∧ k (.imm (.str (glue s ls)))) →
      ∃ a' p, ∃ ys : List Str, T s = .str a' ∧ [V.ref a] = [.ref p] ∧ (SqL X.K H p (ys.map V.str) ∨ SqT X.K H p (ys.map V.str)) ∧ (ys.map (·.length)).sum + ys.length * a'.length ≤ 16777216 ∧ Q (.str (Txt.join a' ys)) H := fun {F H σ ρ s a vs xs k Q} R hc h r hk q => by
    obtain ⟨ls, e, hl, q⟩ := q.get
    obtain ⟨e1, e2⟩ := strs_rep _ r e
    subst e1
    refine ⟨tx s, a, ls.map tx, rfl, rfl, h, by rw [lens, tx_len, List.length_map]; exact hl, ?_⟩
    rw [join_tx]
    exact hk _ F H (.imm (.str (glue s ls))) (Same.refl F) R (.str _ (glue_cps hc e2)) q
  refine ⟨⟨_, mt_join, fun F H σ ρ l vs ds k Q R hc rr q hk => ?_⟩, fun l ds k k' hk q => ?_⟩
  · cases rr with
    | nil => exact q.elim
    | cons r rr =>
      cases rr with
      | cons _ _ => cases r <;> exact q.elim
      | nil =>
        cases r with
        | lst h r => exact fin R hc (.inl (.of (R.sF _ _ h))) r hk q
        | tup h r => exact fin R hc (.inr (hK ▸ sqT_same R.sF h)) r hk q
        | _ => exact q.elim
  · match ds, q with
    | [.lst xs], q => exact Opt.imp (fun ls q => ⟨q.1, hk _ q.2⟩) q
    | [.tup xs], q => exact Opt.imp (fun ls q => ⟨q.1, hk _ q.2⟩) q
/-- parted by blanks -/
def splitG (l : List Nat) (ds : List D) (k : PV → Prop) : Prop := match ds with
  | [.str [32]] => l.length ≤ 1000000 ∧ k (.own false (.lst ((itm l).map D.str)))
  | _ => False
theorem itm_cps {l : List Nat} (h : Cps l) : ∀ x ∈ itm l, Cps x := by
  have key : ∀ (l acc : List Nat), Cps l → Cps acc → ∀ x ∈ TL.spl [32] 0 acc l, Cps x := by
    intro l
    induction l with
    | nil =>
      intro acc _ ha x hx
      rw [TL.spl_nil] at hx
      rw [List.mem_singleton.mp hx]
      exact ha
    | cons c r ih =>
      intro acc hl ha x hx
      have hr : Cps r := fun d hd => hl d (List.mem_cons_of_mem _ hd)
      cases hp : TL.pre [32] (c :: r) with
      | true =>
        rw [TL.spl_hit hp] at hx
        rcases List.mem_cons.mp hx with rfl | hx
        · exact ha
        · exact ih [] hr (fun _ z => nomatch z) x hx
      | false =>
        rw [TL.spl_miss hp] at hx
        exact ih (acc ++ [c]) hr (cps_app ha fun d hd => by rw [List.mem_singleton.mp hd]; exact hl c List.mem_cons_self) x hx
  exact key l [] h (fun _ z => nomatch z)
theorem m_split : GMt X Y "str.split" splitG := by
  refine ⟨⟨_, mt_splitB, fun F H σ ρ l vs ds k Q R hc rr q hk => ?_⟩, fun l ds k k' hk q => ?_⟩
  · have : ∃ x, ds = [.str x] ∧ x = [32] ∧ l.length ≤ 1000000 ∧ k (.own false (.lst ((itm l).map D.str))) := by
      unfold splitG at q
      split at q
      · exact ⟨_, rfl, rfl, q⟩
      · exact q.elim
    obtain ⟨x, rfl, rfl, hl, q⟩ := this
    cases rr with
    | cons r rr =>
    cases rr
    cases r
    refine ⟨l, rfl, rfl, hl, fun p H' n => ?_⟩
    have e : H' = upd H p (.lst ((itm l).map T)) := by
      funext b
      by_cases hb : b = p
      · rw [hb, n.at_, upd_same]
      · rw [n.oth b hb, upd_ne hb]
    subst e
    obtain ⟨R2, h1, h2, h3⟩ := R.newO (o := .lst ((itm l).map T)) n.free (fun _ z => nomatch z)
    have rl : ∀ ls : List (List Nat), (∀ x ∈ ls, Cps x) → RepL Y.K F (ls.map T) (ls.map D.str) := fun ls => by
      induction ls with
      | nil => exact fun _ => .nil
      | cons x xs ih => exact fun h => .cons (.str _ (h x List.mem_cons_self)) (ih fun y hy => h y (List.mem_cons_of_mem _ hy))
    exact hk _ F _ (.own false (.lst ((itm l).map D.str))) (Same.refl F) R2 ⟨p, rfl, h1, h2, ⟨_, upd_same, rl _ (itm_cps hc)⟩, h3⟩ q
  · unfold splitG at q ⊢
    split at q
    · exact ⟨q.1, hk _ q.2⟩
    · exact q.elim
/-- "ABCDabcd".index(letter) -/
def indexG (l : List Nat) (ds : List D) (k : PV → Prop) : Prop := match ds with
  | [.str [c]] => l = [65, 66, 67, 68, 97, 98, 99, 100] ∧ isL c = true ∧ k (.imm (.int (idx c : Nat)))
  | _ => False
theorem m_index : GMt X Y "str.index" indexG := by
  refine ⟨⟨_, mt_sindex, fun F H σ ρ l vs ds k Q R hc rr q hk => ?_⟩, fun l ds k k' hk q => ?_⟩
  · have : ∃ c, ds = [.str [c]] ∧ l = [65, 66, 67, 68, 97, 98, 99, 100] ∧ isL c = true ∧ k (.imm (.int (idx c : Nat))) := by
      unfold indexG at q
      split at q
      · exact ⟨_, rfl, q⟩
      · exact q.elim
    obtain ⟨c, rfl, rfl, hL, q⟩ := this
    cases rr with
    | cons r rr =>
    cases rr
    cases r
    exact ⟨_, _, idx c, [], rfl, rfl, occ_L hL, hk _ F H (.imm (.int (idx c : Nat))) (Same.refl F) R (.int _) q⟩
  · unfold indexG at q ⊢
    split at q
    · exact ⟨q.1, q.2.1, hk _ q.2.2⟩
    · exact q.elim
end
/-! ### errors raised -/
section
variable {X : Cx} {Y : SE} {er : ER} {E : XK} {pos : Pos} {a b e : Expr} {es : List Expr} {ta tb te : VT} {i : Nat} {x : Str} {cs errs ask cat : List Nat}
def vRaise (c : Nat) (t : VA) : VS := fun P ρ => t P.er ρ fun ds ρ' => ds.length = (cflds c).length ∧ P.er c ds ρ'
theorem repF_zip {K : PySem.W.Frag} {F : Hp} : ∀ {ns : List Str} {vs : List V} {ds : List D}, RepL K F vs ds → ds.length = ns.length → RepF K F ns (ns.zip vs) ds
  | [], _, _, .nil, _ => .nil
  | n :: ns, _, _, .cons h t, e => .cons h (repF_zip t (by simpa using e))
theorem vs_raise {ep : Expr} {t : VA} {c : Nat} {fI : Addr} {st : Stmt} {k : Nat} {p rpos : Pos} (hc : X.calm = true) (tk : Takes X (fun cls d _ H => E cls d H)) (hE : ErOk Y er E) (hK : X.K = Y.K)
    (S : SupOk X.prog X.w X.K (gac Y.K c) fI st (cflds c)) (gC : X.mg x = some (.ref (gac Y.K c))) (hs : X.mg "super" = none) (hr : Room (k + 1) X.A) (hne : cflds c ≠ []) (ha : VAs X Y er (ep :: es) t) (hg : Gl X x := by rfl)
    (he : starEach (ep :: es) X.env = (false, eval ep X.env) :: starEach es X.env := by rfl) (hpl : (backTo pos (starEach es X.env)).any (·.1) = false := by rfl) (hdb : (x == ("__debug__" : Str)) = false := by decide) :
    VSt X Y er (.Raise (some (.Call (.Name x p) (ep :: es) [] pos)) none rpos) (vRaise c t) := by
  refine ⟨PS.of (L2.ps_raise hc tk (pmk_sup S gC hs hr hne ha.pa hg he hpl hdb)) fun D0 σ H ⟨F, ρ, P, R, q, ee, K⟩ => ⟨F, ρ, R, ha.mono _ _ _ (fun ds ρ' q vs F' H' s R' r => ?_) (by rw [← ee]; exact q)⟩⟩
  obtain ⟨hl, q⟩ := q
  rw [ee] at q
  refine ⟨by rw [r.length]; exact hl, fun d hd => ?_⟩
  obtain ⟨R2, s2⟩ := R'.new (o := .xd ((cflds c).zip vs)) hd (fun _ z => nomatch z)
  exact hE Y.B (Same.refl _) _ _ σ ρ' c ds d _ R2 q upd_same (repF_zip (r.mono s2) hl)
/-! ### objects made -/
/-- a class called: its init on a new object -/
def mkRun (c : Nat) (S : PSp) (as : List PV) (Q : PV → Prop) (E : Nat → List D → Prop) : Prop :=
  S.run (.own true (.obj c []) :: as) (fun p bs => match p with
    | .imm .non => (match bs with
      | .own _ (.obj c' fs) :: _ => Q (.own false (.obj c' fs))
      | _ => False)
    | _ => False) (fun e fs _ => E e fs)
theorem mk_mono {c : Nat} {S : PSp} {as : List PV} {Q Q' : PV → Prop} {E E' : Nat → List D → Prop} (h1 : ∀ p, Q p → Q' p) (h2 : ∀ e fs, E e fs → E' e fs) (h : mkRun c S as Q E) : mkRun c S as Q' E' :=
  S.mono _ _ _ _ _ (fun p bs q => by
    cases p with
    | imm d =>
      cases d with
      | non =>
        match bs, q with
        | .own b (.obj c' fs) :: _, q => exact h1 _ q
      | _ => exact q.elim
    | own _ _ => exact q.elim) (fun e fs _ q => h2 e fs q) h
theorem make_core {F H : Hp} {σ : L2.St} {ρ : PSt} {vs : List V} {S : PSp} {c : Nat} {k : PV → PSt → Prop} {Q : VK} {ds : List D} {y dx : Addr} (R : Rel Y F H σ ρ) (r : RepL Y.K F vs ds) (hE : ErOk Y er E) (hy : H y = none) (hd : H dx = none) (hne : dx ≠ y)
    (h : mkRun c S (immL ds) (fun p => k p ρ) (fun c fs => er c fs ρ)) (hk : ∀ p v F' H', Same F F' → Rel Y F' H' σ ρ → PVR Y F' H' σ ρ v p → k p ρ → Q v H') :
    spP Y.K Y.T S (.ref y :: vs) (upd (upd H dx (.own y)) y (.ins (gac Y.K c) dx [])) (fun v H2 => v = .non ∧ Q (.ref y) H2) E := by
  have sH : Same H (upd (upd H dx (.own y)) y (.ins (gac Y.K c) dx [])) := fun b o e => by rw [upd_ne (ne_of_none e hy), upd_ne (ne_of_none e hd)]; exact e
  have no : ∀ (i : Nat) (b : Bool) (o : OV), ((immL ds).map some)[i]? ≠ some (some (.own b o)) := fun i b o e => by
    rw [List.getElem?_map, List.getElem?_map] at e
    cases q : ds[i]? with
    | none => rw [q] at e; cases e
    | some d => rw [q] at e; cases e
  have z := R.call r
  have R0 : Rel (.of Y.K Y.T (restB F H []) F (.ref y :: vs)) F (upd (upd H dx (.own y)) y (.ins (gac Y.K c) dx [])) ((V.ref y :: vs).map some) ((PV.own true (.obj c []) :: immL ds).map some) := by
    refine ⟨Same.refl F, R.sF.trans sH, R.nt, fun b ps e => (restB_get e).2.1 ps rfl, R.tabs.ext sH, fun b o e => sH _ _ (restB_get e).1, fun b o e => (restB_get e).2.2.1, by simp [r.length], fun i d e => ?_, fun i b o' e => ?_, fun i j b hij ⟨_, r1, o1, e1⟩ ⟨_, r2, o2, e2⟩ => ?_⟩
    · cases i with
      | zero => cases e
      | succ i => exact z.imm i d e
    · cases i with
      | zero =>
        cases e
        refine ⟨y, rfl, R.sF.free hy, ?_, ⟨dx, [], upd_same, .nil⟩, fun _ => rfl⟩
        cases w : restB F H [] y with
        | none => exact w
        | some u =>
          have := (restB_get w).1
          rw [hy] at this
          cases this
      | succ i => exact absurd e (no i b o')
    · cases i with
      | zero =>
        cases j with
        | zero => exact hij rfl
        | succ j => exact absurd e2 (no j r2 o2)
      | succ i => exact absurd e1 (no i r1 o1)
  refine ⟨restB F H [], F, .own true (.obj c []) :: immL ds, R0, S.mono _ _ _ _ _ (fun p bs q v F' H' R' pr => ?_) (fun c fs bs q F' H' d xs R' hd hr => ?_) h⟩
  · match p, bs, q, R', pr with
    | .imm .non, .own b (.obj c' fs) :: bs, q, R', pr =>
      cases pr
      refine ⟨rfl, hk (.own false (.obj c' fs)) (.ref y) F' H' R'.s0 (R.back0 R') ?_ q⟩
      obtain ⟨b', h1, h2, h3, h4, _⟩ := R'.own 0 b (.obj c' fs) rfl
      cases h1
      refine ⟨y, rfl, h2, R.sB.free hy, h4, fun j ⟨g1, r1, o1, g2⟩ => ?_⟩
      obtain ⟨b2, k1, k2, k3, k4, _⟩ := R.own j r1 o1 g2
      rw [g1] at k1
      cases k1
      obtain ⟨u, hu, _⟩ := k4.at_
      rw [hy] at hu
      cases hu
  · exact hE Y.B (Same.refl _) F' H' σ ρ c fs d xs (R.back0 R') q hd hr
/-- the class of number c keeps S when it is called; dls: the defaults that may fill up -/
structure MkP (P : Program) (w : World) (K : PySem.W.Frag) (mg : Str → Option Value) (base : Heap) (T : List (Addr × Str)) (k c : Nat) (ps : List Str) (dls : List (List D)) (S : PSp) : Prop where
  ex : ∃ (fI : Addr) (fd : FuncData), Mk K (gac K c) fI ∧ FnOk P w K mg base (L2.CX P w) k fI fd ("self" :: ps) (spP K T S) ∧ (∀ dd ∈ dls, ∃ (dv : List V) (ds : List Value), (∀ F, RepL K F dv dd) ∧ Vals dv ds ∧ Binds K fd ("self" :: ps) ds) ∧ ∃ g, KBn K fd ("self" :: ps) 1 ps g (fun vs zs => vs ++ zs)
theorem MkP.kp {P : Program} {w : World} {K : PySem.W.Frag} {mg : Str → Option Value} {base : Heap} {T : List (Addr × Str)} {k c : Nat} {ps : List Str} {dls : List (List D)} {S : PSp} (M : MkP P w K mg base T k c ps dls S) : PySem.W.keepIn K (.ref (gac K c)) = true := by
  obtain ⟨fI, fd, m, _⟩ := M.ex
  exact m.kp
theorem RepL.app {K : PySem.W.Frag} {F : Hp} {vs ws : List V} {ds es : List D} (r : RepL K F vs ds) (q : RepL K F ws es) : RepL K F (vs ++ ws) (ds ++ es) := r.append q
def vMake (c : Nat) (S : PSp) (dd : List D) (t : VA) : VO := fun er ρ k => t er ρ fun ds ρ1 => mkRun c S (immL (ds ++ dd)) (fun p => k p ρ1) (fun c fs => er c fs ρ1)
theorem veo_make {c k : Nat} {ps : List Str} {dls : List (List D)} {S : PSp} {t : VA} {p : Pos} (dd : List D) (hK : X.K = Y.K) (M : MkP X.prog X.w X.K X.mg X.base Y.T k c ps dls S) (hd : dd ∈ dls) (hE : ErOk Y er E) (hr : Room (k + 1) X.A) (hx : Passes (L2.CX X.prog X.w) X E) (hm : X.mg x = some (.ref (gac X.K c))) (ha : VAs X Y er (e :: es) t) (hg : Gl X x := by rfl) (hdb : (x == ("__debug__" : Str)) = false := by decide)
    (he : starEach (e :: es) X.env = (false, eval e X.env) :: starEach es X.env := by rfl) (hpl : (backTo pos (starEach es X.env)).any (·.1) = false := by rfl) : VEO X Y er (.Call (.Name x p) (e :: es) [] pos) (vMake c S dd t) := by
  obtain ⟨fI, fd, m, Fk, hds, _⟩ := M.ex
  obtain ⟨dv, ds, hdv, hvals, hb⟩ := hds dd hd
  have hc : CallR X (.ref (gac X.K c)) (fun xs H Q => ∀ y dx, H y = none → H dx = none → dx ≠ y → spP X.K Y.T S (.ref y :: (xs ++ dv)) (upd (upd H dx (.own y)) y (.ins (gac X.K c) dx [])) (fun v H2 => v = .non ∧ Q (.ref y) H2) E) := by
    intro pins s σ H xs us Q I r h
    exact run_make m Fk hr hb hvals hx I r h
  refine ⟨PE.of (pe_callRef hc hm m.kp ha.pa hg hdb he hpl) fun σ H Q ⟨F, ρ, R, q⟩ => ⟨F, ρ, R, ha.mono _ _ _ (fun ds' ρ1 q vs F1 H1 s1 R1 r1 y dx hy hdx hne => ?_) q⟩, fun ρ k k' hk q => ha.mono _ _ _ (fun ds ρ1 q => mk_mono (fun p => hk p ρ1) (fun _ _ z => z) q) q⟩
  rw [hK]
  exact make_core (k := fun p ρ' => ∀ v F' H', Same F F' → Rel Y F' H' σ ρ' → PVR Y F' H' σ ρ' v p → Q v H') R1 (r1.append (hK ▸ hdv F1)) hE hy hdx hne q fun p v F' H' s2 R2 r2 q => q v F' H' (s1.trans s2) R2 r2
theorem veo_make0 {c k : Nat} {ps : List Str} {dls : List (List D)} {S : PSp} {p : Pos} (dd : List D) (hK : X.K = Y.K) (M : MkP X.prog X.w X.K X.mg X.base Y.T k c ps dls S) (hd : dd ∈ dls) (hE : ErOk Y er E) (hr : Room (k + 1) X.A) (hx : Passes (L2.CX X.prog X.w) X E) (hm : X.mg x = some (.ref (gac X.K c))) (hg : Gl X x := by rfl) (hdb : (x == ("__debug__" : Str)) = false := by decide) :
    VEO X Y er (.Call (.Name x p) [] [] pos) (vMake c S dd vNil) := by
  obtain ⟨fI, fd, m, Fk, hds, _⟩ := M.ex
  obtain ⟨dv, ds, hdv, hvals, hb⟩ := hds dd hd
  have hc : CallR X (.ref (gac X.K c)) (fun xs H Q => ∀ y dx, H y = none → H dx = none → dx ≠ y → spP X.K Y.T S (.ref y :: (xs ++ dv)) (upd (upd H dx (.own y)) y (.ins (gac X.K c) dx [])) (fun v H2 => v = .non ∧ Q (.ref y) H2) E) := by
    intro pins s σ H xs us Q I r h
    exact run_make m Fk hr hb hvals hx I r h
  refine ⟨PE.of (pe_callRef0 hc hm m.kp hg hdb) fun σ H Q ⟨F, ρ, R, q⟩ y dx hy hdx hne => ?_, fun ρ k k' hk q => mk_mono (fun p => hk p ρ) (fun _ _ z => z) q⟩
  rw [hK]
  exact make_core (k := fun p ρ' => ∀ v F' H', Same F F' → Rel Y F' H' σ ρ' → PVR Y F' H' σ ρ' v p → Q v H') R (hK ▸ hdv F) hE hy hdx hne q fun p v F' H' s2 R2 r2 q => q v F' H' s2 R2 r2
/-! ### keywords -/
structure VKs (X : Cx) (Y : SE) (er : ER) (kws : List Keyword) (t : VA) : Prop where
  pk : PK X kws (tAr Y er t)
  mono : ∀ ρ k k', (∀ ds ρ, k ds ρ → k' ds ρ) → t er ρ k → t er ρ k'
theorem PK.of {e : List Keyword} {t t' : TA} (h : PK X e t) (i : ∀ σ H Q, t' σ H Q → t σ H Q) : PK X e t' := ⟨fun w pins s σ H Q I q => h.run w pins s σ H Q I (i σ H Q q)⟩
theorem vk_nil : VKs X Y er [] vNil := ⟨PK.of pk_nil fun σ H Q ⟨F, ρ, R, q⟩ => q [] F H (Same.refl F) R .nil, fun ρ k k' hk h => hk _ _ h⟩
theorem vk_cons {nm : Option Str} {kpos : Pos} {kws : List Keyword} {t : VT} {u : VA} (h : VE X Y er e t) (hu : VKs X Y er kws u) : VKs X Y er (⟨nm, e, kpos⟩ :: kws) (vCons t u) := by
  refine ⟨PK.of (pk_cons h.pe hu.pk) fun σ H Q ⟨F, ρ, R, q⟩ => ⟨F, ρ, R, h.mono _ _ _ (fun d ρ1 q v F1 H1 s R1 r => ⟨F1, ρ1, R1, hu.mono _ _ _ (fun ds ρ2 q vs F2 H2 s2 R2 r2 => ?_) q⟩) q⟩, fun ρ k k' hk q => h.mono _ _ _ (fun d ρ1 q => hu.mono _ _ _ (fun ds ρ2 q => hk _ _ q) q) q⟩
  exact q (v :: vs) F2 H2 (s.trans s2) R2 (.cons (r.mono s2) r2)
/-- C(k = e, ..) -/
def vMakeK (c n : Nat) (S : PSp) (t : VA) : VO := fun er ρ k => t er ρ fun ds ρ1 => ds.length = n ∧ mkRun c S (immL ds) (fun p => k p ρ1) (fun c fs => er c fs ρ1)
theorem veo_makeK {c k : Nat} {ps : List Str} {dls : List (List D)} {S : PSp} {t : VA} {kws : List Keyword} {p : Pos} (hK : X.K = Y.K) (M : MkP X.prog X.w X.K X.mg X.base Y.T k c ps dls S) (hE : ErOk Y er E) (hr : Room (k + 1) X.A) (hx : Passes (L2.CX X.prog X.w) X E) (hm : X.mg x = some (.ref (gac X.K c))) (hkw : VKs X Y er kws t) (hg : Gl X x := by rfl)
    (hall : (backToKw pos (keywordEach kws X.env)).all (·.1.isSome) = true := by rfl) (hks : (backToKw pos (keywordEach kws X.env)).filterMap (·.1) = ps := by rfl)
    (hdb : (x == ("__debug__" : Str)) = false := by decide) (hpl : ((backTo pos (starEach [] X.env)).any (·.1) || (backToKw pos (keywordEach kws X.env)).any (·.1.isNone)) = false := by rfl) : VEO X Y er (.Call (.Name x p) [] kws pos) (vMakeK c ps.length S t) := by
  obtain ⟨fI, fd, m, Fk, _, g, hb⟩ := M.ex
  have hc : CallRK X (.ref (gac X.K c)) ps (fun xs zs H Q => xs = [] ∧ zs.length = ps.length ∧ ∀ y dx, H y = none → H dx = none → dx ≠ y → spP X.K Y.T S (.ref y :: zs) (upd (upd H dx (.own y)) y (.ins (gac X.K c) dx [])) (fun v H2 => v = .non ∧ Q (.ref y) H2) E) := by
    intro pins s σ H xs zs us ws Q I r rz h
    obtain ⟨rfl, hl, h⟩ := h
    exact run_makeN m Fk hr hb hx I r rz rfl hl h
  refine ⟨PE.of (pe_callRefK hc hm m.kp hkw.pk hg hall hks hdb hpl) fun σ H Q ⟨F, ρ, R, q⟩ => ⟨F, ρ, R, hkw.mono _ _ _ (fun ds' ρ1 q vs F1 H1 s1 R1 r1 => ⟨rfl, by rw [r1.length]; exact q.1, fun y dx hy hdx hne => ?_⟩) q⟩, fun ρ k k' hk q => hkw.mono _ _ _ (fun ds ρ1 q => ⟨q.1, mk_mono (fun p => hk p ρ1) (fun _ _ z => z) q.2⟩) q⟩
  rw [hK]
  exact make_core (k := fun p ρ' => ∀ v F' H', Same F F' → Rel Y F' H' σ ρ' → PVR Y F' H' σ ρ' v p → Q v H') R1 r1 hE hy hdx hne q.2 fun p v F' H' s2 R2 r2 q => q v F' H' (s1.trans s2) R2 r2
/-- C.m(e, ..), a static method -/
theorem veo_smeth {c k : Nat} {m : Str} {ps : List Str} {S : PSp} {t : VA} {g : Addr} {o : Expr} {apos : Pos} {pl : Sem Bool} (he0 : PE X o (tC (.ref (gac X.K c)))) (cm : SMet X.K (gac X.K c) m g) (St : StOk X.prog X.w X.K X.mg X.base k g ps (spP Y.K Y.T S)) (hE : ErOk Y er E) (hr : Room k X.A) (hx : Passes (L2.CX X.prog X.w) X E) (ha : VAs X Y er (e :: es) t)
    (hst : starEach (e :: es) X.env = (false, eval e X.env) :: starEach es X.env := by rfl) (hpl : (backTo pos (starEach es X.env)).any (·.1) = false := by rfl)
    (ht : eval (.Call (.Attribute o m apos) (e :: es) [] pos) X.env = (do
      let ov ← eval o X.env
      standAt apos.atName
      let (f, first) ← holding [ov] (getMethod ov m pl)
      callWith pos f first (backTo pos (starEach (e :: es) X.env)) (backToKw pos (keywordEach [] X.env))) := by rfl) : VEO X Y er (.Call (.Attribute o m apos) (e :: es) [] pos) (vCall S t) := by
  refine ⟨PE.of (pe_smethR he0 cm (callSt St hr hx) St.kp ha.pa hst hpl ht) fun σ H Q ⟨F, ρ, R, q⟩ => ⟨F, ρ, R, ha.mono _ _ _ (fun ds ρ1 q vs F1 H1 s1 R1 r1 => ?_) q⟩, call_mono ha⟩
  exact call_core (k := fun p ρ' => ∀ v F' H', Same F F' → Rel Y F' H' σ ρ' → PVR Y F' H' σ ρ' v p → Q v H') R1 r1 hE q fun p v F' H' s2 R2 r2 q => q v F' H' (s1.trans s2) R2 r2
def vCallN (n : Nat) (S : PSp) (t : VA) : VO := fun er ρ k => t er ρ fun ds ρ1 => ds.length = n ∧ S.run (immL ds) (fun p _ => k p ρ1) (fun c fs _ => er c fs ρ1)
theorem veo_smethK {c k : Nat} {m : Str} {ps : List Str} {S : PSp} {t : VA} {g : Addr} {o : Expr} {kws : List Keyword} {apos : Pos} {pl : Sem Bool} (he0 : PE X o (tC (.ref (gac X.K c)))) (cm : SMet X.K (gac X.K c) m g) (St : StOk X.prog X.w X.K X.mg X.base k g ps (spP Y.K Y.T S)) (hE : ErOk Y er E) (hr : Room k X.A) (hx : Passes (L2.CX X.prog X.w) X E) (hkw : VKs X Y er kws t)
    (hall : (backToKw pos (keywordEach kws X.env)).all (·.1.isSome) = true := by rfl) (hks : (backToKw pos (keywordEach kws X.env)).filterMap (·.1) = ps := by rfl)
    (hpl : ((backTo pos (starEach [] X.env)).any (·.1) || (backToKw pos (keywordEach kws X.env)).any (·.1.isNone)) = false := by rfl)
    (ht : eval (.Call (.Attribute o m apos) [] kws pos) X.env = (do
      let ov ← eval o X.env
      standAt apos.atName
      let (f, first) ← holding [ov] (getMethod ov m pl)
      callWith pos f first (backTo pos (starEach [] X.env)) (backToKw pos (keywordEach kws X.env))) := by rfl) : VEO X Y er (.Call (.Attribute o m apos) [] kws pos) (vCallN ps.length S t) := by
  refine ⟨PE.of (pe_smethRK he0 cm (callStK St hr hx) St.kp hkw.pk hall hks hpl ht) fun σ H Q ⟨F, ρ, R, q⟩ => ⟨F, ρ, R, hkw.mono _ _ _ (fun ds ρ1 q vs F1 H1 s1 R1 r1 => ⟨rfl, by rw [r1.length]; exact q.1, ?_⟩) q⟩, fun ρ k k' hk q => hkw.mono _ _ _ (fun ds ρ1 q => ⟨q.1, S.mono _ _ _ _ _ (fun p _ => hk p ρ1) (fun _ _ _ z => z) q.2⟩) q⟩
  exact call_core (k := fun p ρ' => ∀ v F' H', Same F F' → Rel Y F' H' σ ρ' → PVR Y F' H' σ ρ' v p → Q v H') R1 r1 hE q.2 fun p v F' H' s2 R2 r2 q => q v F' H' (s1.trans s2) R2 r2
/-! ### methods -/
def insD (c : Nat) (d : D) (k : Prop) : Prop := match d with
  | .ins c' _ => c' = c ∧ k
  | _ => False
theorem insD.get {c : Nat} {d : D} {k : Prop} (h : insD c d k) : (∃ fs, d = .ins c fs) ∧ k := by
  cases d with
  | ins c' fs => exact ⟨⟨fs, by rw [h.1]⟩, h.2⟩
  | _ => exact h.elim
theorem insD.imp {c : Nat} {d : D} {k k' : Prop} (f : k → k') (h : insD c d k) : insD c d k' := by
  cases d with
  | ins c' fs => exact ⟨h.1, f h.2⟩
  | _ => exact h.elim
def vMeth (c : Nat) (S : PSp) (to : VT) (t : VA) : VO := fun er ρ k => to er ρ fun d ρ1 => insD c d <| t er ρ1 fun ds ρ2 => S.run (immL (d :: ds)) (fun p _ => k p ρ2) (fun c fs _ => er c fs ρ2)
def vMethN (c n : Nat) (S : PSp) (to : VT) (t : VA) : VO := fun er ρ k => to er ρ fun d ρ1 => insD c d <| t er ρ1 fun ds ρ2 => ds.length = n ∧ S.run (immL (d :: ds)) (fun p _ => k p ρ2) (fun c fs _ => er c fs ρ2)
theorem lk_none {vs : List (Str × V)} {f : Str} (h : ∀ p ∈ vs, p.1 ≠ f) : vs.lookup f = none := by
  have := lk_no (ws := []) h
  rw [List.append_nil] at this
  exact this
theorem Rep.obj {K : PySem.W.Frag} {F H : Hp} (s : Same F H) {v : V} {c : Nat} {fs : List D} (r : Rep K F v (.ins c fs)) {m : Str} (hm : m ∉ cflds c) : ∃ a dx vs, v = .ref a ∧ H a = some (.ins (gac K c) dx vs) ∧ vs.lookup m = none := by
  cases r with
  | @ins a dx c vs ds h r => exact ⟨a, dx, vs, rfl, s _ _ h, lk_none fun p hp z => hm (z ▸ r.names p hp)⟩
  | @insS a dx c n vs ds h hn r =>
    refine ⟨a, dx, _, rfl, s _ _ h, lk_none fun p hp z => hm ?_⟩
    rcases List.mem_append.mp hp with hp | hp
    · exact z ▸ r.names p hp
    · rw [List.mem_singleton.mp hp] at z
      exact z ▸ List.mem_of_getElem? hn
theorem veo_meth {c k : Nat} {m : Str} {ps : List Str} {S : PSp} {to : VT} {t : VA} {o : Expr} {apos : Pos} {pl : Sem Bool} (hK : X.K = Y.K) (M : MethOk X.prog X.w X.K X.mg X.base k (gac X.K c) m ps (spP Y.K Y.T S)) (hm : m ∉ cflds c) (ho : VE X Y er o to) (hE : ErOk Y er E) (hr : Room k X.A) (hx : Passes (L2.CX X.prog X.w) X E) (ha : VAs X Y er (e :: es) t)
    (hst : starEach (e :: es) X.env = (false, eval e X.env) :: starEach es X.env := by rfl) (hpl : (backTo pos (starEach es X.env)).any (·.1) = false := by rfl)
    (ht : eval (.Call (.Attribute o m apos) (e :: es) [] pos) X.env = (do
      let ov ← eval o X.env
      standAt apos.atName
      let (f, first) ← holding [ov] (getMethod ov m pl)
      callWith pos f first (backTo pos (starEach (e :: es) X.env)) (backToKw pos (keywordEach [] X.env))) := by rfl) : VEO X Y er (.Call (.Attribute o m apos) (e :: es) [] pos) (vMeth c S to t) := by
  refine ⟨PE.of (pe_me (pl := pl) M ho.pe hr hx ha.pa ⟨rfl, rfl, rfl, rfl, rfl⟩ hst hpl ht) fun σ H Q ⟨F, ρ, R, q⟩ => ⟨F, ρ, R, ho.mono _ _ _ (fun d ρ1 q v F1 H1 s1 R1 r1 => ?_) q⟩, fun ρ k k' hk q => ho.mono _ _ _ (fun d ρ1 q => insD.imp (fun q => ha.mono _ _ _ (fun ds ρ2 q => S.mono _ _ _ _ _ (fun p _ => hk p ρ2) (fun _ _ _ z => z) q) q) q) q⟩
  obtain ⟨⟨fs, rfl⟩, q⟩ := q.get
  obtain ⟨a, dx, gs, rfl, h1, h2⟩ := r1.obj R1.sF hm
  refine ⟨a, dx, gs, rfl, by rw [hK]; exact h1, h2, F1, ρ1, R1, ha.mono _ _ _ (fun ds ρ2 q vs F2 H2 s2 R2 r2 => ?_) q⟩
  exact call_core (k := fun p ρ' => ∀ v F' H', Same F F' → Rel Y F' H' σ ρ' → PVR Y F' H' σ ρ' v p → Q v H') R2 (.cons (r1.mono s2) r2) hE q fun p v F' H' s3 R3 r3 q => q v F' H' ((s1.trans s2).trans s3) R3 r3
theorem veo_methK {c k : Nat} {m : Str} {ps : List Str} {S : PSp} {to : VT} {t : VA} {o : Expr} {kws : List Keyword} {apos : Pos} {pl : Sem Bool} (hK : X.K = Y.K) (M : MethOk X.prog X.w X.K X.mg X.base k (gac X.K c) m ps (spP Y.K Y.T S)) (hm : m ∉ cflds c) (ho : VE X Y er o to) (hE : ErOk Y er E) (hr : Room k X.A) (hx : Passes (L2.CX X.prog X.w) X E) (hkw : VKs X Y er kws t)
    (hall : (backToKw pos (keywordEach kws X.env)).all (·.1.isSome) = true := by rfl) (hks : (backToKw pos (keywordEach kws X.env)).filterMap (·.1) = ps := by rfl)
    (hpl : ((backTo pos (starEach [] X.env)).any (·.1) || (backToKw pos (keywordEach kws X.env)).any (·.1.isNone)) = false := by rfl)
    (ht : eval (.Call (.Attribute o m apos) [] kws pos) X.env = (do
      let ov ← eval o X.env
      standAt apos.atName
      let (f, first) ← holding [ov] (getMethod ov m pl)
      callWith pos f first (backTo pos (starEach [] X.env)) (backToKw pos (keywordEach kws X.env))) := by rfl) : VEO X Y er (.Call (.Attribute o m apos) [] kws pos) (vMethN c ps.length S to t) := by
  refine ⟨PE.of (pe_meK (pl := pl) M ho.pe hr hx hkw.pk ⟨rfl, rfl, rfl, rfl, rfl⟩ hall hks hpl ht) fun σ H Q ⟨F, ρ, R, q⟩ => ⟨F, ρ, R, ho.mono _ _ _ (fun d ρ1 q v F1 H1 s1 R1 r1 => ?_) q⟩, fun ρ k k' hk q => ho.mono _ _ _ (fun d ρ1 q => insD.imp (fun q => hkw.mono _ _ _ (fun ds ρ2 q => ⟨q.1, S.mono _ _ _ _ _ (fun p _ => hk p ρ2) (fun _ _ _ z => z) q.2⟩) q) q) q⟩
  obtain ⟨⟨fs, rfl⟩, q⟩ := q.get
  obtain ⟨a, dx, gs, rfl, h1, h2⟩ := r1.obj R1.sF hm
  refine ⟨a, dx, gs, rfl, by rw [hK]; exact h1, h2, F1, ρ1, R1, hkw.mono _ _ _ (fun ds ρ2 q vs F2 H2 s2 R2 r2 => ⟨by rw [r2.length]; exact q.1, ?_⟩) q⟩
  exact call_core (k := fun p ρ' => ∀ v F' H', Same F F' → Rel Y F' H' σ ρ' → PVR Y F' H' σ ρ' v p → Q v H') R2 (.cons (r1.mono s2) r2) hE q.2 fun p v F' H' s3 R3 r3 q => q v F' H' ((s1.trans s2).trans s3) R3 r3
/-! ### own operators -/
/-- x op y of two objects of class c, by S -/
def vOwn2 (c : Nat) (S : PSp) (ta tb : VT) : VO := fun er ρ k => ta er ρ fun d1 ρ1 => tb er ρ1 fun d2 ρ2 => insD c d1 <| insD c d2 <| S.run (immL [d1, d2]) (fun p _ => k p ρ2) (fun c fs _ => er c fs ρ2)
theorem own2_mono {c : Nat} {S : PSp} (ha : VE X Y er a ta) (hb : VE X Y er b tb) : ∀ ρ k k', (∀ p ρ, k p ρ → k' p ρ) → vOwn2 c S ta tb er ρ k → vOwn2 c S ta tb er ρ k' := fun ρ k k' hk q => ha.mono _ _ _ (fun d1 ρ1 q => hb.mono _ _ _ (fun d2 ρ2 q => insD.imp (insD.imp fun q => S.mono _ _ _ _ _ (fun p _ => hk p ρ2) (fun _ _ _ z => z) q) q) q) q
theorem Rep.ob {K : PySem.W.Frag} {F H : Hp} (s : Same F H) {v : V} {c : Nat} {fs : List D} (r : Rep K F v (.ins c fs)) : ∃ a dx vs, v = .ref a ∧ H a = some (.ins (gac K c) dx vs) := by
  cases r with
  | @ins a dx c vs ds h r => exact ⟨a, dx, vs, rfl, s _ _ h⟩
  | @insS a dx c n vs ds h hn r => exact ⟨a, dx, _, rfl, s _ _ h⟩
theorem own2_ok {c : Nat} {S : PSp} (hK : X.K = Y.K) (hE : ErOk Y er E) (ha : VE X Y er a ta) (hb : VE X Y er b tb) {σ : L2.St} {H : Hp} {Q : VK} (h : tO Y er (vOwn2 c S ta tb) σ H Q) : tOp (rOwnC (gac X.K c) (spP Y.K Y.T S) E) (tE Y er ta) (tE Y er tb) σ H Q := by
  obtain ⟨F, ρ, R, q⟩ := h
  refine ⟨F, ρ, R, ha.mono _ _ _ (fun d1 ρ1 q x F1 H1 s1 R1 r1 => ⟨F1, ρ1, R1, hb.mono _ _ _ (fun d2 ρ2 q y F2 H2 s2 R2 r2 => ?_) q⟩) q⟩
  obtain ⟨⟨fs, rfl⟩, q⟩ := q.get
  obtain ⟨⟨gs, rfl⟩, q⟩ := q.get
  obtain ⟨a1, dx, us, rfl, e1⟩ := (r1.mono s2).ob R2.sF
  obtain ⟨b1, dy, ws, rfl, e2⟩ := r2.ob R2.sF
  refine ⟨a1, dx, us, b1, dy, ws, rfl, rfl, by rw [hK]; exact e1, by rw [hK]; exact e2, ?_⟩
  exact call_core (k := fun p ρ' => ∀ v F' H', Same F F' → Rel Y F' H' σ ρ' → PVR Y F' H' σ ρ' v p → Q v H') R2 (.cons (r1.mono s2) (.cons r2 .nil)) hE q fun p v F' H' s3 R3 r3 q => q v F' H' ((s1.trans s2).trans s3) R3 r3
theorem veo_own2 {op : Operator} {c k : Nat} {ps : List Str} {S : PSp} (hK : X.K = Y.K) (Sp : Special X.prog X.w X.K X.mg X.base k (gac X.K c) (PySem.dunder op.info.2) ps (spP Y.K Y.T S)) (sf : PySem.W.selfFirst X.K (gac X.K c) = true) (hE : ErOk Y er E) (hr : Room k X.A) (hx : Passes (L2.CX X.prog X.w) X E) (ha : VE X Y er a ta) (hb : VE X Y er b tb) :
    VEO X Y er (.BinOp a op b pos) (vOwn2 c S ta tb) := ⟨PE.of (pe_op (op_binC Sp sf hr hx) ha.pe hb.pe) fun σ H Q h => own2_ok hK hE ha hb h, own2_mono ha hb⟩
/-- .. a truth comes of it -/
def vBlO (t : VO) : VB := fun er ρ k => t er ρ fun p ρ' => match p with
  | .imm (.bl b) => k b ρ'
  | _ => False
theorem vt_ownC {op : CmpOp} {c k : Nat} {ps : List Str} {S : PSp} (hK : X.K = Y.K) (hop : ∀ a b, compareOp op a b = richCompare op a b) (Sp : Special X.prog X.w X.K X.mg X.base k (gac X.K c) (cmpInfo op).2.1 ps (spP Y.K Y.T S)) (hE : ErOk Y er E) (hr : Room k X.A) (hx : Passes (L2.CX X.prog X.w) X E) (ha : VE X Y er a ta) (hb : VE X Y er b tb) (hm : behindInMarks op b = false) :
    VTs X Y er (.Compare a [op] [b] pos) (vBlO (vOwn2 c S ta tb)) := by
  refine ⟨PT.of (pt_cmpR (op_cmpC hop Sp hr hx) ha.pe hb.pe hm) fun σ H Q ⟨F, ρ, R, q⟩ => own2_ok hK hE ha hb ⟨F, ρ, R, own2_mono ha hb _ _ _ (fun p ρ' q v F' H' s R' r => ?_) q⟩, fun ρ k k' hk q => own2_mono ha hb _ _ _ (fun p ρ' q => ?_) q⟩
  · match p, q, r with
    | .imm (.bl b), q, r => cases r; exact ⟨b, rfl, q F' H' s R'⟩
  · match p, q with
    | .imm (.bl b), q => exact hk _ _ q
theorem ve_ownC {op : CmpOp} {c k : Nat} {ps : List Str} {S : PSp} (hK : X.K = Y.K) (hop : ∀ a b, compareOp op a b = richCompare op a b) (Sp : Special X.prog X.w X.K X.mg X.base k (gac X.K c) (cmpInfo op).2.1 ps (spP Y.K Y.T S)) (hE : ErOk Y er E) (hr : Room k X.A) (hx : Passes (L2.CX X.prog X.w) X E) (ha : VE X Y er a ta) (hb : VE X Y er b tb) (hm : behindInMarks op b = false) :
    VEO X Y er (.Compare a [op] [b] pos) (vOwn2 c S ta tb) := ⟨PE.of (pe_cmpR (op_cmpC hop Sp hr hx) ha.pe hb.pe hm) fun σ H Q h => own2_ok hK hE ha hb h, own2_mono ha hb⟩
/-- x != y by the class's own == -/
def vOwnN (c : Nat) (S : PSp) (ta tb : VT) : VO := fun er ρ k => ta er ρ fun d1 ρ1 => tb er ρ1 fun d2 ρ2 => insD c d1 <| insD c d2 <| S.run (immL [d1, d2]) (fun p _ => match p with
  | .imm (.bl b) => k (.imm (.bl (!b))) ρ2
  | _ => False) (fun c fs _ => er c fs ρ2)
theorem ownN_mono {c : Nat} {S : PSp} (ha : VE X Y er a ta) (hb : VE X Y er b tb) : ∀ ρ k k', (∀ p ρ, k p ρ → k' p ρ) → vOwnN c S ta tb er ρ k → vOwnN c S ta tb er ρ k' := fun ρ k k' hk q => ha.mono _ _ _ (fun d1 ρ1 q => hb.mono _ _ _ (fun d2 ρ2 q => insD.imp (insD.imp fun q => S.mono _ _ _ _ _ (fun p _ q => by
  match p, q with
  | .imm (.bl b), q => exact hk _ _ q) (fun _ _ _ z => z) q) q) q) q
theorem ownN_ok {c : Nat} {S : PSp} (hK : X.K = Y.K) (hE : ErOk Y er E) (ha : VE X Y er a ta) (hb : VE X Y er b tb) {σ : L2.St} {H : Hp} {Q : VK} (h : tO Y er (vOwnN c S ta tb) σ H Q) :
    tOp (fun x y H Q => ∃ a dx fs b dy gs, x = .ref a ∧ y = .ref b ∧ H a = some (.ins (gac X.K c) dx fs) ∧ H b = some (.ins (gac X.K c) dy gs) ∧ spP Y.K Y.T S [.ref a, .ref b] H (fun v H' => ∃ r, v = .bl r ∧ Q (.bl (!r)) H') E) (tE Y er ta) (tE Y er tb) σ H Q := by
  obtain ⟨F, ρ, R, q⟩ := h
  refine ⟨F, ρ, R, ha.mono _ _ _ (fun d1 ρ1 q x F1 H1 s1 R1 r1 => ⟨F1, ρ1, R1, hb.mono _ _ _ (fun d2 ρ2 q y F2 H2 s2 R2 r2 => ?_) q⟩) q⟩
  obtain ⟨⟨fs, rfl⟩, q⟩ := q.get
  obtain ⟨⟨gs, rfl⟩, q⟩ := q.get
  obtain ⟨a1, dx, us, rfl, e1⟩ := (r1.mono s2).ob R2.sF
  obtain ⟨b1, dy, ws, rfl, e2⟩ := r2.ob R2.sF
  refine ⟨a1, dx, us, b1, dy, ws, rfl, rfl, by rw [hK]; exact e1, by rw [hK]; exact e2, ?_⟩
  refine call_core (k := fun p ρ' => match p with
    | .imm (.bl b) => ∀ v F' H', Same F F' → Rel Y F' H' σ ρ' → PVR Y F' H' σ ρ' v (.imm (.bl (!b))) → Q v H'
    | _ => False) R2 (.cons (r1.mono s2) (.cons r2 .nil)) hE (S.mono _ _ _ _ _ (fun p _ q => ?_) (fun _ _ _ z => z) q) fun p v F' H' s3 R3 r3 q => ?_
  · match p, q with
    | .imm (.bl b), q => exact q
  · match p, q, r3 with
    | .imm (.bl b), q, r3 => cases r3; exact ⟨b, rfl, q _ F' H' ((s1.trans s2).trans s3) R3 (.bl _)⟩
theorem vt_ownN {c k : Nat} {ps : List Str} {S : PSp} (hK : X.K = Y.K) (Sp : Special X.prog X.w X.K X.mg X.base k (gac X.K c) "__eq__" ps (spP Y.K Y.T S)) (ty : TyC X.K (gac X.K c)) (hne : PySem.W.findIn X.K (.ref (gac X.K c)) "__ne__" = some (some (.builtin "object.__ne__"))) (hE : ErOk Y er E) (hr : Room (k + 1) X.A) (hx : Passes (L2.CX X.prog X.w) X E) (ha : VE X Y er a ta) (hb : VE X Y er b tb) :
    VTs X Y er (.Compare a [.NotEq] [b] pos) (vBlO (vOwnN c S ta tb)) := by
  refine ⟨PT.of (pt_cmpR (op_neC Sp ty hne hr hx) ha.pe hb.pe (nomark _)) fun σ H Q ⟨F, ρ, R, q⟩ => ownN_ok hK hE ha hb ⟨F, ρ, R, ownN_mono ha hb _ _ _ (fun p ρ' q v F' H' s R' r => ?_) q⟩, fun ρ k k' hk q => ownN_mono ha hb _ _ _ (fun p ρ' q => ?_) q⟩
  · match p, q, r with
    | .imm (.bl b), q, r => cases r; exact ⟨b, rfl, q F' H' s R'⟩
  · match p, q with
    | .imm (.bl b), q => exact hk _ _ q
theorem veo_ownN {c k : Nat} {ps : List Str} {S : PSp} (hK : X.K = Y.K) (Sp : Special X.prog X.w X.K X.mg X.base k (gac X.K c) "__eq__" ps (spP Y.K Y.T S)) (ty : TyC X.K (gac X.K c)) (hne : PySem.W.findIn X.K (.ref (gac X.K c)) "__ne__" = some (some (.builtin "object.__ne__"))) (hE : ErOk Y er E) (hr : Room (k + 1) X.A) (hx : Passes (L2.CX X.prog X.w) X E) (ha : VE X Y er a ta) (hb : VE X Y er b tb) :
    VEO X Y er (.Compare a [.NotEq] [b] pos) (vOwnN c S ta tb) := ⟨PE.of (pe_cmpR (op_neC Sp ty hne hr hx) ha.pe hb.pe (nomark _)) fun σ H Q h => ownN_ok hK hE ha hb h, ownN_mono ha hb⟩
/-- ~x -/
def vOwn1 (c : Nat) (S : PSp) (ta : VT) : VO := fun er ρ k => ta er ρ fun d1 ρ1 => insD c d1 <| S.run (immL [d1]) (fun p _ => k p ρ1) (fun c fs _ => er c fs ρ1)
theorem veo_inv {c k : Nat} {ps : List Str} {S : PSp} (hK : X.K = Y.K) (Sp : Special X.prog X.w X.K X.mg X.base k (gac X.K c) "__invert__" ps (spP Y.K Y.T S)) (hE : ErOk Y er E) (hr : Room k X.A) (hx : Passes (L2.CX X.prog X.w) X E) (ha : VE X Y er a ta) : VEO X Y er (.UnaryOp .Invert a pos) (vOwn1 c S ta) := by
  refine ⟨PE.of (pe_un (un_invC Sp hr hx) ha.pe) fun σ H Q ⟨F, ρ, R, q⟩ => ⟨F, ρ, R, ha.mono _ _ _ (fun d1 ρ1 q x F1 H1 s1 R1 r1 => ?_) q⟩, fun ρ k k' hk q => ha.mono _ _ _ (fun d1 ρ1 q => insD.imp (fun q => S.mono _ _ _ _ _ (fun p _ => hk p ρ1) (fun _ _ _ z => z) q) q) q⟩
  obtain ⟨⟨fs, rfl⟩, q⟩ := q.get
  obtain ⟨a1, dx, us, rfl, e1⟩ := r1.ob R1.sF
  exact ⟨a1, dx, us, rfl, by rw [hK]; exact e1, call_core (k := fun p ρ' => ∀ v F' H', Same F F' → Rel Y F' H' σ ρ' → PVR Y F' H' σ ρ' v p → Q v H') R1 (.cons r1 .nil) hE q fun p v F' H' s3 R3 r3 q => q v F' H' (s1.trans s3) R3 r3⟩
/-- len(x), str(x) of an object -/
def vLenO (c : Nat) (S : PSp) (t : VA) : VO := fun er ρ k => t er ρ fun ds ρ1 => match ds with
  | [d] => insD c d <| S.run (immL [d]) (fun p _ => match p with
    | .imm (.int n) => 0 ≤ n ∧ n < 2 ^ 63 ∧ k (.imm (.int n)) ρ1
    | _ => False) (fun c fs _ => er c fs ρ1)
  | _ => False
theorem veo_lenO {c k : Nat} {ps : List Str} {S : PSp} {t : VA} {p : Pos} (hK : X.K = Y.K) (Sp : Special X.prog X.w X.K X.mg X.base k (gac X.K c) "__len__" ps (spP Y.K Y.T S)) (hE : ErOk Y er E) (hr : Room (k + 1) X.A) (hx : Passes (L2.CX X.prog X.w) X E) (hm : X.mg "len" = none) (ha : VAs X Y er (e :: es) t) (hg : Gl X "len" := by rfl)
    (he : starEach (e :: es) X.env = (false, eval e X.env) :: starEach es X.env := by rfl) (hpl : (backTo pos (starEach es X.env)).any (·.1) = false := by rfl) : VEO X Y er (.Call (.Name "len" p) (e :: es) [] pos) (vLenO c S t) := by
  refine ⟨PE.of (pe_callB (call_lenO Sp hr hx) hg hm PySem.boot_len ha.pa (by decide) (by decide) he hpl) fun σ H Q ⟨F, ρ, R, q⟩ => ⟨F, ρ, R, ha.mono _ _ _ (fun ds ρ1 q vs F1 H1 s1 R1 r1 => ?_) q⟩, fun ρ k k' hk q => ha.mono _ _ _ (fun ds ρ1 q => ?_) q⟩
  · match ds, r1, q with
    | [d], .cons r .nil, q =>
      obtain ⟨⟨fs, rfl⟩, q⟩ := insD.get q
      obtain ⟨a1, dx, us, rfl, e1⟩ := r.ob R1.sF
      refine ⟨a1, dx, us, rfl, by rw [hK]; exact e1, ?_⟩
      refine call_core (k := fun p ρ' => match p with
        | .imm (.int n) => 0 ≤ n ∧ n < 2 ^ 63 ∧ ∀ v F' H', Same F F' → Rel Y F' H' σ ρ' → PVR Y F' H' σ ρ' v (.imm (.int n)) → Q v H'
        | _ => False) R1 (.cons r .nil) hE (S.mono _ _ _ _ _ (fun p _ q => ?_) (fun _ _ _ z => z) q) fun p v F' H' s3 R3 r3 q => ?_
      · match p, q with
        | .imm (.int n), q => exact q
      · match p, q, r3 with
        | .imm (.int n), q, r3 => cases r3; exact ⟨n, rfl, q.1, q.2.1, q.2.2 _ F' H' (s1.trans s3) R3 (.int _)⟩
  · match ds, q with
    | [d], q => exact insD.imp (fun q => S.mono _ _ _ _ _ (fun p _ q => by
        match p, q with
        | .imm (.int n), q => exact ⟨q.1, q.2.1, hk _ _ q.2.2⟩) (fun _ _ _ z => z) q) q
def vStrO (c : Nat) (S : PSp) (t : VA) : VO := fun er ρ k => t er ρ fun ds ρ1 => match ds with
  | [d] => insD c d <| S.run (immL [d]) (fun p _ => match p with
    | .imm (.str l) => k (.imm (.str l)) ρ1
    | _ => False) (fun c fs _ => er c fs ρ1)
  | _ => False
theorem veo_strO {c k : Nat} {ps : List Str} {S : PSp} {t : VA} {p : Pos} (hK : X.K = Y.K) (Sp : Special X.prog X.w X.K X.mg X.base k (gac X.K c) "__str__" ps (spP Y.K Y.T S)) (hE : ErOk Y er E) (hr : Room (k + 2) X.A) (hx : Passes (L2.CX X.prog X.w) X E) (hm : X.mg "str" = none) (ha : VAs X Y er (e :: es) t) (hg : Gl X "str" := by rfl)
    (he : starEach (e :: es) X.env = (false, eval e X.env) :: starEach es X.env := by rfl) (hpl : (backTo pos (starEach es X.env)).any (·.1) = false := by rfl) : VEO X Y er (.Call (.Name "str" p) (e :: es) [] pos) (vStrO c S t) := by
  refine ⟨PE.of (pe_callTy (call_strO Sp hr hx) hg hm (by decide +kernel) ha.pa (by decide) (by decide) he hpl) fun σ H Q ⟨F, ρ, R, q⟩ => ⟨F, ρ, R, ha.mono _ _ _ (fun ds ρ1 q vs F1 H1 s1 R1 r1 => ?_) q⟩, fun ρ k k' hk q => ha.mono _ _ _ (fun ds ρ1 q => ?_) q⟩
  · match ds, r1, q with
    | [d], .cons r .nil, q =>
      obtain ⟨⟨fs, rfl⟩, q⟩ := insD.get q
      obtain ⟨a1, dx, us, rfl, e1⟩ := r.ob R1.sF
      refine ⟨a1, dx, us, rfl, by rw [hK]; exact e1, ?_⟩
      refine call_core (k := fun p ρ' => match p with
        | .imm (.str n) => ∀ v F' H', Same F F' → Rel Y F' H' σ ρ' → PVR Y F' H' σ ρ' v (.imm (.str n)) → Q v H'
        | _ => False) R1 (.cons r .nil) hE (S.mono _ _ _ _ _ (fun p _ q => ?_) (fun _ _ _ z => z) q) fun p v F' H' s3 R3 r3 q => ?_
      · match p, q with
        | .imm (.str n), q => exact q
      · match p, q, r3 with
        | .imm (.str n), q, r3 => cases r3; exact ⟨_, rfl, q _ F' H' (s1.trans s3) R3 (.str _ (by assumption))⟩
  · match ds, q with
    | [d], q => exact insD.imp (fun q => S.mono _ _ _ _ _ (fun p _ q => by
        match p, q with
        | .imm (.str n), q => exact hk _ _ q) (fun _ _ _ z => z) q) q
/-- for c in x, x an object that hands on the iter of its text at place j -/
def vItO (c j : Nat) (t : VT) : VI := fun er ρ k => t er ρ fun d ρ' => match d with
  | .ins c' fs => c' = c ∧ Opt fs[j]? fun e => match e with
    | .str l => k (l.map fun c => .str [c]) ρ'
    | _ => False
  | _ => False
theorem vi_own {tg : Expr} {c j k : Nat} {f : Addr} {Fn : Str} (hK : X.K = Y.K) (hf : (cflds c)[j]? = some Fn) (I0 : ItRaw X.prog X.w X.K X.mg X.base k (gac X.K c) f Fn) (hr : Room k X.A) (hm : Meth X.K (gac X.K c) "__iter__" f) (ha : VE X Y er a ta) : VIt X Y er tg a (vItO c j ta) := by
  refine ⟨PI.of (pi_ownStr I0 hr hm ha.pe) fun σ H R0 ⟨F, ρ, R, q⟩ => ⟨F, ρ, R, ha.mono _ _ _ (fun d ρ' q v F' H' s R' r => ?_) q⟩, fun ρ k k' hk q => ha.mono _ _ _ (fun d ρ' q => ?_) q⟩
  · cases d with
    | ins c' fs =>
      have q1 := q.1
      have q2 := q.2
      subst q1
      obtain ⟨e, ee, q3⟩ := Opt.get q2
      cases e with
      | str l =>
        obtain ⟨a, dx, vs, u, rfl, h1, h2, h3⟩ := r.fld R'.sF hf ee
        cases h3 with
        | str l hc => exact ⟨a, dx, vs, tx l, rfl, by rw [hK]; exact h1, h2, q3 F' H' _ s R' (yields_str hc)⟩
      | _ => exact q3.elim
    | _ => exact q.elim
  · cases d with
    | ins c' fs => exact ⟨q.1, Opt.imp (fun e q => by cases e <;> first | exact q.elim | exact hk _ _ q) q.2⟩
    | _ => exact q.elim
end
end PL

end
section
set_option maxHeartbeats 1000000
/-! The pure layer, tenth part: promises as functions of data, kept by readings alone; calls that are heard. -/
namespace PL
open PySem PySem.Spec PyProof.Rows L2 SBX SB LamX
/-! ### bodies whose arguments are data -/
def ends0 (Q : PV → Prop) (E : Nat → List D → Prop) : PEnds where
  nx := fun _ => Q (.imm .non)
  rt := fun p _ => Q p
  er := fun c fs _ => E c fs
def st0 (n : Nat) (ds : List D) : PSt := ds.map (fun d => some (.imm d)) ++ List.replicate (n - ds.length) none
/-- what a body is to do with data -/
def Ob0 (t : VS) (n : Nat) (f : List D → Res) : Prop := ∀ ds Q E, (f ds).go Q E → t (ends0 Q E) (st0 n ds)
theorem endsA0 {ds : List D} {q : PV → List PV → Prop} {ep : Nat → List D → List PV → Prop} : endsA (immL ds) q ep = ends0 (fun p => q p (immL ds)) (fun c fs => ep c fs (immL ds)) := by
  unfold endsA ends0 erA argsK
  simp only [argsOf_imm, Opt]
theorem st0_eq {ds : List D} {n : Nat} : (immL ds).map some ++ List.replicate (n - (immL ds).length) none = st0 n ds := by
  unfold st0 immL
  rw [List.map_map, List.length_map]
  rfl
/-! ### bodies whose first argument is an object that changes -/
structure RSp where
  run : OV → List D → (PV → OV → Prop) → (Nat → List D → OV → Prop) → Prop
  mono : ∀ o ds Q Q' E E', (∀ p o, Q p o → Q' p o) → (∀ c fs o, E c fs o → E' c fs o) → run o ds Q E → run o ds Q' E'
def refS (g : RSp) : PSp where
  run as Q E := match as with
    | .own true o :: r => Opt (allImm r) fun ds => g.run o ds (fun p o' => Q p (.own true o' :: r)) (fun c fs o' => E c fs (.own true o' :: r))
    | _ => False
  mono as Q Q' E E' h1 h2 h := by
    cases as with
    | nil => exact h
    | cons a r =>
      cases a with
      | imm d => exact h
      | own b o =>
        cases b with
        | false => exact h
        | true => exact Opt.imp (fun ds h => g.mono _ _ _ _ _ _ (fun p o => h1 _ _) (fun c fs o => h2 _ _ _) h) h
def atH (ρ : PSt) (k : OV → Prop) : Prop := match ρ.head? with
  | some (some (.own true o)) => k o
  | _ => False
def ends1 (Q : PV → OV → Prop) (E : Nat → List D → OV → Prop) : PEnds where
  nx := fun ρ => atH ρ (Q (.imm .non))
  rt := fun p ρ => atH ρ (Q p)
  er := fun c fs ρ => atH ρ (E c fs)
def st1 (n : Nat) (o : OV) (ds : List D) : PSt := some (.own true o) :: (ds.map (fun d => some (.imm d)) ++ List.replicate (n - (ds.length + 1)) none)
def Ob1 (t : VS) (n : Nat) (g : RSp) : Prop := ∀ o ds Q E, g.run o ds Q E → t (ends1 Q E) (st1 n o ds)
theorem argsOf_ref {o : OV} {ds : List D} {ρ : PSt} {k : List PV → Prop} : argsK (.own true o :: immL ds) ρ k = atH ρ (fun o' => k (.own true o' :: immL ds)) := by
  unfold argsK atH
  show Opt (match ρ.head? with
    | some (some (.own true o)) => match argsOf (immL ds) ρ.tail with
      | some bs => some (PV.own true o :: bs)
      | none => none
    | _ => none) k = _
  rw [argsOf_imm]
  cases ρ.head? with
  | none => rfl
  | some x =>
    cases x with
    | none => rfl
    | some p =>
      cases p with
      | imm d => rfl
      | own b o => cases b <;> rfl
theorem endsA1 {o : OV} {ds : List D} {q : PV → List PV → Prop} {ep : Nat → List D → List PV → Prop} : endsA (.own true o :: immL ds) q ep = ends1 (fun p o' => q p (.own true o' :: immL ds)) (fun c fs o' => ep c fs (.own true o' :: immL ds)) := by
  unfold endsA ends1 erA
  simp only [argsOf_ref]
theorem st1_eq {o : OV} {ds : List D} {n : Nat} : (PV.own true o :: immL ds).map some ++ List.replicate (n - (PV.own true o :: immL ds).length) none = st1 n o ds := by
  unfold st1 immL
  simp only [List.map_cons, List.map_map, List.length_cons, List.length_map, List.cons_append]
  rfl
/-- an object made: what its __init__ does -/
def initR (c : Nat) (f : List D → Res) : RSp where
  run o ds Q E := o = .obj c [] ∧ (f ds).go (fun p => match p with
    | .own false (.obj c' fs) => c' = c ∧ Q (.imm .non) (.obj c fs)
    | _ => False) (fun e fs => ∀ o, E e fs o)
  mono o ds Q Q' E E' h1 h2 h := ⟨h.1, Res.imp (fun p q => by
    cases p with
    | imm d => exact q
    | own b o => cases b <;> cases o <;> first | exact q | exact ⟨q.1, h1 _ _ q.2⟩) (fun e fs q o => h2 _ _ _ (q o)) h.2⟩
abbrev initS (c : Nat) (f : List D → Res) : PSp := refS (initR c f)
/-- what is made is an object of this class -/
def MadeOf (c : Nat) (f : List D → Res) : Prop := ∀ ds p, f ds = .ok p → ∃ fs, p = .own false (.obj c fs)
theorem mk_init {c : Nat} {f : List D → Res} (hm : MadeOf c f) {ds : List D} {Q : PV → Prop} {E : Nat → List D → Prop} (h : (f ds).go Q E) : mkRun c (initS c f) (immL ds) Q E := by
  unfold mkRun initS refS
  show Opt (allImm (immL ds)) _
  rw [allImm_imm]
  refine ⟨rfl, ?_⟩
  cases e : f ds with
  | ok p =>
    rw [e] at h
    obtain ⟨fs, rfl⟩ := hm _ _ e
    exact ⟨rfl, h⟩
  | err c fs => rw [e] at h; exact fun _ => h
  | bad => rw [e] at h; exact h
section
variable {P : Program} {w : World} {K : PySem.W.Frag} {mg : Str → Option Value} {base : Heap} {T : List (Addr × Str)} {x qual : Str} {params : Arguments} {body : List Stmt} {scope : Scope} {dvs : List V} {f : Addr} {fd : FuncData} {N ps : List Str} {k : Nat} {t : VS}
theorem sp_len {S : PSp} {n : Nat} (len : ∀ as q ep, S.run as q ep → as.length = n) : ∀ vs H Q E, spP K T S vs H Q E → vs.length = n := fun vs H Q E ⟨B, F, as, R, h⟩ => by
  have e := R.len
  simp only [List.length_map] at e
  rw [e]
  exact len _ _ _ h
theorem len0 {g : List D → Res} {n : Nat} (len : ∀ ds, g ds ≠ .bad → ds.length = n) : ∀ as q ep, (fnS g).run as q ep → as.length = n := fun as q ep h => by
  obtain ⟨ds, e, h⟩ := Opt.get h
  rw [immL_all e]
  show (ds.map _).length = n
  rw [List.length_map]
  exact len ds fun z => by rw [z] at h; exact h
theorem len1 {g : RSp} {n : Nat} (len : ∀ o ds Q E, g.run o ds Q E → ds.length + 1 = n) : ∀ as q ep, (refS g).run as q ep → as.length = n := fun as q ep h => by
  cases as with
  | nil => exact h.elim
  | cons a r =>
    cases a with
    | imm d => exact h.elim
    | own b o =>
      cases b with
      | false => exact h.elim
      | true =>
        obtain ⟨ds, e, h⟩ := Opt.get h
        rw [immL_all e]
        show (ds.map _).length + 1 = n
        rw [List.length_map]
        exact len _ _ _ _ h
/-- a def walked: its derivation, and what its reading is to do -/
theorem fnF {g : List D → Res} (Fd : FunD K x qual params body scope dvs [] f fd) (Sc : FnScope N ps scope) (len : ∀ ds, g ds ≠ .bad → ds.length = ps.length)
    (der : ∀ (cdv : Value) (A : Around) (outer : List Env) (s : Shared) (H : Hp) (E : XK) (B : Hp) (vs0 : List V) (F0 : Hp) (er : ER), Room k (A.deeper (envOfC qual scope s.heap.objs.size f cdv)) → ErOk ⟨K, T, B, vs0, F0⟩ er E →
      VSs (cxOf (L2.CX P w) P w K mg base N qual scope f cdv A outer s H E) ⟨K, T, B, vs0, F0⟩ er body t)
    (ob : Ob0 t N.length g) : FnOk P w K mg base (L2.CX P w) (k + 1) f fd ps (spP K T (fnS g)) :=
  Fd.ok Sc (sp_len (len0 len)) fun cdv A outer s H vs Q E hr h => body_ok h fun Y as q ep e1 e2 _ hS he => by
    obtain ⟨K', T', B, vs0, F0⟩ := Y
    have e1 : K' = K := e1
    have e2 : T' = T := e2
    subst e1
    subst e2
    obtain ⟨ds, e, hS⟩ := Opt.get hS
    have e := immL_all e
    subst e
    refine ⟨t, der cdv A outer s H E B vs0 F0 _ hr he, ?_⟩
    rw [endsA0, st0_eq]
    exact ob ds _ _ hS
theorem refF {g : RSp} (Fd : FunD K x qual params body scope dvs [] f fd) (Sc : FnScope N ps scope) (len : ∀ o ds Q E, g.run o ds Q E → ds.length + 1 = ps.length)
    (der : ∀ (cdv : Value) (A : Around) (outer : List Env) (s : Shared) (H : Hp) (E : XK) (B : Hp) (vs0 : List V) (F0 : Hp) (er : ER), Room k (A.deeper (envOfC qual scope s.heap.objs.size f cdv)) → ErOk ⟨K, T, B, vs0, F0⟩ er E →
      VSs (cxOf (L2.CX P w) P w K mg base N qual scope f cdv A outer s H E) ⟨K, T, B, vs0, F0⟩ er body t)
    (ob : Ob1 t N.length g) : FnOk P w K mg base (L2.CX P w) (k + 1) f fd ps (spP K T (refS g)) :=
  Fd.ok Sc (sp_len (len1 len)) fun cdv A outer s H vs Q E hr h => body_ok h fun Y as q ep e1 e2 _ hS he => by
    obtain ⟨K', T', B, vs0, F0⟩ := Y
    have e1 : K' = K := e1
    have e2 : T' = T := e2
    subst e1
    subst e2
    cases as with
    | nil => exact hS.elim
    | cons a r =>
      cases a with
      | imm d => exact hS.elim
      | own b o =>
        cases b with
        | false => exact hS.elim
        | true =>
          obtain ⟨ds, e, hS⟩ := Opt.get hS
          have e := immL_all e
          subst e
          refine ⟨t, der cdv A outer s H E B vs0 F0 _ hr he, ?_⟩
          rw [endsA1, st1_eq]
          exact ob o ds _ _ hS
/-- the same for a def that makes lambdas -/
theorem fnFL {g : List D → Res} (Fd : FunD K x qual params body scope [] [] (He.ga K x) fd) (Sc : FnScope N ps scope) (len : ∀ ds, g ds ≠ .bad → ds.length = ps.length)
    (der : ∀ (A : Around) (outer : List Env) (s : Shared) (H : Hp) (E : XK) (B : Hp) (vs0 : List V) (F0 : Hp) (er : ER), Room k (A.deeper (envOfC qual scope s.heap.objs.size (He.ga K x) (.ref (He.cT K (x, none)).1))) → ErOk ⟨K, T, B, vs0, F0⟩ er E →
      VSs (cxOf (L2.CX P w) P w K mg base N qual scope (He.ga K x) (.ref (He.cT K (x, none)).1) A outer s H E) ⟨K, T, B, vs0, F0⟩ er body t)
    (ob : Ob0 t N.length g) (hq : x = qual) : FnOk P w K mg base (L2.CX P w) (k + 1) (He.ga K x) fd ps (spP K T (fnS g)) := by
  subst hq
  exact fnOkL Fd Sc (sp_len (len0 len)) fun A outer s H vs Q E hr h => body_ok h fun Y as q ep e1 e2 _ hS he => by
    obtain ⟨K', T', B, vs0, F0⟩ := Y
    have e1 : K' = K := e1
    have e2 : T' = T := e2
    subst e1
    subst e2
    obtain ⟨ds, e, hS⟩ := Opt.get hS
    have e := immL_all e
    subst e
    refine ⟨t, der A outer s H E B vs0 F0 _ hr he, ?_⟩
    rw [endsA0, st0_eq]
    exact ob ds _ _ hS
theorem refFL {g : RSp} (Fd : FunD K x qual params body scope [] [] (He.ga K x) fd) (Sc : FnScope N ps scope) (len : ∀ o ds Q E, g.run o ds Q E → ds.length + 1 = ps.length)
    (der : ∀ (A : Around) (outer : List Env) (s : Shared) (H : Hp) (E : XK) (B : Hp) (vs0 : List V) (F0 : Hp) (er : ER), Room k (A.deeper (envOfC qual scope s.heap.objs.size (He.ga K x) (.ref (He.cT K (x, none)).1))) → ErOk ⟨K, T, B, vs0, F0⟩ er E →
      VSs (cxOf (L2.CX P w) P w K mg base N qual scope (He.ga K x) (.ref (He.cT K (x, none)).1) A outer s H E) ⟨K, T, B, vs0, F0⟩ er body t)
    (ob : Ob1 t N.length g) (hq : x = qual) : FnOk P w K mg base (L2.CX P w) (k + 1) (He.ga K x) fd ps (spP K T (refS g)) := by
  subst hq
  exact fnOkL Fd Sc (sp_len (len1 len)) fun A outer s H vs Q E hr h => body_ok h fun Y as q ep e1 e2 _ hS he => by
    obtain ⟨K', T', B, vs0, F0⟩ := Y
    have e1 : K' = K := e1
    have e2 : T' = T := e2
    subst e1
    subst e2
    cases as with
    | nil => exact hS.elim
    | cons a r =>
      cases a with
      | imm d => exact hS.elim
      | own b o =>
        cases b with
        | false => exact hS.elim
        | true =>
          obtain ⟨ds, e, hS⟩ := Opt.get hS
          have e := immL_all e
          subst e
          refine ⟨t, der A outer s H E B vs0 F0 _ hr he, ?_⟩
          rw [endsA1, st1_eq]
          exact ob o ds _ _ hS
end
/-! ### calls of functions of data -/
section
variable {X : Cx} {Y : SE} {er : ER} {E : XK} {k i : Nat} {x m : Str} {ps : List Str} {f : List D → Res} {p pos apos : Pos} {e o a b : Expr} {es : List Expr} {t : VA} {ta tb : VT}
def vFn (f : List D → Res) (t : VA) : VO := fun er ρ k => t er ρ fun ds ρ1 => (f ds).go (fun p => k p ρ1) (fun c fs => er c fs ρ1)
theorem fn_run {ds : List D} {Q : PV → List PV → Prop} {Ep : Nat → List D → List PV → Prop} : (fnS f).run (immL ds) Q Ep = (f ds).go (fun p => Q p (immL ds)) (fun c fs => Ep c fs (immL ds)) := by
  show Opt (allImm (immL ds)) _ = _
  rw [allImm_imm]
  rfl
theorem vFn_eq : vCall (fnS f) t = vFn f t := by
  funext er ρ k
  unfold vCall vFn
  simp only [fn_run]
theorem veo_fn (C : CallOk X.prog X.w X.K X.mg X.base k x ps (spP Y.K Y.T (fnS f))) (hE : ErOk Y er E) (hr : Room k X.A) (hx : Passes (L2.CX X.prog X.w) X E) (ha : VAs X Y er (e :: es) t) (hg : Gl X x := by rfl)
    (hdb : (x == ("__debug__" : Str)) = false := by decide) (he : starEach (e :: es) X.env = (false, eval e X.env) :: starEach es X.env := by rfl) (hpl : (backTo pos (starEach es X.env)).any (·.1) = false := by rfl) :
    VEO X Y er (.Call (.Name x p) (e :: es) [] pos) (vFn f t) := by
  have h := veo_call (S := fnS f) (pos := pos) (p := p) C hE hr hx ha hg hdb he hpl
  rwa [vFn_eq] at h
theorem veo_fn0 (C : CallOk X.prog X.w X.K X.mg X.base k x ps (spP Y.K Y.T (fnS f))) (hE : ErOk Y er E) (hr : Room k X.A) (hx : Passes (L2.CX X.prog X.w) X E) (hg : Gl X x := by rfl)
    (hdb : (x == ("__debug__" : Str)) = false := by decide) : VEO X Y er (.Call (.Name x p) [] [] pos) (vFn f vNil) := by
  have h := veo_call0 (S := fnS f) (pos := pos) (p := p) (er := er) C hE hr hx hg hdb
  rwa [vFn_eq] at h
/-- f(x, ..), slot i handed on to be changed -/
def vRef (i : Nat) (g : RSp) (t : VA) : VO := fun er ρ k => hasO ρ i <| t er ρ fun ds ρ1 => match ρ1[i]? with
  | some (some (.own r o)) => g.run o ds (fun p o' => k p (ρ1.set i (some (.own r o')))) (fun c fs o' => er c fs (ρ1.set i (some (.own r o'))))
  | _ => False
theorem ref_run {g : RSp} {o : OV} {ds : List D} {Q : PV → List PV → Prop} {Ep : Nat → List D → List PV → Prop} : (refS g).run (.own true o :: immL ds) Q Ep = g.run o ds (fun p o' => Q p (.own true o' :: immL ds)) (fun c fs o' => Ep c fs (.own true o' :: immL ds)) := by
  show Opt (allImm (immL ds)) _ = _
  rw [allImm_imm]
  rfl
theorem vRef_eq {g : RSp} : vCallR i (refS g) t = vRef i g t := by
  funext er ρ k
  unfold vCallR vRef
  simp only [ref_run]
  try rfl
theorem veo_ref {g : RSp} {n : Str} {pn : Pos} (hN : X.N[i]? = some n) (hv : Vis X.env.scope n) (C : CallOk X.prog X.w X.K X.mg X.base k x ps (spP Y.K Y.T (refS g))) (hE : ErOk Y er E) (hr : Room k X.A) (hx : Passes (L2.CX X.prog X.w) X E) (ha : VAs X Y er es t) (hg : Gl X x := by rfl)
    (hdn : (n == ("__debug__" : Str)) = false := by decide) (hcd : (n == ("__classdict__" : Str)) = false := by decide)
    (hdb : (x == ("__debug__" : Str)) = false := by decide) (he : starEach (.Name n pn :: es) X.env = (false, eval (.Name n pn) X.env) :: starEach es X.env := by rfl) (hpl : (backTo pos (starEach es X.env)).any (·.1) = false := by rfl) :
    VEO X Y er (.Call (.Name x p) (.Name n pn :: es) [] pos) (vRef i g t) := by
  have h := veo_callR (S := refS g) (pos := pos) (p := p) (pn := pn) hN hv C hE hr hx ha hg hdn hcd hdb he hpl
  rwa [vRef_eq] at h
theorem VEO.of {t t' : VO} (h : VEO X Y er e t) (i : ∀ er ρ k, t' er ρ k → t er ρ k) (m : ∀ ρ k k', (∀ p ρ, k p ρ → k' p ρ) → t' er ρ k → t' er ρ k') : VEO X Y er e t' :=
  ⟨PE.of h.pe fun σ H Q ⟨F, ρ, R, q⟩ => ⟨F, ρ, R, i _ _ _ q⟩, m⟩
theorem fn_mono {es : List Expr} (ha : VAs X Y er es t) : ∀ ρ k k', (∀ p ρ, k p ρ → k' p ρ) → vFn f t er ρ k → vFn f t er ρ k' := fun ρ k k' hk q => ha.mono _ _ _ (fun ds ρ1 q => Res.imp (fun p => hk p ρ1) (fun _ _ q => q) q) q
def vMk (f : List D → Res) (dd : List D) (t : VA) : VO := fun er ρ k => t er ρ fun ds ρ1 => (f (ds ++ dd)).go (fun p => k p ρ1) (fun c fs => er c fs ρ1)
theorem mk_mono1 {dd : List D} {es : List Expr} (ha : VAs X Y er es t) : ∀ ρ k k', (∀ p ρ, k p ρ → k' p ρ) → vMk f dd t er ρ k → vMk f dd t er ρ k' := fun ρ k k' hk q => ha.mono _ _ _ (fun ds ρ1 q => Res.imp (fun p => hk p ρ1) (fun _ _ q => q) q) q
theorem veo_mk {c k : Nat} {dls : List (List D)} (dd : List D) (hK : X.K = Y.K) (M : MkP X.prog X.w X.K X.mg X.base Y.T k c ps dls (initS c f)) (hM : MadeOf c f) (hd : dd ∈ dls) (hE : ErOk Y er E) (hr : Room (k + 1) X.A) (hx : Passes (L2.CX X.prog X.w) X E) (hm : X.mg x = some (.ref (gac X.K c))) (ha : VAs X Y er (e :: es) t) (hg : Gl X x := by rfl) (hdb : (x == ("__debug__" : Str)) = false := by decide)
    (he : starEach (e :: es) X.env = (false, eval e X.env) :: starEach es X.env := by rfl) (hpl : (backTo pos (starEach es X.env)).any (·.1) = false := by rfl) : VEO X Y er (.Call (.Name x p) (e :: es) [] pos) (vMk f dd t) := by
  have h := veo_make (pos := pos) (p := p) dd hK M hd hE hr hx hm ha hg hdb he hpl
  refine ⟨PE.of h.pe fun σ H Q ⟨F, ρ, R, q⟩ => ⟨F, ρ, R, ha.mono _ _ _ (fun ds ρ1 q => mk_init hM q) q⟩, mk_mono1 ha⟩
theorem veo_mk0 {c k : Nat} {dls : List (List D)} (dd : List D) (hK : X.K = Y.K) (M : MkP X.prog X.w X.K X.mg X.base Y.T k c ps dls (initS c f)) (hM : MadeOf c f) (hd : dd ∈ dls) (hE : ErOk Y er E) (hr : Room (k + 1) X.A) (hx : Passes (L2.CX X.prog X.w) X E) (hm : X.mg x = some (.ref (gac X.K c))) (hg : Gl X x := by rfl) (hdb : (x == ("__debug__" : Str)) = false := by decide) :
    VEO X Y er (.Call (.Name x p) [] [] pos) (vMk f dd vNil) := by
  have h := veo_make0 (pos := pos) (p := p) (er := er) dd hK M hd hE hr hx hm hg hdb
  refine ⟨PE.of h.pe fun σ H Q ⟨F, ρ, R, q⟩ => ⟨F, ρ, R, mk_init hM q⟩, fun ρ k k' hk q => Res.imp (fun p => hk p ρ) (fun _ _ q => q) q⟩
def vMkK (n : Nat) (f : List D → Res) (t : VA) : VO := fun er ρ k => t er ρ fun ds ρ1 => ds.length = n ∧ (f ds).go (fun p => k p ρ1) (fun c fs => er c fs ρ1)
theorem veo_mkK {c k : Nat} {dls : List (List D)} {kws : List Keyword} (hK : X.K = Y.K) (M : MkP X.prog X.w X.K X.mg X.base Y.T k c ps dls (initS c f)) (hM : MadeOf c f) (hE : ErOk Y er E) (hr : Room (k + 1) X.A) (hx : Passes (L2.CX X.prog X.w) X E) (hm : X.mg x = some (.ref (gac X.K c))) (hkw : VKs X Y er kws t) (hg : Gl X x := by rfl)
    (hall : (backToKw pos (keywordEach kws X.env)).all (·.1.isSome) = true := by rfl) (hks : (backToKw pos (keywordEach kws X.env)).filterMap (·.1) = ps := by rfl)
    (hdb : (x == ("__debug__" : Str)) = false := by decide) (hpl : ((backTo pos (starEach [] X.env)).any (·.1) || (backToKw pos (keywordEach kws X.env)).any (·.1.isNone)) = false := by rfl) : VEO X Y er (.Call (.Name x p) [] kws pos) (vMkK ps.length f t) := by
  have h := veo_makeK (pos := pos) (p := p) hK M hE hr hx hm hkw hg hall hks hdb hpl
  refine ⟨PE.of h.pe fun σ H Q ⟨F, ρ, R, q⟩ => ⟨F, ρ, R, hkw.mono _ _ _ (fun ds ρ1 q => ⟨q.1, mk_init hM q.2⟩) q⟩, fun ρ k k' hk q => hkw.mono _ _ _ (fun ds ρ1 q => ⟨q.1, Res.imp (fun p => hk p ρ1) (fun _ _ q => q) q.2⟩) q⟩
end
/-! ### calls that are heard -/
def hideO (ρ : PSt) : PSt := ρ.map fun p => match p with
  | some (.imm d) => some (.imm d)
  | _ => none
section
variable {Y : SE} {F H : Hp} {σ : L2.St} {ρ : PSt}
theorem hide_imm {i : Nat} {p : PV} (h : (hideO ρ)[i]? = some (some p)) : ∃ d, p = .imm d ∧ ρ[i]? = some (some (.imm d)) := by
  unfold hideO at h
  rw [List.getElem?_map] at h
  cases q : ρ[i]? with
  | none => rw [q] at h; cases h
  | some x =>
    rw [q] at h
    cases x with
    | none => cases h
    | some p' => cases p' with
      | imm d => cases h; exact ⟨d, rfl, rfl⟩
      | own b o => cases h
theorem Rel.extN {H1 : Hp} (R : Rel Y F H σ ρ) (e : ExtN H H1) (t : Tabs Y.T H1) : Rel Y F H1 σ ρ := by
  have sH : ∀ b o, F b = some o → H1 b = some o := fun b o q => e b o (R.sF _ _ q) fun ps z => R.nt b ps (by rw [q, z])
  refine ⟨R.s0, sH, R.nt, R.ntB, t, fun b o q => e b o (R.sB _ _ q) fun ps z => R.ntB b ps (by rw [q, z]), R.dis, R.len, R.imm, fun i r o q => ?_, R.apart⟩
  obtain ⟨a, h1, h2, h3, h4, h5⟩ := R.own i r o q
  obtain ⟨u, hu, nu⟩ := h4.at_
  exact ⟨a, h1, h2, h3, h4.mono (Same.refl F) sH h2 (by rw [hu]; exact e _ _ hu nu), h5⟩
theorem Rel.hide (R : Rel Y F H σ ρ) (vs : List V) : Rel (.of Y.K Y.T (restB F H []) F vs) F H σ (hideO ρ) := by
  refine ⟨Same.refl F, R.sF, R.nt, fun b ps e => (restB_get e).2.1 ps rfl, R.tabs, fun b o e => (restB_get e).1, fun b o e => (restB_get e).2.2.1, by unfold hideO; rw [List.length_map]; exact R.len, fun i d e => ?_, fun i b o e => ?_, fun i j a _ ⟨_, b, o, e⟩ => ?_⟩
  · obtain ⟨d', z, e'⟩ := hide_imm e
    cases z
    exact R.imm i _ e'
  · obtain ⟨d', z, e'⟩ := hide_imm e
    cases z
  · obtain ⟨d', z, e'⟩ := hide_imm e
    cases z
end
/-! readings grow with what is wanted of errors, too -/
def EMT (t : VT) : Prop := ∀ (er er2 : ER) ρ (k k' : D → PSt → Prop), (∀ d ρ, k d ρ → k' d ρ) → (∀ c fs ρ, er c fs ρ → er2 c fs ρ) → t er ρ k → t er2 ρ k'
def EMO (t : VO) : Prop := ∀ (er er2 : ER) ρ (k k' : PV → PSt → Prop), (∀ d ρ, k d ρ → k' d ρ) → (∀ c fs ρ, er c fs ρ → er2 c fs ρ) → t er ρ k → t er2 ρ k'
def EMA (t : VA) : Prop := ∀ (er er2 : ER) ρ (k k' : List D → PSt → Prop), (∀ d ρ, k d ρ → k' d ρ) → (∀ c fs ρ, er c fs ρ → er2 c fs ρ) → t er ρ k → t er2 ρ k'
theorem em_var {i : Nat} : EMT (vVar i) := fun er er2 ρ k k' hk _ q => by
  unfold vVar at q ⊢
  cases e : ρ[i]? with
  | none => rw [e] at q; exact q
  | some p =>
    rw [e] at q
    cases p with
    | none => exact q
    | some p =>
      cases p with
      | imm d => exact hk _ _ q
      | own b o => cases b with
        | true => exact q
        | false => exact Opt.imp (fun d => hk _ _) q
theorem em_c {d : D} : EMT (vC d) := fun er er2 ρ k k' hk _ q => hk _ _ q
theorem em_fz {t : VO} (h : EMO t) : EMT (vFz t) := fun er er2 ρ k k' hk he q => h _ _ _ _ _ (fun p ρ q => by
  cases p with
  | imm d => exact hk _ _ q
  | own b o => exact Opt.imp (fun d => hk _ _) q) he q
theorem em_nil : EMA vNil := fun er er2 ρ k k' hk _ q => hk _ _ q
theorem em_cons {t : VT} {u : VA} (h : EMT t) (hu : EMA u) : EMA (vCons t u) := fun er er2 ρ k k' hk he q => h _ _ _ _ _ (fun d ρ q => hu _ _ _ _ _ (fun ds ρ => hk _ _) he q) he q
theorem em_fn {f : List D → Res} {t : VA} (h : EMA t) : EMO (vFn f t) := fun er er2 ρ k k' hk he q => h _ _ _ _ _ (fun ds ρ q => Res.imp (fun p => hk p ρ) (fun c fs => he c fs ρ) q) he q
theorem em_mk {f : List D → Res} {dd : List D} {t : VA} (h : EMA t) : EMO (vMk f dd t) := fun er er2 ρ k k' hk he q => h _ _ _ _ _ (fun ds ρ q => Res.imp (fun p => hk p ρ) (fun c fs => he c fs ρ) q) he q
theorem em_mkK {f : List D → Res} {n : Nat} {t : VA} (h : EMA t) : EMO (vMkK n f t) := fun er er2 ρ k k' hk he q => h _ _ _ _ _ (fun ds ρ q => ⟨q.1, Res.imp (fun p => hk p ρ) (fun c fs => he c fs ρ) q.2⟩) he q
/-- the error that a call raises, None if it raises none; cat: the errors that can come -/
def vHeard (cat : List Nat) (t : VT) : VT := fun er ρ k => t (fun c fs _ => onB (cat.contains c && (anc c).contains 0) (k (.exc c fs) ρ)) (hideO ρ) fun _ _ => k .non ρ
theorem ve_heard {X : Cx} {Y : SE} {er : ER} {k : Nat} {scope : Scope} {body e : Expr} {t : VT} {cs es ask cat : List Nat} (hK : X.K = Y.K) (Fc : Fct Y.K cs es ask cat) (h0 : 0 ∈ cat)
    (HP : ∀ tt : XK → TE, (∀ (A : Around) (outer : List Env) (s : Shared) (H : Hp) (E : XK) (f c' : Addr), Room k (A.deeper (lamEnv X scope s.heap.objs.size f c')) → Passes (L2.CX X.prog X.w) (lamCx X A outer s H E scope f c') E → PE (lamCx X A outer s H E scope f c') body (tt E)) → PE X e (tLam Y.T (THeardN X.K (He.ga X.K "BallError")) tt))
    (hb : ∀ (A : Around) (outer : List Env) (s : Shared) (H : Hp) (E : XK) (f c' : Addr) (B F0 : Hp) (vs0 : List V) (er' : ER), Room k (A.deeper (lamEnv X scope s.heap.objs.size f c')) → Passes (L2.CX X.prog X.w) (lamCx X A outer s H E scope f c') E → ErOk (.of Y.K Y.T B F0 vs0) er' E → VE (lamCx X A outer s H E scope f c') (.of Y.K Y.T B F0 vs0) er' body t) (hm : EMT t) : VE X Y er e (vHeard es t) := by
  refine ⟨PE.of (HP (fun E σ H Q => ∃ er' B F0 vs0, ErOk (.of Y.K Y.T B F0 vs0) er' E ∧ tE (.of Y.K Y.T B F0 vs0) er' t σ H Q) fun A outer s H E f c' hr hx => ⟨fun pins s' σ H' Q I ⟨er', B, F0, vs0, he, h⟩ => (hb A outer s H E f c' B F0 vs0 er' hr hx he).pe.run pins s' σ H' Q I h⟩) ?_, fun ρ k k' hk q => ?_⟩
  · rintro σ H Q ⟨F, ρ, R, q⟩
    refine ⟨R.tabs, fun H1 e1 t1 => ?_⟩
    have R1 := R.extN e1 t1
    refine ⟨_, _, _, [], ?_, F, _, R1.hide [], hm _ _ _ _ _ (fun d ρ' q => ?_) (fun c fs ρ' q => q) q⟩
    · intro B' hB F2 H2 σ2 ρ2 c fs d xs R2 q hd hr
      obtain ⟨hc, q⟩ := q.get
      have hc := Bool.and_eq_true_iff.mp hc
      have hce : c ∈ es := by simpa using hc.1
      have hx := Fc.xm c hce 0 h0
      rw [hc.2, ← hK] at hx
      have R3 := R1.back0 (Rel.lessB hB R2)
      refine ⟨by rw [hK] at hx ⊢; exact hx, fun a ha => ?_⟩
      obtain ⟨R4, s4⟩ := R3.new ha (o := XcO (.ref (He.ga Y.K (cname c))) (some d) a) (fun _ z => by unfold XcO at z; cases z)
      have ne : d ≠ a := fun z => by rw [z, R3.sF.free ha] at hd; cases hd
      exact q (.ref a) _ _ ((show Same F F2 from R2.s0).trans s4) R4 (.exc upd_same (by rw [upd_ne ne]; exact hd) (hr.mono s4))
    · intro v F2 H2 s2 R2 _
      exact ⟨_, rfl, q .non F2 H2 s2 (R1.back0 R2) .non⟩
  · exact hm _ _ _ _ _ (fun d ρ' q => hk _ _ q) (fun c fs ρ' q => onB.imp (fun q => hk _ _ q) q) q
end PL

end
section
set_option maxHeartbeats 1000000
/-! The pure layer, eleventh part: own operators beside other kinds of things; readings that grow with the wish of errors. -/
namespace PL
open PySem PySem.Spec PyProof.Rows L2 SBX SB LamX
def aliD : D → Bool
  | .non => true | .bl _ => true | .int _ => true | .str _ => true | .lst _ => true | .tup _ => true | _ => false
section
variable {X : Cx} {Y : SE} {er : ER} {E : XK} {pos : Pos} {a b : Expr} {ta tb : VT}
theorem ali_rep {K : PySem.W.Frag} {F H : Hp} (s : Same F H) {v : V} {d : D} (r : Rep K F v d) (h : aliD d = true) : ∃ T, Alien K H v T := by
  cases r with
  | non => exact ⟨_, .non⟩
  | bl b => exact ⟨_, .bl b⟩
  | int i => exact ⟨_, .int i⟩
  | str l hc => exact ⟨_, .str _⟩
  | lst hh r => exact ⟨_, .lst (s _ _ hh)⟩
  | tup hh r => exact ⟨_, .tup (sqT_same s hh)⟩
  | _ => cases h
theorem ki_all {cs es ask cat : List Nat} {K : PySem.W.Frag} (Fc : Fct K cs es ask cat) {c : Nat} (h : c ∈ ask) : ∀ T, (∃ H y, Alien K H y T) → PySem.W.kitOne K (.type T) (.ref (gac K c)) = some false := fun T ⟨H, y, q⟩ => by
  cases q with
  | non => exact Fc.tc c h .none
  | bl b => exact Fc.tc c h .bool
  | int i => exact Fc.tc c h .int
  | str x => exact Fc.tc c h .str
  | lst e => exact Fc.tc c h .list
  | tup e => exact Fc.tc c h .tuple
def boolP (p : PV) (k : Bool → Prop) : Prop := match p with
  | .imm (.bl b) => k b
  | _ => False
theorem boolP.get {p : PV} {k : Bool → Prop} (h : boolP p k) : ∃ b, p = .imm (.bl b) ∧ k b := by
  cases p with
  | own b o => exact h.elim
  | imm d => cases d with
    | bl b => exact ⟨b, rfl, h⟩
    | _ => exact h.elim
/-- x == y (neg: x != y), x an object of class c, y one or another kind of thing -/
def vEqA (neg : Bool) (c : Nat) (S : PSp) (ta tb : VT) : VT := fun er ρ k => ta er ρ fun d1 ρ1 => tb er ρ1 fun d2 ρ2 => insD c d1 <| match aliD d2 with
  | true => k (.bl neg) ρ2
  | false => insD c d2 <| S.run (immL [d1, d2]) (fun p _ => boolP p fun b => k (.bl (ng neg b)) ρ2) (fun c fs _ => er c fs ρ2)
theorem eqA_mono {neg : Bool} {c : Nat} {S : PSp} (ha : VE X Y er a ta) (hb : VE X Y er b tb) : ∀ ρ k k', (∀ p ρ, k p ρ → k' p ρ) → vEqA neg c S ta tb er ρ k → vEqA neg c S ta tb er ρ k' := fun ρ k k' hk q => ha.mono _ _ _ (fun d1 ρ1 q => hb.mono _ _ _ (fun d2 ρ2 q => insD.imp (fun q => by
  cases e : aliD d2 with
  | true => rw [e] at q; exact hk _ _ q
  | false =>
    rw [e] at q
    refine insD.imp (fun q => S.mono _ _ _ _ _ (fun p _ q => ?_) (fun _ _ _ z => z) q) q
    obtain ⟨b, rfl, q⟩ := q.get
    exact hk _ _ q) q) q) q
theorem eqA_ok {neg : Bool} {c : Nat} {S : PSp} (hK : X.K = Y.K) (hE : ErOk Y er E) (ha : VE X Y er a ta) (hb : VE X Y er b tb) {σ : L2.St} {H : Hp} {Q : VK} (h : tE Y er (vEqA neg c S ta tb) σ H Q) :
    tOp (fun x y H Q => (∃ a dx fs T, x = .ref a ∧ H a = some (.ins (gac X.K c) dx fs) ∧ Alien X.K H y T ∧ Q (.bl neg) H) ∨ (∃ a dx fs b dy gs, x = .ref a ∧ y = .ref b ∧ H a = some (.ins (gac X.K c) dx fs) ∧ H b = some (.ins (gac X.K c) dy gs) ∧ spP Y.K Y.T S [.ref a, .ref b] H (fun v H' => ∃ r, v = .bl r ∧ Q (.bl (ng neg r)) H') E)) (tE Y er ta) (tE Y er tb) σ H Q := by
  obtain ⟨F, ρ, R, q⟩ := h
  refine ⟨F, ρ, R, ha.mono _ _ _ (fun d1 ρ1 q x F1 H1 s1 R1 r1 => ⟨F1, ρ1, R1, hb.mono _ _ _ (fun d2 ρ2 q y F2 H2 s2 R2 r2 => ?_) q⟩) q⟩
  obtain ⟨⟨fs, rfl⟩, q⟩ := q.get
  obtain ⟨a1, dx, us, rfl, e1⟩ := (r1.mono s2).ob R2.sF
  cases e : aliD d2 with
  | true =>
    rw [e] at q
    obtain ⟨T, al⟩ := ali_rep R2.sF r2 e
    exact .inl ⟨a1, dx, us, T, rfl, by rw [hK]; exact e1, by rw [hK]; exact al, q _ F2 H2 (s1.trans s2) R2 (.bl _)⟩
  | false =>
    rw [e] at q
    obtain ⟨⟨gs, rfl⟩, q⟩ := q.get
    obtain ⟨b1, dy, ws, rfl, e2⟩ := r2.ob R2.sF
    refine .inr ⟨a1, dx, us, b1, dy, ws, rfl, rfl, by rw [hK]; exact e1, by rw [hK]; exact e2, ?_⟩
    refine call_core (k := fun p ρ' => boolP p fun b => ∀ v F' H', Same F F' → Rel Y F' H' σ ρ' → Rep Y.K F' v (.bl (ng neg b)) → Q v H') R2 (.cons (r1.mono s2) (.cons r2 .nil)) hE q fun p v F' H' s3 R3 r3 q => ?_
    obtain ⟨b, rfl, q⟩ := q.get
    cases r3
    exact ⟨b, rfl, q _ F' H' ((s1.trans s2).trans s3) R3 (.bl _)⟩
theorem bl_back {r : Bool} {Q : VK} {H : Hp} {v : V} (h : ∃ r, v = .bl r ∧ Q (.bl (ng false r)) H) : Q v H := by
  obtain ⟨r, rfl, h⟩ := h
  exact h
theorem ve_eqA {c k j : Nat} {ps : List Str} {S : PSp} (hK : X.K = Y.K) (Sp : Special X.prog X.w X.K X.mg X.base k (gac X.K c) "__eq__" ps (spP Y.K Y.T S)) (N : ∃ f, Meth X.K (gac X.K c) "__eq__" f ∧ NiRaw X.prog X.w X.K X.mg X.base j (gac X.K c) f) (dc : DecC X.K (gac X.K c))
    (ki : ∀ T, (∃ H y, Alien X.K H y T) → PySem.W.kitOne X.K (.type T) (.ref (gac X.K c)) = some false) (hE : ErOk Y er E) (hr : Room k X.A) (hj : Room j X.A) (hx : Passes (L2.CX X.prog X.w) X E) (ha : VE X Y er a ta) (hb : VE X Y er b tb) :
    VE X Y er (.Compare a [.Eq] [b] pos) (vEqA false c S ta tb) :=
  ⟨PE.of (pe_cmpR (or_op (op_eqA N dc hj ki) (op_cmpC (op := .Eq) (fun _ _ => rfl) Sp hr hx)) ha.pe hb.pe (nomark _)) fun σ H Q h => by
    obtain ⟨F, ρ, R, q⟩ := eqA_ok hK hE ha hb h
    refine ⟨F, ρ, R, ha.mono _ _ _ (fun d1 ρ1 q x F1 H1 s1 R1 r1 => ?_) q⟩
    obtain ⟨F', ρ', R', q'⟩ := q x F1 H1 s1 R1 r1
    refine ⟨F', ρ', R', hb.mono _ _ _ (fun d2 ρ2 q y F2 H2 s2 R2 r2 => ?_) q'⟩
    rcases q y F2 H2 s2 R2 r2 with q | ⟨a1, dx, fs, b1, dy, gs, e1, e2, e3, e4, q⟩
    · exact .inl q
    · obtain ⟨B, F3, as, R3, h3⟩ := q
      exact .inr ⟨a1, dx, fs, b1, dy, gs, e1, e2, e3, e4, B, F3, as, R3, S.mono _ _ _ _ _ (fun p bs q v F' H' R' r' => bl_back (r := true) (q v F' H' R' r')) (fun _ _ _ z => z) h3⟩, eqA_mono ha hb⟩
theorem ve_neA {c k j : Nat} {ps : List Str} {S : PSp} (hK : X.K = Y.K) (Sp : Special X.prog X.w X.K X.mg X.base k (gac X.K c) "__eq__" ps (spP Y.K Y.T S)) (ty : TyC X.K (gac X.K c)) (N : ∃ f, Meth X.K (gac X.K c) "__eq__" f ∧ NiRaw X.prog X.w X.K X.mg X.base j (gac X.K c) f) (dc : DecC X.K (gac X.K c))
    (ki : ∀ T, (∃ H y, Alien X.K H y T) → PySem.W.kitOne X.K (.type T) (.ref (gac X.K c)) = some false) (hE : ErOk Y er E) (hr : Room (k + 1) X.A) (hj : Room (j + 1) X.A) (hx : Passes (L2.CX X.prog X.w) X E) (ha : VE X Y er a ta) (hb : VE X Y er b tb) :
    VE X Y er (.Compare a [.NotEq] [b] pos) (vEqA true c S ta tb) :=
  ⟨PE.of (pe_cmpR (or_op (op_neA N dc hj ki) (op_neC Sp ty dc.ne hr hx)) ha.pe hb.pe (nomark _)) fun σ H Q h => eqA_ok hK hE ha hb h, eqA_mono ha hb⟩
theorem vt_bl {e : Expr} {t : VT} (h : VE X Y er e t) (he : ∀ whole, isTrue e X.env whole = (do let v ← whole; standAt e.pos; holding [v] (truthy v)) := by intro _; rfl) (hK : X.K = Y.K := by rfl) : VTs X Y er e (vTr t) := vt_tr hK h he
/-- x * y, x an object, y an object of the same class or another kind of thing -/
def vMulA (c : Nat) (S : PSp) (ta tb : VT) : VO := fun er ρ k => ta er ρ fun d1 ρ1 => tb er ρ1 fun d2 ρ2 => insD c d1 <| match aliD d2 with
  | true => S.run (immL [d1, d2]) (fun p _ => k p ρ2) (fun c fs _ => er c fs ρ2)
  | false => insD c d2 <| S.run (immL [d1, d2]) (fun p _ => k p ρ2) (fun c fs _ => er c fs ρ2)
theorem veo_mulA {c k : Nat} {ps : List Str} {S : PSp} (hK : X.K = Y.K) (Sp : Special X.prog X.w X.K X.mg X.base k (gac X.K c) "__mul__" ps (spP Y.K Y.T S)) (dc : DecC X.K (gac X.K c)) (sf : PySem.W.selfFirst X.K (gac X.K c) = true) (hrm : PySem.W.findIn X.K (.ref (gac X.K c)) "__rmul__" = some none) (hE : ErOk Y er E) (hr : Room k X.A) (hx : Passes (L2.CX X.prog X.w) X E) (ha : VE X Y er a ta) (hb : VE X Y er b tb) :
    VEO X Y er (.BinOp a .Mult b pos) (vMulA c S ta tb) := by
  refine ⟨PE.of (pe_op (or_op (op_mulA Sp dc sf hrm hr hx) (op_binC (op := .Mult) Sp sf hr hx)) ha.pe hb.pe) fun σ H Q ⟨F, ρ, R, q⟩ => ⟨F, ρ, R, ha.mono _ _ _ (fun d1 ρ1 q x F1 H1 s1 R1 r1 => ⟨F1, ρ1, R1, hb.mono _ _ _ (fun d2 ρ2 q y F2 H2 s2 R2 r2 => ?_) q⟩) q⟩, fun ρ k k' hk q => ha.mono _ _ _ (fun d1 ρ1 q => hb.mono _ _ _ (fun d2 ρ2 q => insD.imp (fun q => ?_) q) q) q⟩
  · obtain ⟨⟨fs, rfl⟩, q⟩ := q.get
    obtain ⟨a1, dx, us, rfl, e1⟩ := (r1.mono s2).ob R2.sF
    cases e : aliD d2 with
    | true =>
      rw [e] at q
      obtain ⟨T, al⟩ := ali_rep R2.sF r2 e
      exact .inl ⟨a1, dx, us, T, rfl, by rw [hK]; exact e1, by rw [hK]; exact al, call_core (k := fun p ρ' => ∀ v F' H', Same F F' → Rel Y F' H' σ ρ' → PVR Y F' H' σ ρ' v p → Q v H') R2 (.cons (r1.mono s2) (.cons r2 .nil)) hE q fun p v F' H' s3 R3 r3 q => q v F' H' ((s1.trans s2).trans s3) R3 r3⟩
    | false =>
      rw [e] at q
      obtain ⟨⟨gs, rfl⟩, q⟩ := q.get
      obtain ⟨b1, dy, ws, rfl, e2⟩ := r2.ob R2.sF
      exact .inr ⟨a1, dx, us, b1, dy, ws, rfl, rfl, by rw [hK]; exact e1, by rw [hK]; exact e2, call_core (k := fun p ρ' => ∀ v F' H', Same F F' → Rel Y F' H' σ ρ' → PVR Y F' H' σ ρ' v p → Q v H') R2 (.cons (r1.mono s2) (.cons r2 .nil)) hE q fun p v F' H' s3 R3 r3 q => q v F' H' ((s1.trans s2).trans s3) R3 r3⟩
  · cases e : aliD d2 with
    | true => rw [e] at q; exact S.mono _ _ _ _ _ (fun p _ => hk p ρ2) (fun _ _ _ z => z) q
    | false => rw [e] at q; exact insD.imp (fun q => S.mono _ _ _ _ _ (fun p _ => hk p ρ2) (fun _ _ _ z => z) q) q
end
theorem em_mulA {c : Nat} {S : PSp} {ta tb : VT} (ha : EMT ta) (hb : EMT tb) : EMO (vMulA c S ta tb) := fun er er2 ρ k k' hk he q => ha _ _ _ _ _ (fun d1 ρ1 q => hb _ _ _ _ _ (fun d2 ρ2 q => insD.imp (fun q => by
  cases e : aliD d2 with
  | true => rw [e] at q; exact S.mono _ _ _ _ _ (fun p _ => hk p ρ2) (fun c fs _ => he c fs ρ2) q
  | false => rw [e] at q; exact insD.imp (fun q => S.mono _ _ _ _ _ (fun p _ => hk p ρ2) (fun c fs _ => he c fs ρ2) q) q) q) he q) he q
theorem em_own2 {c : Nat} {S : PSp} {ta tb : VT} (ha : EMT ta) (hb : EMT tb) : EMO (vOwn2 c S ta tb) := fun er er2 ρ k k' hk he q => ha _ _ _ _ _ (fun d1 ρ1 q => hb _ _ _ _ _ (fun d2 ρ2 q => insD.imp (fun q => insD.imp (fun q => S.mono _ _ _ _ _ (fun p _ => hk p ρ2) (fun c fs _ => he c fs ρ2) q) q) q) he q) he q
theorem em_meth {c : Nat} {S : PSp} {ta : VT} {t : VA} (ha : EMT ta) (ht : EMA t) : EMO (vMeth c S ta t) := fun er er2 ρ k k' hk he q => ha _ _ _ _ _ (fun d1 ρ1 q => insD.imp (fun q => ht _ _ _ _ _ (fun ds ρ2 q => S.mono _ _ _ _ _ (fun p _ => hk p ρ2) (fun c fs _ => he c fs ρ2) q) he q) q) he q
theorem em_methN {c n : Nat} {S : PSp} {ta : VT} {t : VA} (ha : EMT ta) (ht : EMA t) : EMO (vMethN c n S ta t) := fun er er2 ρ k k' hk he q => ha _ _ _ _ _ (fun d1 ρ1 q => insD.imp (fun q => ht _ _ _ _ _ (fun ds ρ2 q => ⟨q.1, S.mono _ _ _ _ _ (fun p _ => hk p ρ2) (fun c fs _ => he c fs ρ2) q.2⟩) he q) q) he q
theorem em_call {S : PSp} {t : VA} (ht : EMA t) : EMO (vCall S t) := fun er er2 ρ k k' hk he q => ht _ _ _ _ _ (fun ds ρ2 q => S.mono _ _ _ _ _ (fun p _ => hk p ρ2) (fun c fs _ => he c fs ρ2) q) he q
theorem em_callN {n : Nat} {S : PSp} {t : VA} (ht : EMA t) : EMO (vCallN n S t) := fun er er2 ρ k k' hk he q => ht _ _ _ _ _ (fun ds ρ2 q => ⟨q.1, S.mono _ _ _ _ _ (fun p _ => hk p ρ2) (fun c fs _ => he c fs ρ2) q.2⟩) he q
end PL

end
section
set_option maxHeartbeats 1000000
/-! The pure layer, twelfth part: short names for printed derivations; a comprehension's list held as data. -/
namespace PL
open PySem PySem.Spec PyProof.Rows L2 SBX SB LamX
section
variable {X : Cx} {Y : SE} {er : ER} {pos : Pos} {elt tg iter : Expr} {ifs : List Expr} {scope : Scope} {own : List (Str × Nat)} {wi : VI} {g : VG} {tt : VB} {te : VT} {ws : List Nat}
theorem vv (i : Nat) {x : Str} (hN : X.N[i]? = some x := by rfl) (hv : Vis X.env.scope x := by first | exact Or.inl rfl | exact Or.inr (Or.inl rfl) | exact Or.inr (Or.inr rfl)) (hd : (x == ("__debug__" : Str)) = false := by decide) (hcd : (x == ("__classdict__" : Str)) = false := by decide) : VE X Y er (.Name x pos) (vVar i) := ve_var hN hv hd hcd
theorem vs_setLcF {j : Nat} {y : Str} {py spos : Pos} (hc : X.calm = true) (hN : X.N.Nodup) (hy : X.N[j]? = some y) (hyl : X.env.scope.names.lookup y = some .local)
    (hsw : swapsWith (.ListComp elt [⟨tg, iter, ifs, 0⟩] scope pos) (some (.Name y py)) spos.line X.env = pure true) (hi : VIt X Y er tg iter wi) (ok : BlkOk X.N X.env.scope scope own) (hws : ∀ v ∈ ws, v ∈ own.map (·.2))
    (hg : ∀ (s : Shared) (H : Hp) (C : Addr) (cl : List (Str × Addr)) (fp : List Addr) (B : Hp), VGt (X.blk s H scope (compEnvC scope cl C X.env) fp) { Y with B := B } tg ws g) (ht : ∀ (s : Shared) (H : Hp) (C : Addr) (cl : List (Str × Addr)) (fp : List Addr) (B : Hp), VTss (X.blk s H scope (compEnvC scope cl C X.env) fp) { Y with B := B } ifs tt)
    (he : ∀ (s : Shared) (H : Hp) (C : Addr) (cl : List (Str × Addr)) (fp : List Addr) (B : Hp), VE (X.blk s H scope (compEnvC scope cl C X.env) fp) { Y with B := B } noE elt te) (hs : ∀ x, foldedSetIterable iter X.env x = pure x := by intro _; rfl) :
    VSt X Y er (.Assign [.Name y py] (.ListComp elt [⟨tg, iter, ifs, 0⟩] scope pos) spos) (vSet j (vFz (vLc wi g tt te (own.map (·.2))))) := by
  obtain ⟨m, gg, ttt, tee, h1, h2, h3, h4⟩ := lc_ok (own := own) hi hws hg ht he
  refine ⟨PS.of (ps_setLc hc hN hy hyl hsw hi.pi ok h1 h2 h3 hs) fun D0 σ H ⟨F, ρ, P, R, q, ee, K⟩ => h4 σ H _ ⟨F, ρ, R, m _ _ _ (fun p ρ' q v F' H' s R' r => ?_) (show vLc wi g tt te (own.map (·.2)) er ρ (fun p ρ' => match p with
    | .own false o => Opt (frz o) fun d => okSet ρ' j (P.nx (ρ'.set j (some (.imm d))))
    | _ => False) from by rw [← ee]; exact q)⟩⟩
  match p, q, r with
  | .own false o, q, r =>
    obtain ⟨d, e, q⟩ := Opt.get q
    have q1 := q.get
    have R2 := R'.set (i := j) r (fun _ _ z => by cases z; rfl)
    by_cases hj : j < ρ'.length
    case neg =>
      have z : ∀ p : Option PV, ρ'.set j p = ρ' := fun p => List.set_eq_of_length_le (by omega)
      rw [z] at q1 R2
      exact K.nx F' H' _ _ s R2 q1
    obtain ⟨F2, v2, s2, e2, r2, R3⟩ := R2.frzAt (i := j) (List.getElem?_set_self hj) e
    rw [List.set_set] at R3
    exact K.nx F2 H' _ _ (s.trans s2) R3 q1
end
end PL

end
section
set_option maxHeartbeats 1000000
/-! The pure layer, thirteenth part: names of operators; the pen. -/
namespace PL
open PySem PySem.Spec PyProof.Rows L2 SBX SB LamX
abbrev gSub : GD := gInt0 fun i j => .int (i - j)
abbrev gMul : GD := gInt CMul fun i j => .int (i * j)
abbrev gFdiv : GD := gInt CDiv fun i j => .int (i / j)
abbrev gMod : GD := gInt (fun _ j => 0 < j) fun i j => .int (i % j)
abbrev gPow : GD := gInt CPow fun i j => .int (i ^ j.toNat)
abbrev gLt : GD := gCmp (fun i j => decide (i < j)) (fun l m => decide (l < m))
abbrev gLe : GD := gCmp (fun i j => decide (i ≤ j)) (fun l m => !decide (m < l))
abbrev gGt : GD := gCmp (fun i j => decide (j < i)) (fun l m => decide (m < l))
abbrev gGe : GD := gCmp (fun i j => decide (j ≤ i)) (fun l m => !decide (l < m))
abbrev ipG_add : GD := gInt0 fun i j => .int (i + j)
abbrev ipG_sub : GD := gInt0 fun i j => .int (i - j)
section
variable {X : Cx} {Y : SE}
theorem gip_of {op : Operator} {g : Int → Int → Int} (h : PIp X op (ipI g)) : GIp X Y op (gInt0 fun i j => .int (g i j)) := ⟨_, h, fun F H σ ρ x y d1 d2 k Q R r1 r2 q hk => by
  cases r1 <;> try exact q.elim
  cases r2 <;> try exact q.elim
  exact ⟨_, _, rfl, rfl, hk _ F H _ (Same.refl F) R (.int _) q⟩⟩
theorem ip_add : GIp X Y .Add ipG_add := gip_of (g := fun i j => i + j) L2.ip_add
theorem ip_sub : GIp X Y .Sub ipG_sub := gip_of (g := fun i j => i - j) L2.ip_sub
/-- text * n -/
def gMulT : GD := fun x y k => match x, y with
  | .str l, .int n => 2 ≤ n ∧ l ≠ [] ∧ n ≤ 1000000 ∧ l.length ≤ 16 ∧ k (.str (rep n.toNat l))
  | _, _ => False
theorem rep_cps {l : List Nat} (h : Cps l) : ∀ n : Nat, Cps (rep n l)
  | 0 => by unfold rep; intro c z; cases z
  | n + 1 => by unfold rep; exact cps_app (rep_cps h n) h
theorem rep_int {K : PySem.W.Frag} {F : Hp} {v : V} {i : Int} (r : Rep K F v (.int i)) : v = .int i := by cases r; rfl
theorem g_mulT : GOp X Y (binaryOp .Mult) gMulT where
  ok := ⟨_, op_mulText, fun F H σ ρ x y d1 d2 k Q R r1 r2 q hk => by
    cases r1 <;> try exact q.elim
    rename_i l hl
    cases r2 <;> try exact q.elim
    rename_i n
    obtain ⟨h1, h2, h3, h4, q⟩ := q
    obtain ⟨m, rfl⟩ := Int.eq_ofNat_of_zero_le (show 0 ≤ n by omega)
    exact ⟨l, m, rfl, rfl, by omega, h2, by omega, h4, hk _ F H _ (Same.refl F) R (.str _ (rep_cps hl m)) q⟩⟩
  mono := fun d1 d2 k k' hk q => by
    cases d1 <;> try exact q.elim
    cases d2 <;> try exact q.elim
    exact ⟨q.1, q.2.1, q.2.2.1, q.2.2.2.1, hk _ q.2.2.2.2⟩
end
/-! ### the pen -/
def g__law_draw : RSp where
  run o ds Q E := match o, ds with
    | .pen n, [.int many] => (0 < many ∧ many < 1073741824 ∧ n ≤ 1000000) ∧ ∀ r : Int, 0 ≤ r → r < many → Q (.imm (.int r)) (.pen (n + 1))
    | _, _ => False
  mono o ds Q Q' E E' h1 h2 h := by
    cases o with
    | pen n => match ds, h with
      | [.int many], h => exact ⟨h.1, fun r a b => h1 _ _ (h.2 r a b)⟩
    | _ => exact h.elim
def intsD : List D → Option (List Int)
  | [] => some []
  | .int i :: r => match intsD r with
    | some l => some (i :: l)
    | none => none
  | _ :: _ => none
theorem intsD_map : ∀ l : List Int, intsD (l.map D.int) = some l
  | [] => rfl
  | i :: l => by
    show (match intsD (l.map D.int) with | some l => some (i :: l) | none => none) = _
    rw [intsD_map l]
theorem ints_rep {K : PySem.W.Frag} {F : Hp} : ∀ (ds : List D) {vs : List V} {l : List Int}, RepL K F vs ds → intsD ds = some l → vs = l.map V.int
  | [], _, l, r, h => by cases h; cases r; rfl
  | d :: ds, _, l, r, h => by
    cases r with
    | cons r t =>
      cases r <;> try cases h
      unfold intsD at h
      cases e : intsD ds with
      | none => rw [e] at h; cases h
      | some l' =>
        rw [e] at h
        cases h
        rw [ints_rep ds t e]
        rfl
/-- the pen's list, as it is made -/
def f_pen0 (ds : List D) : Res := match ds with
  | [.lst xs] => .ok (.own false (.lst [.lst (cutL xs none (some 63)), .int 0, .int 0]))
  | _ => .bad
def f__law_pen (ds : List D) : Res := match ds with
  | [.lst xs] => match intsD xs with
    | some l => if l.length ≤ 63 then .ok (.own false (.pen 0)) else .bad
    | none => .bad
  | _ => .bad
theorem len_pen0 : ∀ ds, f_pen0 ds ≠ .bad → ds.length = 1 := by
  intro ds h
  unfold f_pen0 at h
  split at h <;> first | rfl | exact absurd rfl h
theorem lift_draw {K : PySem.W.Frag} {T : List (Addr × Str)} {vs : List V} {H : Hp} {Q : VK} {E : XK} (h : spP K T (refS g__law_draw) vs H Q E) :
    ∃ F p c many n, vs = [.ref p, .int many] ∧ 0 < many ∧ many < 1073741824 ∧ n ≤ 1000000 ∧ Pen F H p c n ∧ ∀ r H', 0 ≤ r → r < many → Pen F H' p c (n + 1) → Q (.int r) H' := by
  obtain ⟨B, F, as, R, h⟩ := h
  match as, h with
  | .own true o :: r, h =>
    obtain ⟨ds, e, h⟩ := Opt.get h
    have e := immL_all e
    subst e
    match o, ds, h with
    | .pen n, [.int many], h =>
      obtain ⟨⟨m0, m1, hn⟩, h⟩ := h
      obtain ⟨p, e1, fp, bp, ⟨c, P⟩, hv⟩ := R.own 0 true (.pen n) rfl
      obtain ⟨v, e2, rv⟩ := R.imm 1 (.int many) rfl
      have hl : vs.length = 2 := by
        have := R.len
        simpa using this
      match vs, hl, e1, e2 with
      | [v1, v2], _, e1, e2 =>
        have e1 : some (some v1) = some (some (V.ref p)) := e1
        have e2 : some (some v2) = some (some v) := e2
        cases e1
        have rv := rep_int rv
        subst rv
        have e2 : v2 = .int many := Option.some.inj (Option.some.inj e2)
        subst e2
        obtain ⟨PA, sA⟩ := P.all
        refine ⟨_, p, c, many, n, rfl, m0, m1, hn, PA, fun r H' r0 r1 P' => ?_⟩
        have sB : Same B (offP H p) := fun b o e => offP_at (R.sB _ _ e) (fun z => by
          have z1 : B p = some o := by rw [← z]; exact e
          have z2 : B p = none := bp
          rw [z1] at z2; cases z2)
        refine h r r0 r1 _ F H' ?_ (.int r)
        refine ⟨Same.refl F, sA.trans P'.same, R.nt, R.ntB, Tabs.pen P R.tabs P'.same, sB.trans P'.same, R.dis, by simp, fun i d e => ?_, fun i r' o e => ?_, fun i j a hij h1 h2 => R.apart i j a hij ?_ ?_⟩
        · match i, e with
          | 0, e => cases e
          | 1, e => cases e; exact ⟨_, rfl, .int _⟩
          | i + 2, e => cases e
        · match i, e with
          | 0, e => cases e; exact ⟨p, rfl, fp, bp, ⟨c, P.back P' sA⟩, fun _ => rfl⟩
          | 1, e => cases e
          | i + 2, e => cases e
        · obtain ⟨g1, r', o, g2⟩ := h1
          match i, g1, g2 with
          | 0, g1, g2 => exact ⟨g1, _, _, rfl⟩
          | 1, g1, g2 => cases g2
          | i + 2, g1, g2 => cases g2
        · obtain ⟨g1, r', o, g2⟩ := h2
          match j, g1, g2 with
          | 0, g1, g2 => exact ⟨g1, _, _, rfl⟩
          | 1, g1, g2 => cases g2
          | i + 2, g1, g2 => cases g2
theorem ints_len : ∀ {xs : List D} {l : List Int}, intsD xs = some l → xs.length = l.length
  | [], l, h => by cases h; rfl
  | d :: ds, l, h => by
    cases d <;> try cases h
    unfold intsD at h
    cases e : intsD ds with
    | none => rw [e] at h; cases h
    | some l' =>
      rw [e] at h
      cases h
      simp [ints_len e]
theorem cut63 {α : Type} {xs : List α} (h : xs.length ≤ 63) : cutL xs none (some 63) = xs := by
  unfold cutL
  have e1 : HT.sIx xs.length 0 none = 0 := rfl
  have e2 : HT.sIx xs.length xs.length (some 63) = xs.length := by
    simp [HT.sIx]
    omega
  rw [e1, e2, List.drop_zero, Nat.sub_zero, List.take_length]
theorem lift_pen {K : PySem.W.Frag} {T : List (Addr × Str)} {vs : List V} {H : Hp} {Q : VK} {E : XK} (h : spP K T (fnS f__law_pen) vs H Q E) : spP K T (fnS f_pen0) vs H Q E := by
  obtain ⟨B, F, as, R, h⟩ := h
  refine ⟨B, F, as, R, ?_⟩
  obtain ⟨ds, e, h⟩ := Opt.get h
  refine Opt.of e ?_
  unfold f__law_pen at h
  unfold f_pen0
  split at h
  · rename_i ds xs
    split at h
    · rename_i l hi
      split at h
      · rename_i hl
        show ∀ _, _
        intro v F' H' R' r
        refine h v F' H' R' ?_
        obtain ⟨a, e1, e2, e3, ⟨ws, h1, h2⟩, e5⟩ := r
        refine ⟨a, e1, e2, e3, ?_, e5⟩
        have hx : cutL xs none (some 63) = xs := cut63 (by rw [ints_len hi]; exact hl)
        rw [hx] at h2
        cases h2 with
        | cons r1 t1 =>
          cases t1 with
          | cons r2 t2 =>
            cases t2 with
            | cons r3 t3 =>
              cases t3
              have r2 := rep_int r2
              have r3 := rep_int r3
              subst r2
              subst r3
              cases r1 with
              | @lst c us _ hh rr =>
                rw [ints_rep _ rr hi] at hh
                exact ⟨c, ⟨l, 0, 0, h1, hh, hl, by decide, by decide, by decide⟩, R'.sF, e2⟩
      · exact h.elim
    · exact h.elim
  · exact h.elim
end PL

end
section
set_option maxHeartbeats 1000000
/-! Plain tools beside the layer: items, slices, equality of data. -/
namespace PL
open PySem PySem.Spec PyProof.Rows L2 SBX SB LamX
theorem atI_pos {α : Type} {xs : List α} {i : Int} (h : 0 ≤ i) : atI xs i = xs[i.toNat]? := by
  unfold atI ixN
  rw [if_pos h]
  by_cases h1 : i < xs.length
  · rw [if_pos h1]; rfl
  · rw [if_neg h1]
    rw [List.getElem?_eq_none (by omega)]
    rfl
theorem atI_z {α : Type} {xs : List α} : atI xs 0 = xs.head? := by rw [atI_pos (by decide)]; cases xs <;> rfl
theorem atI_n {α : Type} {xs : List α} {n : Nat} : atI xs (n : Int) = xs[n]? := atI_pos (Int.natCast_nonneg n)
theorem atI_m1 {α : Type} {xs : List α} : atI xs (-1) = xs.getLast? := by
  cases h : xs.getLast? with
  | none =>
    have : xs = [] := by simpa using h
    subst this
    rfl
  | some x =>
    have e : xs = xs.dropLast ++ [x] := by
      rcases List.eq_nil_or_concat xs with rfl | ⟨ys, y, rfl⟩
      · cases h
      · simp at h
        subst h
        simp
    rw [e]
    exact L2.atI_last _ _
theorem cut_to {α : Type} {l : List α} {i : Int} (h : 0 ≤ i) : cutL l none (some i) = l.take i.toNat := by
  obtain ⟨n, rfl⟩ := Int.eq_ofNat_of_zero_le h
  unfold cutL
  rw [HT.sIx_nat]
  show (l.drop 0).take (min n l.length - 0) = _
  rw [List.drop_zero, Nat.sub_zero]
  simp [List.take_eq_take_iff]
theorem cut_from {α : Type} {l : List α} {i : Int} (h : 0 ≤ i) : cutL l (some i) none = l.drop i.toNat := by
  obtain ⟨n, rfl⟩ := Int.eq_ofNat_of_zero_le h
  unfold cutL
  rw [HT.sIx_nat]
  show (l.drop (min n l.length)).take (l.length - min n l.length) = _
  rw [List.take_of_length_le (by simp)]
  by_cases hn : n ≤ l.length
  · rw [Nat.min_eq_left hn]; rfl
  · rw [Nat.min_eq_right (by omega)]
    simp
    omega
theorem cut_mid {α : Type} {l : List α} {i j : Int} (h : 0 ≤ i) (h' : 0 ≤ j) : cutL l (some i) (some j) = (l.drop i.toNat).take (j.toNat - i.toNat) := by
  obtain ⟨n, rfl⟩ := Int.eq_ofNat_of_zero_le h
  obtain ⟨m, rfl⟩ := Int.eq_ofNat_of_zero_le h'
  unfold cutL
  rw [HT.sIx_nat, HT.sIx_nat]
  show (l.drop (min n l.length)).take (min m l.length - min n l.length) = (l.drop n).take (m - n)
  apply List.ext_getElem?
  intro k
  simp only [List.getElem?_take, List.getElem?_drop]
  by_cases hn : n ≤ l.length
  · rw [Nat.min_eq_left hn]
    by_cases hm : m ≤ l.length
    · rw [Nat.min_eq_left hm]
    · rw [Nat.min_eq_right (by omega)]
      by_cases hk : n + k < l.length
      · by_cases hk2 : k < m - n
        · rw [if_pos (by omega), if_pos hk2]
        · rw [if_neg (by omega), if_neg hk2]
      · rw [List.getElem?_eq_none (by omega)]; simp
  · rw [Nat.min_eq_right (show l.length ≤ n by omega), List.getElem?_eq_none (by omega), List.getElem?_eq_none (by omega)]; simp
/-! equality of data -/
theorem eqD_int (i j : Int) : eqD (.int i) (.int j) = decide (i = j) := rfl
theorem eqD_str (l m : List Nat) : eqD (.str l) (.str m) = decide (l = m) := by
  show decide (tx l = tx m) = _
  exact decide_eq_decide.mpr tx_inj
theorem eqD_tup2 (a b c d : D) : eqD (.tup [a, b]) (.tup [c, d]) = (eqD a c && eqD b d) := by
  show (PyData.eqv (toPy a) (toPy c) && (PyData.eqv (toPy b) (toPy d) && true)) = _
  rw [Bool.and_true]
  rfl
/-! loops by an invariant over states of one shape -/
theorem forL_ind {α : Type} {g : VG} {b : VS} {P : PEnds} (st : α → PSt) (I : List D → α → Prop) (hnil : ∀ a, I [] a → P.nx (st a))
    (hcons : ∀ d r a, I (d :: r) a → ∀ K : PSt → Prop, (∀ a', I r a' → K (st a')) → g d (st a) fun ρ' => b { P with nx := K, ct := K, bk := P.nx } ρ') : ∀ ds a, I ds a → forL g b P ds (st a)
  | [], a, h => hnil a h
  | d :: ds, a, h => hcons d ds a h _ fun a' h' => forL_ind st I hnil hcons ds a' h'
theorem while_ind {α : Type} {c : VB} {b : VS} {P : PEnds} (st : α → PSt) (I : Nat → α → Prop) (m0 : Nat) (a0 : α) (h0 : I m0 a0)
    (hs : ∀ m a, I m a → ∀ K : PSt → Prop, (∀ m' a', m' < m → I m' a' → K (st a')) → c P.er (st a) fun k ρ' => if k = true then b { P with nx := K, ct := K, bk := P.nx } ρ' else P.nx ρ') : vWhile c b P (st a0) := by
  refine ⟨fun m ρ => ∃ a, ρ = st a ∧ I m a, ⟨m0, a0, rfl, h0⟩, ?_⟩
  rintro m ρ ⟨a, rfl, h⟩
  exact hs m a h _ fun m' a' hm h' => ⟨m', hm, a', rfl, h'⟩
/-! a slot of which nothing is asked -/
def jk (u : Option D) : Option PV := u.map .imm
theorem okSet_s {p : Option PV} {ρ : PSt} {i : Nat} {k : Prop} : okSet (p :: ρ) (i + 1) k = okSet ρ i k := rfl
theorem okSet_0 {ρ : PSt} {k : Prop} : okSet (none :: ρ) 0 k = k := rfl
theorem okSet_i {d : D} {ρ : PSt} {k : Prop} : okSet (some (.imm d) :: ρ) 0 k = k := rfl
theorem okSet_o {o : OV} {ρ : PSt} {k : Prop} : okSet (some (.own false o) :: ρ) 0 k = k := rfl
theorem okSet_j {u : Option D} {ρ : PSt} {k : Prop} : okSet (jk u :: ρ) 0 k = k := by cases u <;> rfl
theorem lendP_j {u : Option D} : lendP (jk u) = jk u := by cases u <;> rfl
/-! signs -/
def sgs (l : List Nat) : List D := l.map fun c => .str [c]
theorem plL_sgs : ∀ l : List Nat, plL (sgs l) = true
  | [] => rfl
  | c :: l => by show (true && plL (sgs l)) = true; rw [plL_sgs l]; rfl
theorem dep_sgs : ∀ l : List Nat, PyData.depthAll (toPyL (sgs l)) ≤ 1
  | [] => by decide
  | c :: l => by
    show PyData.depthAll (.str (tx [c]) :: toPyL (sgs l)) ≤ 1
    have := dep_sgs l
    simp only [PyData.depthAll, PyData.depth]
    omega
theorem okEq_sgs (l m : List Nat) : okEq (.lst (sgs l)) (.lst (sgs m)) := by
  refine ⟨plL_sgs l, plL_sgs m, ?_, ?_⟩
  · have := dep_sgs l
    show (PyData.list (toPyL (sgs l))).depth ≤ 64
    simp only [PyData.depth]
    omega
  · have := dep_sgs m
    show (PyData.list (toPyL (sgs m))).depth ≤ 64
    simp only [PyData.depth]
    omega
theorem eqD_lnil (xs : List D) : eqD (.lst xs) (.lst []) = xs.isEmpty := by cases xs <;> rfl
theorem sgs_app (l m : List Nat) : sgs (l ++ m) = sgs l ++ sgs m := by unfold sgs; rw [List.map_append]
theorem sgs_last (l : List Nat) : (sgs l).getLast? = l.getLast?.map fun c => .str [c] := by unfold sgs; rw [List.getLast?_map]
theorem sgs_dropLast (l : List Nat) : (sgs l).dropLast = sgs l.dropLast := by unfold sgs; rw [List.map_dropLast]
theorem sgs_len (l : List Nat) : (sgs l).length = l.length := by unfold sgs; rw [List.length_map]
theorem strsOf_sgs : ∀ l : List Nat, strsOf (sgs l) = some (l.map fun c => [c])
  | [] => rfl
  | c :: l => by
    show (match strsOf (sgs l) with | some ls => some ([c] :: ls) | none => none) = _
    rw [strsOf_sgs l]
    rfl
theorem sum_sgs : ∀ l : List Nat, ((l.map fun c => [c]).map (·.length)).sum = l.length
  | [] => rfl
  | c :: l => by
    have := sum_sgs l
    simp only [List.map_cons, List.sum_cons, this, List.length_cons, List.length_nil]
    omega
theorem glue_sgs : ∀ l : List Nat, glue [] (l.map fun c => [c]) = l
  | [] => rfl
  | [c] => rfl
  | c :: d :: l => by
    show [c] ++ ([] ++ glue [] ((d :: l).map fun c => [c])) = _
    rw [glue_sgs (d :: l)]
    rfl
end PL

end
section
set_option maxHeartbeats 1000000
/-! The group of rows; nondeterministic promises; comprehensions. -/
namespace PL
open PySem PySem.Spec PyProof.Rows L2 SBX SB LamX
theorem allL_app {l m : List Nat} (h1 : AllL l) (h2 : AllL m) : AllL (l ++ m) := fun x hx => (List.mem_append.mp hx).elim (h1 x) (h2 x)
theorem red_app (s t : List Nat) : red (s ++ t) = t.foldl push (red s) := by unfold red; rw [List.foldl_append]
theorem red_L {l : List Nat} (h : AllL l) : AllL (red l) := good_allL (red_good h)
theorem red_left {s : List Nat} (hs : AllL s) (t : List Nat) : red (red s ++ t) = red (s ++ t) := by
  rw [red_app, red_app, red_of_good (red_good hs)]
theorem snoc_ind {α : Type} {p : List α → Prop} (h0 : p []) (hs : ∀ l c, p l → p (l ++ [c])) : ∀ l, p l := by
  have : ∀ n (l : List α), l.length = n → p l := by
    intro n
    induction n with
    | zero => intro l e; rw [List.length_eq_zero_iff.mp e]; exact h0
    | succ n ih =>
      intro l e
      rcases List.eq_nil_or_concat l with rfl | ⟨ys, y, rfl⟩
      · exact h0
      · rw [List.concat_eq_append] at e ⊢
        exact hs _ _ (ih ys (by simpa using e))
  exact fun l => this _ l rfl
theorem fold_red {s : List Nat} (hs : Good s) : ∀ {t : List Nat}, AllL t → (red t).foldl push s = t.foldl push s := by
  intro t
  refine snoc_ind (p := fun t => AllL t → (red t).foldl push s = t.foldl push s) (fun _ => rfl) (fun t c ih => ?_) t
  · intro ht
    have ht' : AllL t := fun x hx => ht x (List.mem_append_left _ hx)
    have hc : isL c = true := ht c (by simp)
    rw [red_snoc, List.foldl_append]
    have ih := ih ht'
    by_cases e : (red t).getLast? = some (und c)
    · rw [show push (red t) c = (red t).dropLast from if_pos e]
      have e2 := snoc_of e
      have hg : Good ((red t).dropLast.foldl push s) := foldl_good (fun x hx => red_L ht' x ((List.dropLast_sublist _).subset hx)) hs
      have e3 : t.foldl push s = push ((red t).dropLast.foldl push s) (und c) := by
        rw [← ih, e2, List.foldl_append]
        simp
      show _ = push (t.foldl push s) c
      rw [e3]
      exact (push_pair hg (und_L hc) hc rfl).symm
    · rw [show push (red t) c = red t ++ [c] from if_neg e, List.foldl_append, ih]
theorem red_right {s t : List Nat} (hs : AllL s) (ht : AllL t) : red (s ++ red t) = red (s ++ t) := by
  rw [red_app, red_app]
  exact fold_red (red_good hs) ht
theorem red_both {s t : List Nat} (hs : AllL s) (ht : AllL t) : red (red s ++ red t) = red (s ++ t) := by
  rw [red_left hs, red_right hs ht]
theorem red_inv {l : List Nat} (h : AllL l) : red (l ++ back l) = [] := by
  have := red_mid (s := []) (x := l) (t := []) (fun _ z => nomatch z) h
  simpa [red] using this
theorem red_inv' {l : List Nat} (h : AllL l) : red (back l ++ l) = [] := by
  have := red_inv (back_L h)
  rwa [back_back h] at this
theorem red_back {l : List Nat} (h : AllL l) : red (back l) = back (red l) := by
  have hb := back_L h
  have hr := red_L h
  have hrb := back_L hr
  have e1 : red (back l ++ (red l ++ back (red l))) = red (back l) := by
    rw [← red_right hb (allL_app hr hrb), red_inv hr, List.append_nil]
  have e2 : red (back l ++ (red l ++ back (red l))) = red (back (red l)) := by
    rw [← List.append_assoc, red_app, ← red_right hb (fun x hx => hr x hx)]
    rw [red_of_good (red_good h), red_right hb h, red_inv' h]
    rfl
  rw [← e1, e2, red_of_good (good_back (red_good h))]
theorem red_nil_iff {l m : List Nat} (hl : Good l) (hm : Good m) : red (l ++ m) = l ↔ m = [] := by
  constructor
  · intro h
    have al := good_allL hl
    have am := good_allL hm
    have e : red (back l ++ red (l ++ m)) = red (back l ++ l) := by rw [h]
    rw [red_right (back_L al) (allL_app al am), ← List.append_assoc, ← red_left (allL_app (back_L al) al), red_inv' al, List.nil_append, red_of_good hm] at e
    exact e
  · intro h
    rw [h, List.append_nil]
    exact red_of_good hl
/-- nothing goes exactly if the last letter is not undone by the first -/
theorem red_whole {l m : List Nat} (hl : Good l) (hm : Good m) : (red (l ++ m)).length = l.length + m.length ↔ ¬ ∃ b, m.head? = some b ∧ l.getLast? = some (und b) := by
  constructor
  · rintro h ⟨b, h1, h2⟩
    cases m with
    | nil => cases h1
    | cons c m =>
      obtain rfl : c = b := Option.some.inj h1
      have hc := good_allL hm c List.mem_cons_self
      have e := snoc_of h2
      have e2 : red (l ++ c :: m) = red (l.dropLast ++ m) := by
        rw [show l ++ c :: m = l.dropLast ++ und c :: c :: m by rw [e]; simp]
        exact red_pair (fun x hx => good_allL hl x ((List.dropLast_sublist _).subset hx)) (und_L hc) hc rfl
      rw [e2] at h
      have := red_length (l.dropLast ++ m)
      rw [List.length_append, List.length_dropLast] at this
      simp at h
      omega
  · intro h
    have : Good (l ++ m) := good_join hl hm fun a b ha hb e => h ⟨b, hb, by rw [ha, e]⟩
    rw [red_of_good this, List.length_append]
/-! ### promises over the pen -/
def ndR (cost : Nat) (pre : List D → Prop) (post : List D → D → Prop) : RSp where
  run o ds Q E := match o with
    | .pen n => (pre ds ∧ n + cost ≤ 1000000) ∧ ∀ d n', post ds d → n' ≤ n + cost → Q (.imm d) (.pen n')
    | _ => False
  mono o ds Q Q' E E' h1 h2 h := by
    cases o with
    | pen n => exact ⟨h.1, fun d n' a b => h1 _ _ (h.2 d n' a b)⟩
    | _ => exact h
theorem len_nd {cost n : Nat} {pre : List D → Prop} {post : List D → D → Prop} (h : ∀ ds, pre ds → ds.length + 1 = n) : ∀ o ds Q E, (ndR cost pre post).run o ds Q E → ds.length + 1 = n := by
  intro o ds Q E q
  cases o with
  | pen k => exact h _ q.1.1
  | _ => exact q.elim
def elemsD : D → Option (List D)
  | .lst xs => some xs
  | .tup xs => some xs
  | .str l => some (sgs l)
  | _ => none
def prePick (ds : List D) : Prop := match ds with
  | [s] => Opt (elemsD s) fun xs => xs ≠ [] ∧ xs.length ≤ 1000000
  | _ => False
def postPick (ds : List D) (d : D) : Prop := match ds with
  | [s] => Opt (elemsD s) fun xs => d ∈ xs
  | _ => False
def g__law_pick : RSp := ndR 1 prePick postPick
theorem nd_run {cost n : Nat} {pre : List D → Prop} {post : List D → D → Prop} {ds : List D} {Q : PV → OV → Prop} {E : Nat → List D → OV → Prop} : (ndR cost pre post).run (.pen n) ds Q E = ((pre ds ∧ n + cost ≤ 1000000) ∧ ∀ d n', post ds d → n' ≤ n + cost → Q (.imm d) (.pen n')) := rfl
theorem pick_run {n : Nat} {ds : List D} {Q : PV → OV → Prop} {E : Nat → List D → OV → Prop} : g__law_pick.run (.pen n) ds Q E = ((prePick ds ∧ n + 1 ≤ 1000000) ∧ ∀ d n', postPick ds d → n' ≤ n + 1 → Q (.imm d) (.pen n')) := rfl
theorem draw_run {n : Nat} {many : Int} {Q : PV → OV → Prop} {E : Nat → List D → OV → Prop} : g__law_draw.run (.pen n) [.int many] Q E = ((0 < many ∧ many < 1073741824 ∧ n ≤ 1000000) ∧ ∀ r : Int, 0 ≤ r → r < many → Q (.imm (.int r)) (.pen (n + 1))) := rfl
theorem rngD_len (lo : Int) (n : Nat) : (rngD lo n).length = n := by unfold rngD; simp
theorem len__law_pick : ∀ o ds Q E, g__law_pick.run o ds Q E → ds.length + 1 = 2 := len_nd fun ds h => by
  unfold prePick at h
  split at h
  · rfl
  · exact h.elim
/-! ### comprehensions -/
theorem lcL_map {g : VG} {tt : VB} {te : VT} {vs : List Nat} {k : List D → PSt → Prop} (ρ : PSt) (f : D → Option D) : ∀ (ds acc : List D),
    (∀ d ∈ ds, ∀ (K1 : D → PSt → Prop) (K2 : PSt → Prop), (match f d with
      | some x => K1 x ρ
      | none => K2 ρ) → g d (wipeP ρ vs) fun ρ2 => tt noE ρ2 fun b ρ3 => if b = true then te noE ρ3 fun x ρ4 => K1 x (wipeP ρ4 vs) else K2 (wipeP ρ3 vs)) →
    k (acc ++ ds.filterMap f) ρ → lcL g tt te vs ds acc ρ k
  | [], acc, _, h => by rw [List.filterMap_nil, List.append_nil] at h; exact h
  | d :: ds, acc, hs, h => by
    refine hs d List.mem_cons_self (fun x ρ' => lcL g tt te vs ds (acc ++ [x]) ρ' k) (fun ρ' => lcL g tt te vs ds acc ρ' k) ?_
    have hs' := fun d hd => hs d (List.mem_cons_of_mem _ hd)
    cases e : f d with
    | some x =>
      rw [List.filterMap_cons_some e] at h
      exact lcL_map ρ f ds (acc ++ [x]) hs' (by rw [List.append_assoc]; exact h)
    | none =>
      rw [List.filterMap_cons_none e] at h
      exact lcL_map ρ f ds acc hs' h
end PL

end
section
set_option maxHeartbeats 1000000
/-! The law's own def: its pen made, its body walked. -/
namespace PL
open PySem PySem.Spec PyProof.Rows L2 SBX SB LamX
def endsL : PEnds where
  nx := fun _ => False
  rt := fun p _ => p = .imm (.bl true)
  er := noE
def stL (n : Nat) : PSt := none :: some (.own false (.pen 0)) :: List.replicate (n - 2) none
def ObL (t : VS) (n : Nat) : Prop := t endsL (stL n)
abbrev Y0 (K : PySem.W.Frag) (T : List (Addr × Str)) : SE := ⟨K, T, fun _ => none, [], fun _ => none⟩
theorem law_rel {K : PySem.W.Frag} {T : List (Addr × Str)} {F0 H : Hp} {p c : Addr} (P : Pen F0 H p c 0) (t : Tabs T H) {σ : L2.St} {n : Nat} (hs : σ[1]? = some (some (.ref p))) (hl : σ.length = n + 2) :
    ∃ F, Rel (Y0 K T) F H σ (stL (n + 2)) := by
  obtain ⟨⟨xs, spot, rest, h1, h2, h3, h4, h5, h6⟩, s0, off⟩ := P
  have hne : p ≠ c := fun z => by rw [z, h2] at off; cases off
  refine ⟨fun b => if b = c then some (.lst (xs.map V.int)) else none, ⟨(fun b o e => by cases e), (fun b o e => ?_), (fun b ps e => ?_), (fun b ps e => by cases e), t, (fun b o e => by cases e), (fun a o e => by cases e), ?_, (fun i d e => ?_), (fun i r o e => ?_), fun i j a hij h1 h2 => ?_⟩⟩
  · by_cases hb : b = c
    · subst hb
      simp at e
      subst e
      exact s0 _ _ h2
    · simp [hb] at e
  · by_cases hb : b = c
    · simp [hb] at e
    · simp [hb] at e
  · rw [hl]; simp [stL]
  · match i, e with
    | 0, e => cases e
    | 1, e => cases e
    | i + 2, e =>
      have e : (List.replicate n (none : Option PV))[i]? = some (some (.imm d)) := e
      rw [List.getElem?_replicate] at e
      split at e <;> cases e
  · match i, e with
    | 0, e => cases e
    | 1, e =>
      cases e
      refine ⟨p, hs, by simp [hne], rfl, ⟨c, ⟨xs, spot, rest, h1, by simp, h3, h4, h5, h6⟩, (fun b o e => ?_), by simp [hne]⟩, fun z => by cases z⟩
      by_cases hb : b = c
      · subst hb
        simp at e
        subst e
        exact s0 _ _ h2
      · simp [hb] at e
    | i + 2, e =>
      have e : (List.replicate n (none : Option PV))[i]? = some (some (.own r o)) := e
      rw [List.getElem?_replicate] at e
      split at e <;> cases e
  · have one : ∀ {i : Nat}, OwnAt σ (stL (n + 2)) i a → i = 1 := fun {i} ⟨_, r, o, e⟩ => by
      match i, e with
      | 0, e => cases e
      | 1, e => rfl
      | i + 2, e =>
        have e : (List.replicate n (none : Option PV))[i]? = some (some (.own r o)) := e
        rw [List.getElem?_replicate] at e
        split at e <;> cases e
    exact hij ((one h1).trans (one h2).symm)
/-- the rest of the law's body, behind the pen -/
theorem law_rest {K : PySem.W.Frag} {T : List (Addr × Str)} {t : VS} {n : Nat} (ob : ObL t (n + 2)) {F0 H : Hp} {p c : Addr} (P : Pen F0 H p c 0) (tb : Tabs T H) {σ : L2.St} (hs : σ[1]? = some (some (.ref p))) (hl : σ.length = n + 2) {D : Ends} {Q : VK} (hD : D.rt = Q) (q : ∀ H', Q (.bl true) H') :
    tS (Y0 K T) noE t D σ H := by
  obtain ⟨F, R⟩ := law_rel (K := K) P tb hs hl
  refine ⟨F, _, endsL, R, ob, rfl, fun _ _ _ _ _ _ z => z.elim, fun _ _ _ _ _ _ z => z.elim, fun _ _ _ _ _ _ z => z.elim, fun F' H' σ ρ v p s R' r z => ?_⟩
  have z : p = .imm (.bl true) := z
  subst z
  have r : Rep K F' v (.bl true) := r
  cases r
  rw [hD]
  exact q H'
end PL

end
section
set_option maxHeartbeats 1000000
/-! Readings unfolded at a known state. -/
namespace PL
open PySem PySem.Spec PyProof.Rows L2 SBX SB LamX
theorem vVar_c {i : Nat} {er : ER} {p : Option PV} {ρ : PSt} {k : D → PSt → Prop} : vVar i er (p :: ρ) k = (fun _ ρ k => match ρ[i]? with
  | some (some (.imm d)) => k d ρ
  | some (some (.own false o)) => Opt (frz o) fun d => k d (ρ.set i (some (.imm d)))
  | _ => False : VT) er (p :: ρ) k := rfl
theorem vC_c {d : D} {er : ER} {p : Option PV} {ρ : PSt} {k : D → PSt → Prop} : vC d er (p :: ρ) k = (fun _ ρ k => k d ρ : VT) er (p :: ρ) k := rfl
theorem vIm_c {t : VT} {er : ER} {p : Option PV} {ρ : PSt} {k : PV → PSt → Prop} : vIm t er (p :: ρ) k = (fun er ρ k => t er ρ fun d ρ' => k (.imm d) ρ' : VO) er (p :: ρ) k := rfl
theorem vNil_c  {er : ER} {p : Option PV} {ρ : PSt} {k : List D → PSt → Prop} : vNil  er (p :: ρ) k = (fun _ ρ k => k [] ρ : VA) er (p :: ρ) k := rfl
theorem vCons_c {t : VT} {u : VA} {er : ER} {p : Option PV} {ρ : PSt} {k : List D → PSt → Prop} : vCons t u er (p :: ρ) k = (fun er ρ k => t er ρ fun d ρ1 => u er ρ1 fun ds ρ2 => k (d :: ds) ρ2 : VA) er (p :: ρ) k := rfl
theorem vBin_c {g : GD} {ta tb : VT} {er : ER} {p : Option PV} {ρ : PSt} {k : D → PSt → Prop} : vBin g ta tb er (p :: ρ) k = (fun er ρ k => ta er ρ fun d1 ρ1 => tb er ρ1 fun d2 ρ2 => g d1 d2 fun d => k d ρ2 : VT) er (p :: ρ) k := rfl
theorem vBl_c {t : VT} {er : ER} {p : Option PV} {ρ : PSt} {k : Bool → PSt → Prop} : vBl t er (p :: ρ) k = (fun er ρ k => t er ρ fun d ρ' => match d with
  | .bl b => k b ρ'
  | _ => False : VB) er (p :: ρ) k := rfl
theorem vAnd_c {t u : VB} {er : ER} {p : Option PV} {ρ : PSt} {k : Bool → PSt → Prop} : vAnd t u er (p :: ρ) k = (fun er ρ k => t er ρ fun b ρ1 => if b = true then u er ρ1 k else k false ρ1 : VB) er (p :: ρ) k := rfl
theorem vOr_c {t u : VB} {er : ER} {p : Option PV} {ρ : PSt} {k : Bool → PSt → Prop} : vOr t u er (p :: ρ) k = (fun er ρ k => t er ρ fun b ρ1 => if b = true then k true ρ1 else u er ρ1 k : VB) er (p :: ρ) k := rfl
theorem vNot_c {t : VB} {er : ER} {p : Option PV} {ρ : PSt} {k : Bool → PSt → Prop} : vNot t er (p :: ρ) k = (fun er ρ k => t er ρ fun b ρ1 => k (!b) ρ1 : VB) er (p :: ρ) k := rfl
theorem vAndV_c {t : VT} {u : VT} {er : ER} {p : Option PV} {ρ : PSt} {k : D → PSt → Prop} : vAndV t u er (p :: ρ) k = (fun er ρ k => t er ρ fun d ρ1 => match d with
  | .bl b => if b = true then u er ρ1 k else k (.bl false) ρ1
  | _ => False : VT) er (p :: ρ) k := rfl
theorem vOrV_c {t : VT} {u : VT} {er : ER} {p : Option PV} {ρ : PSt} {k : D → PSt → Prop} : vOrV t u er (p :: ρ) k = (fun er ρ k => t er ρ fun d ρ1 => match d with
  | .bl b => if b = true then k (.bl true) ρ1 else u er ρ1 k
  | _ => False : VT) er (p :: ρ) k := rfl
theorem vNotV_c {t : VT} {er : ER} {p : Option PV} {ρ : PSt} {k : D → PSt → Prop} : vNotV t er (p :: ρ) k = (fun er ρ k => t er ρ fun d ρ1 => match d with
  | .bl b => k (.bl (!b)) ρ1
  | _ => False : VT) er (p :: ρ) k := rfl
theorem vIfE_c {c : VB} {t u : VT} {er : ER} {p : Option PV} {ρ : PSt} {k : D → PSt → Prop} : vIfE c t u er (p :: ρ) k = (fun er ρ k => c er ρ fun b ρ1 => if b = true then t er ρ1 k else u er ρ1 k : VT) er (p :: ρ) k := rfl
theorem vLend_c {t : VT} {er : ER} {p : Option PV} {ρ : PSt} {k : D → PSt → Prop} : vLend t er (p :: ρ) k = (fun _ ρ k => t noE (lendAll ρ) fun d _ => scD d = true ∧ k d ρ : VT) er (p :: ρ) k := rfl
theorem vLendT_c {t : VB} {er : ER} {p : Option PV} {ρ : PSt} {k : Bool → PSt → Prop} : vLendT t er (p :: ρ) k = (fun _ ρ k => t noE (lendAll ρ) fun b _ => k b ρ : VB) er (p :: ρ) k := rfl
theorem vNext_c  {P : PEnds} {p : Option PV} {ρ : PSt} : vNext  P (p :: ρ) = (fun P ρ => P.nx ρ : VS) P (p :: ρ) := rfl
theorem vSeq_c {t u : VS} {P : PEnds} {p : Option PV} {ρ : PSt} : vSeq t u P (p :: ρ) = (fun P ρ => t { P with nx := u P } ρ : VS) P (p :: ρ) := rfl
theorem vDrop_c {t : VT} {P : PEnds} {p : Option PV} {ρ : PSt} : vDrop t P (p :: ρ) = (fun P ρ => t P.er ρ fun _ ρ' => P.nx ρ' : VS) P (p :: ρ) := rfl
theorem vRet_c {t : VT} {P : PEnds} {p : Option PV} {ρ : PSt} : vRet t P (p :: ρ) = (fun P ρ => t P.er ρ fun d ρ' => P.rt (.imm d) ρ' : VS) P (p :: ρ) := rfl
theorem vRetO_c {t : VO} {P : PEnds} {p : Option PV} {ρ : PSt} : vRetO t P (p :: ρ) = (fun P ρ => t P.er ρ fun p ρ' => P.rt p ρ' : VS) P (p :: ρ) := rfl
theorem vIf_c {c : VB} {t u : VS} {P : PEnds} {p : Option PV} {ρ : PSt} : vIf c t u P (p :: ρ) = (fun P ρ => c P.er ρ fun b ρ' => if b = true then t P ρ' else u P ρ' : VS) P (p :: ρ) := rfl
theorem vSet_c {i : Nat} {t : VT} {P : PEnds} {p : Option PV} {ρ : PSt} : vSet i t P (p :: ρ) = (fun P ρ => t P.er ρ fun d ρ' => okSet ρ' i (P.nx (ρ'.set i (some (.imm d)))) : VS) P (p :: ρ) := rfl
theorem vSetO_c {i : Nat} {t : VO} {P : PEnds} {p : Option PV} {ρ : PSt} : vSetO i t P (p :: ρ) = (fun P ρ => t P.er ρ fun p ρ' => okSet ρ' i (notRef p (P.nx (ρ'.set i (some p)))) : VS) P (p :: ρ) := rfl
theorem vgName_c {i : Nat} {d : D} {p : Option PV} {ρ : PSt} {k : PSt → Prop} : vgName i d (p :: ρ) k = (fun d ρ k => okSet ρ i (k (ρ.set i (some (.imm d)))) : VG) d (p :: ρ) k := rfl
theorem vgNil_c  {d : List D} {p : Option PV} {ρ : PSt} {k : PSt → Prop} : vgNil  d (p :: ρ) k = (fun ds ρ k => match ds with
  | [] => k ρ
  | _ => False : VGs) d (p :: ρ) k := rfl
theorem vgCons_c {t : VG} {u : VGs} {d : List D} {p : Option PV} {ρ : PSt} {k : PSt → Prop} : vgCons t u d (p :: ρ) k = (fun ds ρ k => match ds with
  | d :: r => t d ρ fun ρ1 => u r ρ1 k
  | _ => False : VGs) d (p :: ρ) k := rfl
theorem vgTup_c {n : Nat} {t : VGs} {d : D} {p : Option PV} {ρ : PSt} {k : PSt → Prop} : vgTup n t d (p :: ρ) k = (fun d ρ k => match d with
  | .tup ds => ds.length = n ∧ t ds ρ k
  | _ => False : VG) d (p :: ρ) k := rfl
theorem vAsg_c {t : VT} {g : VG} {P : PEnds} {p : Option PV} {ρ : PSt} : vAsg t g P (p :: ρ) = (fun P ρ => t P.er ρ fun d ρ' => g d ρ' P.nx : VS) P (p :: ρ) := rfl
theorem vPar_c {i j : Nat} {t : VA} {P : PEnds} {p : Option PV} {ρ : PSt} : vPar i j t P (p :: ρ) = (fun P ρ => t P.er ρ fun ds ρ' => match ds with
  | [d, e] => okSet ρ' i (okSet ρ' j (P.nx ((ρ'.set i (some (.imm d))).set j (some (.imm e)))))
  | _ => False : VS) P (p :: ρ) := rfl
theorem vAug_c {i : Nat} {g : GD} {t : VT} {P : PEnds} {p : Option PV} {ρ : PSt} : vAug i g t P (p :: ρ) = (fun P ρ => vVar i P.er ρ fun d ρ0 => t P.er ρ0 fun e ρ' => g d e fun c => okSet ρ' i (P.nx (ρ'.set i (some (.imm c)))) : VS) P (p :: ρ) := rfl
theorem vAug2_c {i : Nat} {g : GD} {t : VT} {P : PEnds} {p : Option PV} {ρ : PSt} : vAug2 i g t P (p :: ρ) = (fun P ρ => imAt ρ i fun d => t P.er ρ fun e ρ' => g d e fun c => okSet ρ' i (P.nx (ρ'.set i (some (.imm c)))) : VS) P (p :: ρ) := rfl
theorem vFor_c {t : VI} {g : VG} {b : VS} {P : PEnds} {p : Option PV} {ρ : PSt} : vFor t g b P (p :: ρ) = (fun P ρ => t P.er ρ fun ds ρ' => forL g b P ds ρ' : VS) P (p :: ρ) := rfl
theorem vCall_c {S : PSp} {t : VA} {er : ER} {p : Option PV} {ρ : PSt} {k : PV → PSt → Prop} : vCall S t er (p :: ρ) k = (fun er ρ k => t er ρ fun ds ρ1 => S.run (immL ds) (fun p _ => k p ρ1) (fun c fs _ => er c fs ρ1) : VO) er (p :: ρ) k := rfl
theorem vCallR_c {i : Nat} {S : PSp} {t : VA} {er : ER} {p : Option PV} {ρ : PSt} {k : PV → PSt → Prop} : vCallR i S t er (p :: ρ) k = (fun er ρ k => hasO ρ i <| t er ρ fun ds ρ1 => match ρ1[i]? with
  | some (some (.own r o)) => S.run (.own true o :: immL ds) (fun p bs => match bs with
      | .own _ o' :: _ => k p (ρ1.set i (some (.own r o')))
      | _ => False) (fun c fs bs => match bs with
      | .own _ o' :: _ => er c fs (ρ1.set i (some (.own r o')))
      | _ => False)
  | _ => False : VO) er (p :: ρ) k := rfl
theorem vNeg_c {t : VT} {er : ER} {p : Option PV} {ρ : PSt} {k : D → PSt → Prop} : vNeg t er (p :: ρ) k = (fun er ρ k => t er ρ fun d ρ' => match d with
  | .int i => k (.int (-i)) ρ'
  | _ => False : VT) er (p :: ρ) k := rfl
theorem vChain_c {g g' : GD} {ta tb tc : VT} {er : ER} {p : Option PV} {ρ : PSt} {k : D → PSt → Prop} : vChain g g' ta tb tc er (p :: ρ) k = (fun er ρ k => ta er ρ fun d1 ρ1 => tb er ρ1 fun d2 ρ2 => g d1 d2 fun z => match z with
  | .bl b => if b = true then tc er ρ2 fun d3 ρ3 => g' d2 d3 fun d => k d ρ3 else k (.bl false) ρ2
  | _ => False : VT) er (p :: ρ) k := rfl
theorem vPn_c  {er : ER} {p : Option PV} {ρ : PSt} {k : Option Int → PSt → Prop} : vPn  er (p :: ρ) k = (fun _ ρ k => k none ρ : VP) er (p :: ρ) k := rfl
theorem vPs_c {t : VT} {er : ER} {p : Option PV} {ρ : PSt} {k : Option Int → PSt → Prop} : vPs t er (p :: ρ) k = (fun er ρ k => t er ρ fun d ρ' => match d with
  | .int i => k (some i) ρ'
  | _ => False : VP) er (p :: ρ) k := rfl
theorem vSl_c {t : VT} {tl th : VP} {er : ER} {p : Option PV} {ρ : PSt} {k : D → PSt → Prop} : vSl t tl th er (p :: ρ) k = (fun er ρ k => t er ρ fun d ρ1 => tl er ρ1 fun l ρ2 => th er ρ2 fun h ρ3 => gSl d l h fun d => k d ρ3 : VT) er (p :: ρ) k := rfl
theorem vRevS_c {t : VT} {er : ER} {p : Option PV} {ρ : PSt} {k : D → PSt → Prop} : vRevS t er (p :: ρ) k = (fun er ρ k => t er ρ fun d ρ' => match d with
  | .str l => l.length ≤ 1000000 ∧ k (.str l.reverse) ρ'
  | _ => False : VT) er (p :: ρ) k := rfl
theorem vLst_c {t : VA} {er : ER} {p : Option PV} {ρ : PSt} {k : PV → PSt → Prop} : vLst t er (p :: ρ) k = (fun er ρ k => t er ρ fun ds ρ' => ds.length ≤ 16777216 ∧ k (.own false (.lst ds)) ρ' : VO) er (p :: ρ) k := rfl
theorem vTup_c {t : VA} {er : ER} {p : Option PV} {ρ : PSt} {k : D → PSt → Prop} : vTup t er (p :: ρ) k = (fun er ρ k => t er ρ fun ds ρ' => ds.length ≤ 16777216 ∧ k (.tup ds) ρ' : VT) er (p :: ρ) k := rfl
theorem vCB_c {g : GC} {t : VA} {er : ER} {p : Option PV} {ρ : PSt} {k : PV → PSt → Prop} : vCB g t er (p :: ρ) k = (fun er ρ k => t er ρ fun ds ρ' => g ds fun p => k p ρ' : VO) er (p :: ρ) k := rfl
theorem vM0_c {g : GM} {t : VT} {er : ER} {p : Option PV} {ρ : PSt} {k : PV → PSt → Prop} : vM0 g t er (p :: ρ) k = (fun er ρ k => t er ρ fun d ρ' => match d with
  | .str l => g l [] fun p => k p ρ'
  | _ => False : VO) er (p :: ρ) k := rfl
theorem vM1_c {g : GM} {t u : VT} {er : ER} {p : Option PV} {ρ : PSt} {k : PV → PSt → Prop} : vM1 g t u er (p :: ρ) k = (fun er ρ k => t er ρ fun d ρ1 => match d with
  | .str l => u er ρ1 fun e ρ2 => g l [e] fun p => k p ρ2
  | _ => False : VO) er (p :: ρ) k := rfl
theorem vFld_c {tb : List (Nat × Nat)} {t : VT} {er : ER} {p : Option PV} {ρ : PSt} {k : D → PSt → Prop} : vFld tb t er (p :: ρ) k = (fun er ρ k => t er ρ fun d ρ' => fldD tb d fun e => k e ρ' : VT) er (p :: ρ) k := rfl
theorem vFldX_c {tb : List (Nat × Nat)} {t : VT} {er : ER} {p : Option PV} {ρ : PSt} {k : D → PSt → Prop} : vFldX tb t er (p :: ρ) k = (fun er ρ k => t er ρ fun d ρ' => fldX tb d fun e => k e ρ' : VT) er (p :: ρ) k := rfl
theorem vFldO_c {i j c : Nat} {er : ER} {p : Option PV} {ρ : PSt} {k : D → PSt → Prop} : vFldO i j c er (p :: ρ) k = (fun _ ρ k => match ρ[i]? with
  | some (some (.own _ (.obj c' fs))) => c' = c ∧ Opt fs[j]? fun d => k d ρ
  | _ => False : VT) er (p :: ρ) k := rfl
theorem vPutO_c {i j c : Nat} {t : VT} {P : PEnds} {p : Option PV} {ρ : PSt} : vPutO i j c t P (p :: ρ) = (fun P ρ => t P.er ρ fun d ρ' => match ρ'[i]? with
  | some (some (.own r (.obj c' fs))) => c' = c ∧ Opt (putD j d fs) fun gs => P.nx (ρ'.set i (some (.own r (.obj c gs))))
  | _ => False : VS) P (p :: ρ) := rfl
theorem vApp_c {i : Nat} {t : VT} {er : ER} {p : Option PV} {ρ : PSt} {k : D → PSt → Prop} : vApp i t er (p :: ρ) k = (fun er ρ k => atL ρ i fun _ _ => t er ρ fun d ρ1 => atL ρ1 i fun r xs => xs.length < 16777216 ∧ k .non (ρ1.set i (some (.own r (.lst (xs ++ [d]))))) : VT) er (p :: ρ) k := rfl
theorem vPop_c {i : Nat} {er : ER} {p : Option PV} {ρ : PSt} {k : D → PSt → Prop} : vPop i er (p :: ρ) k = (fun _ ρ k => atL ρ i fun r xs => Opt xs.getLast? fun d => k d (ρ.set i (some (.own r (.lst xs.dropLast)))) : VT) er (p :: ρ) k := rfl
theorem vExt_c {i : Nat} {t : VT} {er : ER} {p : Option PV} {ρ : PSt} {k : D → PSt → Prop} : vExt i t er (p :: ρ) k = (fun er ρ k => atL ρ i fun _ _ => t er ρ fun d ρ1 => match d with
  | .lst ys => atL ρ1 i fun r xs => xs.length + ys.length ≤ 16777216 ∧ k .non (ρ1.set i (some (.own r (.lst (xs ++ ys)))))
  | _ => False : VT) er (p :: ρ) k := rfl
theorem vPutI_c {i : Nat} {te tb : VT} {P : PEnds} {p : Option PV} {ρ : PSt} : vPutI i te tb P (p :: ρ) = (fun P ρ => te P.er ρ fun d ρ1 => atL ρ1 i fun _ _ => tb P.er ρ1 fun n ρ2 => match n with
  | .int n => atL ρ2 i fun r xs => Opt (ixN xs.length n) fun j => P.nx (ρ2.set i (some (.own r (.lst (xs.set j d)))))
  | _ => False : VS) P (p :: ρ) := rfl
theorem vItL_c {t : VT} {er : ER} {p : Option PV} {ρ : PSt} {k : List D → PSt → Prop} : vItL t er (p :: ρ) k = (fun er ρ k => t er ρ fun d ρ' => match d with
  | .lst xs => k xs ρ'
  | _ => False : VI) er (p :: ρ) k := rfl
theorem vItT_c {t : VT} {er : ER} {p : Option PV} {ρ : PSt} {k : List D → PSt → Prop} : vItT t er (p :: ρ) k = (fun er ρ k => t er ρ fun d ρ' => match d with
  | .tup xs => k xs ρ'
  | _ => False : VI) er (p :: ρ) k := rfl
theorem vItS_c {t : VT} {er : ER} {p : Option PV} {ρ : PSt} {k : List D → PSt → Prop} : vItS t er (p :: ρ) k = (fun er ρ k => t er ρ fun d ρ' => match d with
  | .str l => k (l.map fun c => .str [c]) ρ'
  | _ => False : VI) er (p :: ρ) k := rfl
theorem vRng1_c {t : VA} {er : ER} {p : Option PV} {ρ : PSt} {k : List D → PSt → Prop} : vRng1 t er (p :: ρ) k = (fun er ρ k => t er ρ fun ds ρ' => match ds with
  | [.int j] => (-(2 ^ 62) ≤ j ∧ j < 2 ^ 62) ∧ k (rngD 0 j.toNat) ρ'
  | _ => False : VI) er (p :: ρ) k := rfl
theorem vRng2_c {t : VA} {er : ER} {p : Option PV} {ρ : PSt} {k : List D → PSt → Prop} : vRng2 t er (p :: ρ) k = (fun er ρ k => t er ρ fun ds ρ' => match ds with
  | [.int i, .int j] => (-(2 ^ 62) ≤ i ∧ i < 2 ^ 62 ∧ -(2 ^ 62) ≤ j ∧ j < 2 ^ 62) ∧ k (rngD i (j - i).toNat) ρ'
  | _ => False : VI) er (p :: ρ) k := rfl
theorem vEnumL_c {t : VA} {er : ER} {p : Option PV} {ρ : PSt} {k : List D → PSt → Prop} : vEnumL t er (p :: ρ) k = (fun er ρ k => t er ρ fun ds ρ' => match ds with
  | [.lst xs] => k (enumD 0 xs) ρ'
  | _ => False : VI) er (p :: ρ) k := rfl
theorem vEnumS_c {t : VA} {er : ER} {p : Option PV} {ρ : PSt} {k : List D → PSt → Prop} : vEnumS t er (p :: ρ) k = (fun er ρ k => t er ρ fun ds ρ' => match ds with
  | [.str l] => k (enumD 0 (l.map fun c => .str [c])) ρ'
  | _ => False : VI) er (p :: ρ) k := rfl
theorem vZip_c {t : VA} {er : ER} {p : Option PV} {ρ : PSt} {k : List D → PSt → Prop} : vZip t er (p :: ρ) k = (fun er ρ k => t er ρ fun ds ρ' => match ds with
  | [.lst xs, .lst ys] => k (List.zipWith (fun x y => D.tup [x, y]) xs ys) ρ'
  | _ => False : VI) er (p :: ρ) k := rfl
theorem vYes_c  {er : ER} {p : Option PV} {ρ : PSt} {k : Bool → PSt → Prop} : vYes  er (p :: ρ) k = (fun _ ρ k => k true ρ : VB) er (p :: ρ) k := rfl
theorem vLc_c {wi : VI} {g : VG} {tt : VB} {te : VT} {vs : List Nat} {er : ER} {p : Option PV} {ρ : PSt} {k : PV → PSt → Prop} : vLc wi g tt te vs er (p :: ρ) k = (fun er ρ k => wi er ρ fun ds ρ1 => ds.length < 16777216 ∧ lcL g tt te vs ds [] ρ1 fun acc ρ2 => k (.own false (.lst acc)) ρ2 : VO) er (p :: ρ) k := rfl
theorem vRaise_c {c : Nat} {t : VA} {P : PEnds} {p : Option PV} {ρ : PSt} : vRaise c t P (p :: ρ) = (fun P ρ => t P.er ρ fun ds ρ' => ds.length = (cflds c).length ∧ P.er c ds ρ' : VS) P (p :: ρ) := rfl
theorem vMake_c {c : Nat} {S : PSp} {dd : List D} {t : VA} {er : ER} {p : Option PV} {ρ : PSt} {k : PV → PSt → Prop} : vMake c S dd t er (p :: ρ) k = (fun er ρ k => t er ρ fun ds ρ1 => mkRun c S (immL (ds ++ dd)) (fun p => k p ρ1) (fun c fs => er c fs ρ1) : VO) er (p :: ρ) k := rfl
theorem vMakeK_c {c n : Nat} {S : PSp} {t : VA} {er : ER} {p : Option PV} {ρ : PSt} {k : PV → PSt → Prop} : vMakeK c n S t er (p :: ρ) k = (fun er ρ k => t er ρ fun ds ρ1 => ds.length = n ∧ mkRun c S (immL ds) (fun p => k p ρ1) (fun c fs => er c fs ρ1) : VO) er (p :: ρ) k := rfl
theorem vCallN_c {n : Nat} {S : PSp} {t : VA} {er : ER} {p : Option PV} {ρ : PSt} {k : PV → PSt → Prop} : vCallN n S t er (p :: ρ) k = (fun er ρ k => t er ρ fun ds ρ1 => ds.length = n ∧ S.run (immL ds) (fun p _ => k p ρ1) (fun c fs _ => er c fs ρ1) : VO) er (p :: ρ) k := rfl
theorem vMeth_c {c : Nat} {S : PSp} {to : VT} {t : VA} {er : ER} {p : Option PV} {ρ : PSt} {k : PV → PSt → Prop} : vMeth c S to t er (p :: ρ) k = (fun er ρ k => to er ρ fun d ρ1 => insD c d <| t er ρ1 fun ds ρ2 => S.run (immL (d :: ds)) (fun p _ => k p ρ2) (fun c fs _ => er c fs ρ2) : VO) er (p :: ρ) k := rfl
theorem vMethN_c {c n : Nat} {S : PSp} {to : VT} {t : VA} {er : ER} {p : Option PV} {ρ : PSt} {k : PV → PSt → Prop} : vMethN c n S to t er (p :: ρ) k = (fun er ρ k => to er ρ fun d ρ1 => insD c d <| t er ρ1 fun ds ρ2 => ds.length = n ∧ S.run (immL (d :: ds)) (fun p _ => k p ρ2) (fun c fs _ => er c fs ρ2) : VO) er (p :: ρ) k := rfl
theorem vOwn2_c {c : Nat} {S : PSp} {ta tb : VT} {er : ER} {p : Option PV} {ρ : PSt} {k : PV → PSt → Prop} : vOwn2 c S ta tb er (p :: ρ) k = (fun er ρ k => ta er ρ fun d1 ρ1 => tb er ρ1 fun d2 ρ2 => insD c d1 <| insD c d2 <| S.run (immL [d1, d2]) (fun p _ => k p ρ2) (fun c fs _ => er c fs ρ2) : VO) er (p :: ρ) k := rfl
theorem vBlO_c {t : VO} {er : ER} {p : Option PV} {ρ : PSt} {k : Bool → PSt → Prop} : vBlO t er (p :: ρ) k = (fun er ρ k => t er ρ fun p ρ' => match p with
  | .imm (.bl b) => k b ρ'
  | _ => False : VB) er (p :: ρ) k := rfl
theorem vOwnN_c {c : Nat} {S : PSp} {ta tb : VT} {er : ER} {p : Option PV} {ρ : PSt} {k : PV → PSt → Prop} : vOwnN c S ta tb er (p :: ρ) k = (fun er ρ k => ta er ρ fun d1 ρ1 => tb er ρ1 fun d2 ρ2 => insD c d1 <| insD c d2 <| S.run (immL [d1, d2]) (fun p _ => match p with
  | .imm (.bl b) => k (.imm (.bl (!b))) ρ2
  | _ => False) (fun c fs _ => er c fs ρ2) : VO) er (p :: ρ) k := rfl
theorem vOwn1_c {c : Nat} {S : PSp} {ta : VT} {er : ER} {p : Option PV} {ρ : PSt} {k : PV → PSt → Prop} : vOwn1 c S ta er (p :: ρ) k = (fun er ρ k => ta er ρ fun d1 ρ1 => insD c d1 <| S.run (immL [d1]) (fun p _ => k p ρ1) (fun c fs _ => er c fs ρ1) : VO) er (p :: ρ) k := rfl
theorem vLenO_c {c : Nat} {S : PSp} {t : VA} {er : ER} {p : Option PV} {ρ : PSt} {k : PV → PSt → Prop} : vLenO c S t er (p :: ρ) k = (fun er ρ k => t er ρ fun ds ρ1 => match ds with
  | [d] => insD c d <| S.run (immL [d]) (fun p _ => match p with
    | .imm (.int n) => 0 ≤ n ∧ n < 2 ^ 63 ∧ k (.imm (.int n)) ρ1
    | _ => False) (fun c fs _ => er c fs ρ1)
  | _ => False : VO) er (p :: ρ) k := rfl
theorem vStrO_c {c : Nat} {S : PSp} {t : VA} {er : ER} {p : Option PV} {ρ : PSt} {k : PV → PSt → Prop} : vStrO c S t er (p :: ρ) k = (fun er ρ k => t er ρ fun ds ρ1 => match ds with
  | [d] => insD c d <| S.run (immL [d]) (fun p _ => match p with
    | .imm (.str l) => k (.imm (.str l)) ρ1
    | _ => False) (fun c fs _ => er c fs ρ1)
  | _ => False : VO) er (p :: ρ) k := rfl
theorem vItO_c {c j : Nat} {t : VT} {er : ER} {p : Option PV} {ρ : PSt} {k : List D → PSt → Prop} : vItO c j t er (p :: ρ) k = (fun er ρ k => t er ρ fun d ρ' => match d with
  | .ins c' fs => c' = c ∧ Opt fs[j]? fun e => match e with
    | .str l => k (l.map fun c => .str [c]) ρ'
    | _ => False
  | _ => False : VI) er (p :: ρ) k := rfl
theorem vFn_c {f : List D → Res} {t : VA} {er : ER} {p : Option PV} {ρ : PSt} {k : PV → PSt → Prop} : vFn f t er (p :: ρ) k = (fun er ρ k => t er ρ fun ds ρ1 => (f ds).go (fun p => k p ρ1) (fun c fs => er c fs ρ1) : VO) er (p :: ρ) k := rfl
theorem vRef_c {i : Nat} {g : RSp} {t : VA} {er : ER} {p : Option PV} {ρ : PSt} {k : PV → PSt → Prop} : vRef i g t er (p :: ρ) k = (fun er ρ k => hasO ρ i <| t er ρ fun ds ρ1 => match ρ1[i]? with
  | some (some (.own r o)) => g.run o ds (fun p o' => k p (ρ1.set i (some (.own r o')))) (fun c fs o' => er c fs (ρ1.set i (some (.own r o'))))
  | _ => False : VO) er (p :: ρ) k := rfl
theorem vMk_c {f : List D → Res} {dd : List D} {t : VA} {er : ER} {p : Option PV} {ρ : PSt} {k : PV → PSt → Prop} : vMk f dd t er (p :: ρ) k = (fun er ρ k => t er ρ fun ds ρ1 => (f (ds ++ dd)).go (fun p => k p ρ1) (fun c fs => er c fs ρ1) : VO) er (p :: ρ) k := rfl
theorem vMkK_c {n : Nat} {f : List D → Res} {t : VA} {er : ER} {p : Option PV} {ρ : PSt} {k : PV → PSt → Prop} : vMkK n f t er (p :: ρ) k = (fun er ρ k => t er ρ fun ds ρ1 => ds.length = n ∧ (f ds).go (fun p => k p ρ1) (fun c fs => er c fs ρ1) : VO) er (p :: ρ) k := rfl
theorem vHeard_c {cat : List Nat} {t : VT} {er : ER} {p : Option PV} {ρ : PSt} {k : D → PSt → Prop} : vHeard cat t er (p :: ρ) k = (fun er ρ k => t (fun c fs _ => onB (cat.contains c && (anc c).contains 0) (k (.exc c fs) ρ)) (hideO ρ) fun _ _ => k .non ρ : VT) er (p :: ρ) k := rfl
theorem vEqA_c {neg : Bool} {c : Nat} {S : PSp} {ta tb : VT} {er : ER} {p : Option PV} {ρ : PSt} {k : D → PSt → Prop} : vEqA neg c S ta tb er (p :: ρ) k = (fun er ρ k => ta er ρ fun d1 ρ1 => tb er ρ1 fun d2 ρ2 => insD c d1 <| match aliD d2 with
  | true => k (.bl neg) ρ2
  | false => insD c d2 <| S.run (immL [d1, d2]) (fun p _ => boolP p fun b => k (.bl (ng neg b)) ρ2) (fun c fs _ => er c fs ρ2) : VT) er (p :: ρ) k := rfl
theorem vMulA_c {c : Nat} {S : PSp} {ta tb : VT} {er : ER} {p : Option PV} {ρ : PSt} {k : PV → PSt → Prop} : vMulA c S ta tb er (p :: ρ) k = (fun er ρ k => ta er ρ fun d1 ρ1 => tb er ρ1 fun d2 ρ2 => insD c d1 <| match aliD d2 with
  | true => S.run (immL [d1, d2]) (fun p _ => k p ρ2) (fun c fs _ => er c fs ρ2)
  | false => insD c d2 <| S.run (immL [d1, d2]) (fun p _ => k p ρ2) (fun c fs _ => er c fs ρ2) : VO) er (p :: ρ) k := rfl
def fzK (p : PV) (k : D → Prop) : Prop := match p with
  | .imm d => k d
  | .own _ o => Opt (frz o) k
theorem fzK_i {d : D} {k : D → Prop} : fzK (.imm d) k = k d := rfl
theorem fzK_o {b : Bool} {o : OV} {k : D → Prop} : fzK (.own b o) k = Opt (frz o) k := rfl
theorem vFz_c {t : VO} {er : ER} {p : Option PV} {ρ : PSt} {k : D → PSt → Prop} : vFz t er (p :: ρ) k = t er (p :: ρ) fun q ρ' => fzK q fun d => k d ρ' := rfl
def trK (d : D) (k : Bool → Prop) : Prop := match d with
  | .str l => l.length ≤ 16777216 ∧ k (!l.isEmpty)
  | d => Opt (truD d) k
theorem trK_b {b : Bool} {k : Bool → Prop} : trK (.bl b) k = k b := rfl
theorem trK_n {k : Bool → Prop} : trK .non k = k false := rfl
theorem trK_i {i : Int} {k : Bool → Prop} : trK (.int i) k = k (!decide (i = 0)) := rfl
theorem trK_s {l : List Nat} {k : Bool → Prop} : trK (.str l) k = (l.length ≤ 16777216 ∧ k (!l.isEmpty)) := rfl
theorem trK_l {l : List D} {k : Bool → Prop} : trK (.lst l) k = k (!l.isEmpty) := rfl
theorem trK_t {l : List D} {k : Bool → Prop} : trK (.tup l) k = k (!l.isEmpty) := rfl
theorem vTr_c {t : VT} {er : ER} {p : Option PV} {ρ : PSt} {k : Bool → PSt → Prop} : vTr t er (p :: ρ) k = t er (p :: ρ) fun d ρ' => trK d fun b => k b ρ' := by
  unfold vTr
  congr 1
theorem fn_r0 {f : List D → Res} {Q : PV → List PV → Prop} {Ep : Nat → List D → List PV → Prop} : (fnS f).run [] Q Ep = (f []).go (fun p => Q p []) (fun c fs => Ep c fs []) := rfl
theorem fn_r1 {f : List D → Res} {a : D} {Q : PV → List PV → Prop} {Ep : Nat → List D → List PV → Prop} : (fnS f).run [.imm a] Q Ep = (f [a]).go (fun p => Q p [.imm a]) (fun c fs => Ep c fs [.imm a]) := rfl
theorem fn_r2 {f : List D → Res} {a b : D} {Q : PV → List PV → Prop} {Ep : Nat → List D → List PV → Prop} : (fnS f).run [.imm a, .imm b] Q Ep = (f [a, b]).go (fun p => Q p [.imm a, .imm b]) (fun c fs => Ep c fs [.imm a, .imm b]) := rfl
theorem fn_r3 {f : List D → Res} {a b c : D} {Q : PV → List PV → Prop} {Ep : Nat → List D → List PV → Prop} : (fnS f).run [.imm a, .imm b, .imm c] Q Ep = (f [a, b, c]).go (fun p => Q p [.imm a, .imm b, .imm c]) (fun e fs => Ep e fs [.imm a, .imm b, .imm c]) := rfl
theorem aliD_1 : aliD .non = true := rfl
theorem aliD_2 {b : Bool} : aliD (.bl b) = true := rfl
theorem aliD_3 {i : Int} : aliD (.int i) = true := rfl
theorem aliD_4 {l : List Nat} : aliD (.str l) = true := rfl
theorem aliD_5 {l : List D} : aliD (.lst l) = true := rfl
theorem aliD_6 {l : List D} : aliD (.tup l) = true := rfl
theorem aliD_7 {c : Nat} {l : List D} : aliD (.ins c l) = false := rfl
theorem aliD_8 {c : Nat} {l : List D} : aliD (.exc c l) = false := rfl
theorem forL_0 {g : VG} {b : VS} {P : PEnds} {ρ : PSt} : forL g b P [] ρ = P.nx ρ := rfl
theorem forL_1 {g : VG} {b : VS} {P : PEnds} {d : D} {ds : List D} {ρ : PSt} : forL g b P (d :: ds) ρ = g d ρ fun ρ' => b { P with nx := forL g b P ds, ct := forL g b P ds, bk := P.nx } ρ' := rfl
theorem boolP_b {b : Bool} {k : Bool → Prop} : boolP (.imm (.bl b)) k = k b := rfl
theorem lenG_s {l : List Nat} {k : PV → Prop} : lenG (.str l) k = (l.length ≤ 16777216 ∧ k (.imm (.int l.length))) := rfl
theorem lenG_l {l : List D} {k : PV → Prop} : lenG (.lst l) k = k (.imm (.int l.length)) := rfl
theorem lenG_t {l : List D} {k : PV → Prop} : lenG (.tup l) k = k (.imm (.int l.length)) := rfl
theorem intG_i {i : Int} {k : PV → Prop} : intG (.int i) k = k (.imm (.int i)) := rfl
theorem intG_b {b : Bool} {k : PV → Prop} : intG (.bl b) k = k (.imm (.int (if b = true then 1 else 0))) := rfl
theorem intG_s {l : List Nat} {k : PV → Prop} : intG (.str l) k = Opt (PySem.intText? (tx l)) fun n => l.length ≤ 640 ∧ k (.imm (.int n)) := rfl
theorem listG_l {l : List D} {k : PV → Prop} : listG (.lst l) k = k (.own false (.lst l)) := rfl
theorem listG_t {l : List D} {k : PV → Prop} : listG (.tup l) k = k (.own false (.lst l)) := rfl
theorem tupG_l {l : List D} {k : PV → Prop} : tupG (.lst l) k = k (.imm (.tup l)) := rfl
theorem tupG_t {l : List D} {k : PV → Prop} : tupG (.tup l) k = k (.imm (.tup l)) := rfl
theorem gAdd_i {i j : Int} {k : D → Prop} : gAdd (.int i) (.int j) k = k (.int (i + j)) := rfl
theorem gAdd_s {l m : List Nat} {k : D → Prop} : gAdd (.str l) (.str m) k = (l.length + m.length ≤ 16777216 ∧ k (.str (l ++ m))) := rfl
theorem gAdd_l {l m : List D} {k : D → Prop} : gAdd (.lst l) (.lst m) k = (l.length + m.length ≤ 16777216 ∧ k (.lst (l ++ m))) := rfl
theorem gAdd_t {l m : List D} {k : D → Prop} : gAdd (.tup l) (.tup m) k = (l ≠ [] ∧ l.length + m.length ≤ 16777216 ∧ k (.tup (l ++ m))) := rfl
theorem gAdd_b {i : Int} {b : Bool} {k : D → Prop} : gAdd (.int i) (.bl b) k = k (.int (i + b2i b)) := rfl
theorem gInt_i {C : Int → Int → Prop} {g : Int → Int → D} {i j : Int} {k : D → Prop} : gInt C g (.int i) (.int j) k = (C i j ∧ k (g i j)) := rfl
theorem gInt0_i {g : Int → Int → D} {i j : Int} {k : D → Prop} : gInt0 g (.int i) (.int j) k = k (g i j) := rfl
theorem gCmp_i {p : Int → Int → Bool} {t : List Nat → List Nat → Bool} {i j : Int} {k : D → Prop} : gCmp p t (.int i) (.int j) k = k (.bl (p i j)) := rfl
theorem gCmp_s {p : Int → Int → Bool} {t : List Nat → List Nat → Bool} {i j : List Nat} {k : D → Prop} : gCmp p t (.str i) (.str j) k = k (.bl (t i j)) := rfl
section
variable {n : Bool} {k : D → Prop} {i j : Int} {l m : List Nat} {a b : Bool} {xs ys : List D} {c : Nat} {fs : List D} {d : D}
theorem gEq_ii : gEqB n (.int i) (.int j) k = k (.bl (ng n (decide (i = j)))) := rfl
theorem gEq_ss : gEqB n (.str l) (.str m) k = k (.bl (ng n (decide (l = m)))) := rfl
theorem gEq_bb : gEqB n (.bl a) (.bl b) k = k (.bl (ng n (decide (a = b)))) := rfl
theorem gEq_is : gEqB n (.int i) (.str m) k = k (.bl (ng n false)) := rfl
theorem gEq_si : gEqB n (.str l) (.int j) k = k (.bl (ng n false)) := rfl
theorem gEq_nn : gEqB n .non .non k = k (.bl (ng n true)) := rfl
theorem gEq_ni : gEqB n .non (.int i) k = k (.bl (ng n false)) := rfl
theorem gEq_ns : gEqB n .non (.str l) k = k (.bl (ng n false)) := rfl
theorem gEq_nb : gEqB n .non (.bl b) k = k (.bl (ng n false)) := rfl
theorem gEq_in : gEqB n (.int i) .non k = k (.bl (ng n false)) := rfl
theorem gEq_sn : gEqB n (.str l) .non k = k (.bl (ng n false)) := rfl
theorem gEq_bn : gEqB n (.bl b) .non k = k (.bl (ng n false)) := rfl
theorem gEq_ll : gEqB n (.lst xs) (.lst ys) k = (okEq (.lst xs) (.lst ys) ∧ k (.bl (ng n (eqD (.lst xs) (.lst ys))))) := rfl
theorem gEq_tt : gEqB n (.tup xs) (.tup ys) k = (okEq (.tup xs) (.tup ys) ∧ k (.bl (ng n (eqD (.tup xs) (.tup ys))))) := rfl
theorem gIs_n : gIs n d .non k = k (.bl (ng n (isNon d))) := rfl
theorem gIs_bb : gIs n (.bl a) (.bl b) k = k (.bl (ng n (decide (a = b)))) := rfl
theorem gIs_ib : gIs n (.int i) (.bl b) k = k (.bl (ng n false)) := rfl
theorem gIn_l : gInB n d (.lst ys) k = (flatD d = true ∧ ys.all flatD = true ∧ k (.bl (ng n (inD d ys)))) := rfl
theorem gIn_t : gInB n d (.tup ys) k = (flatD d = true ∧ ys.all flatD = true ∧ k (.bl (ng n (inD d ys)))) := rfl
theorem gIn_s : gInB n (.str [c]) (.str l) k = k (.bl (ng n (decide (c ∈ l)))) := rfl
theorem gIx_l : gIx (.lst xs) (.int i) k = Opt (atI xs i) k := rfl
theorem gIx_t : gIx (.tup xs) (.int i) k = Opt (atI xs i) k := rfl
theorem gIx_s : gIx (.str l) (.int i) k = (l.length ≤ 16777216 ∧ Opt (atI l i) fun c => k (.str [c])) := rfl
theorem gSl_s {lo hi : Option Int} : gSl (.str l) lo hi k = (l.length ≤ 16777216 ∧ k (.str (cutL l lo hi))) := rfl
theorem gSl_l {lo hi : Option Int} : gSl (.lst xs) lo hi k = k (.lst (cutL xs lo hi)) := rfl
theorem gSl_t {lo hi : Option Int} : gSl (.tup xs) lo hi k = (¬ (HT.sIx xs.length 0 lo = 0 ∧ HT.sIx xs.length xs.length hi = xs.length) ∧ k (.tup (cutL xs lo hi))) := rfl
theorem gMulT_c {i : Int} : gMulT (.str l) (.int i) k = (2 ≤ i ∧ l ≠ [] ∧ i ≤ 1000000 ∧ l.length ≤ 16 ∧ k (.str (rep i.toNat l))) := rfl
theorem opt_s {α : Type} {a : α} {k : α → Prop} : Opt (some a) k = k a := rfl
theorem opt_n {α : Type} {k : α → Prop} : Opt none k = False := rfl
theorem go_ok {p : PV} {A : PV → Prop} {B : Nat → List D → Prop} : (Res.ok p).go A B = A p := rfl
theorem go_err {c : Nat} {fs : List D} {A : PV → Prop} {B : Nat → List D → Prop} : (Res.err c fs).go A B = B c fs := rfl
end
end PL

end
section
set_option maxHeartbeats 1000000
/-! Words: what the defs do to data. -/
namespace PL
open PySem PySem.Spec PyProof.Rows L2 SBX SB LamX
def wd (l : List Nat) : D := .ins 20 [.str l, .int (l.length : Nat)]
def okW (l : List Nat) (n : Int) : Bool := decide (firstBad l = none ∧ l.length ≤ 4000 ∧ n = l.length)
theorem okW_ok {l : List Nat} {n : Int} (h : okW l n = true) : Good l ∧ l.length ≤ 4000 ∧ n = l.length := by
  obtain ⟨h1, h2, h3⟩ := of_decide_eq_true h
  exact ⟨good_of_none h1, h2, h3⟩
theorem okW_wd {l : List Nat} (h : Good l) (h2 : l.length ≤ 4000) : okW l (l.length : Nat) = true := decide_eq_true ⟨firstBad_good h, h2, rfl⟩
def wordR (l : List Nat) : Res := match firstBad l with
  | some w => .err 8 [.int w]
  | none => if l.length ≤ 4000 then .ok (.imm (wd l)) else .err 11 [.str [108, 101, 116, 116, 101, 114, 115], .int 4000]
def f_need_word (ds : List D) : Res := match ds with
  | [.ins 20 _] => .ok (.imm .non)
  | [d] => if aliD d = true then .err 8 [.int 0] else .bad
  | _ => .bad
theorem len_need_word : ∀ ds, f_need_word ds ≠ .bad → ds.length = 1 := by
  intro ds h
  unfold f_need_word at h
  split at h <;> first | rfl | exact absurd rfl h
def t_need_word : VS := (vIf (vNot (vTr (vFz (vCB (isiG [20] [1, 8, 11, 12] [20, 11, 8]) (vCons (vVar 0) (vCons (vC (.cls 20)) vNil))))))
  (vRaise 8 (vCons (vC (.int 0)) vNil))
  vNext)
theorem ob_need_word : Ob0 t_need_word 1 f_need_word := by
  intro ds Q E h
  unfold f_need_word at h
  split at h
  · unfold t_need_word
    simp only [okSet_s, okSet_0, okSet_i, okSet_o, okSet_j, notRef, on1, isiG, askB, onB, tyD, isi1, isiA, btSub, absG, strG, max2G, min2G, hasO, lendAll, lendP, frz, scD, ng, isNon, swapG, indexG, joinG, splitG, imAt, atL, fldD, fldX, putD, insD, fn_run, hideO, ends0, ends1, atH, st0, st1, gEq, gNe, gSub, gMul, gFdiv, gMod, gPow, gLt, gLe, gGt, gGe, ipG_add, ipG_sub, List.getElem?_cons_zero, List.getElem?_cons_succ, List.getElem?_nil, List.set_cons_zero, List.set_cons_succ, List.map_cons, List.map_nil, List.length_cons, List.length_nil, List.replicate_zero, List.replicate_succ, List.cons_append, List.nil_append, List.append_nil, List.append_assoc, List.head?_cons, List.lookup, List.contains_cons, List.contains_nil, List.all_cons, List.all_nil, List.any_cons, List.any_nil, Bool.true_and, Bool.and_true, Bool.false_and, Bool.and_false, Bool.or_true, Bool.true_or, Bool.or_false, Bool.false_or, Bool.not_true, Bool.not_false, Bool.and_self, decide_eq_true_eq, decide_true, decide_false, Bool.false_eq_true, if_true, if_false, ite_true, ite_false, reduceIte, reduceCtorEq, Bool.not_eq_true, Bool.not_eq_true', decide_eq_false_iff_not, not_true_eq_false, not_false_eq_true, true_and, and_true, false_and, and_false, Nat.add_zero, Nat.zero_add, Nat.reduceAdd, Nat.reduceSub, Nat.reduceLT, Nat.reduceLeDiff, Nat.sub_self, beq_iff_eq, BEq.rfl, beq_self_eq_true, anc, cflds, Option.map_some, Option.map_none, lendP_j, wipeP, elemsD, prePick, postPick, nd_run, pick_run, draw_run, wd, vVar_c, vC_c, vIm_c, vNil_c, vCons_c, vBin_c, vBl_c, vAnd_c, vOr_c, vNot_c, vAndV_c, vOrV_c, vNotV_c, vIfE_c, vLend_c, vLendT_c, vNext_c, vSeq_c, vDrop_c, vRet_c, vRetO_c, vIf_c, vSet_c, vSetO_c, vgName_c, vgNil_c, vgCons_c, vgTup_c, vAsg_c, vPar_c, vAug_c, vAug2_c, vFor_c, vCall_c, vCallR_c, vNeg_c, vChain_c, vPn_c, vPs_c, vSl_c, vRevS_c, vLst_c, vTup_c, vCB_c, vM0_c, vM1_c, vFld_c, vFldX_c, vFldO_c, vPutO_c, vApp_c, vPop_c, vExt_c, vPutI_c, vItL_c, vItT_c, vItS_c, vRng1_c, vRng2_c, vEnumL_c, vEnumS_c, vZip_c, vYes_c, vLc_c, vRaise_c, vMake_c, vMakeK_c, vCallN_c, vMeth_c, vMethN_c, vOwn2_c, vBlO_c, vOwnN_c, vOwn1_c, vLenO_c, vStrO_c, vItO_c, vFn_c, vRef_c, vMk_c, vMkK_c, vHeard_c, vEqA_c, vMulA_c, fzK_i, fzK_o, vFz_c, trK_b, trK_n, trK_i, trK_s, trK_l, trK_t, vTr_c, fn_r0, fn_r1, fn_r2, fn_r3, aliD_1, aliD_2, aliD_3, aliD_4, aliD_5, aliD_6, aliD_7, aliD_8, forL_0, forL_1, boolP_b, lenG_s, lenG_l, lenG_t, intG_i, intG_b, intG_s, listG_l, listG_t, tupG_l, tupG_t, gAdd_i, gAdd_s, gAdd_l, gAdd_t, gAdd_b, gInt_i, gInt0_i, gCmp_i, gCmp_s, gEq_ii, gEq_ss, gEq_bb, gEq_is, gEq_si, gEq_nn, gEq_ni, gEq_ns, gEq_nb, gEq_in, gEq_sn, gEq_bn, gEq_ll, gEq_tt, gIs_n, gIs_bb, gIs_ib, gIn_l, gIn_t, gIn_s, gIx_l, gIx_t, gIx_s, gSl_s, gSl_l, gSl_t, gMulT_c, opt_s, opt_n, go_ok, go_err]
    exact h
  · rename_i d _
    split at h
    · rename_i ha
      unfold t_need_word
      cases d <;> cases ha
      all_goals (simp only [okSet_s, okSet_0, okSet_i, okSet_o, okSet_j, notRef, on1, isiG, askB, onB, tyD, isi1, isiA, btSub, absG, strG, max2G, min2G, hasO, lendAll, lendP, frz, scD, ng, isNon, swapG, indexG, joinG, splitG, imAt, atL, fldD, fldX, putD, insD, fn_run, hideO, ends0, ends1, atH, st0, st1, gEq, gNe, gSub, gMul, gFdiv, gMod, gPow, gLt, gLe, gGt, gGe, ipG_add, ipG_sub, List.getElem?_cons_zero, List.getElem?_cons_succ, List.getElem?_nil, List.set_cons_zero, List.set_cons_succ, List.map_cons, List.map_nil, List.length_cons, List.length_nil, List.replicate_zero, List.replicate_succ, List.cons_append, List.nil_append, List.append_nil, List.append_assoc, List.head?_cons, List.lookup, List.contains_cons, List.contains_nil, List.all_cons, List.all_nil, List.any_cons, List.any_nil, Bool.true_and, Bool.and_true, Bool.false_and, Bool.and_false, Bool.or_true, Bool.true_or, Bool.or_false, Bool.false_or, Bool.not_true, Bool.not_false, Bool.and_self, decide_eq_true_eq, decide_true, decide_false, Bool.false_eq_true, if_true, if_false, ite_true, ite_false, reduceIte, reduceCtorEq, Bool.not_eq_true, Bool.not_eq_true', decide_eq_false_iff_not, not_true_eq_false, not_false_eq_true, true_and, and_true, false_and, and_false, Nat.add_zero, Nat.zero_add, Nat.reduceAdd, Nat.reduceSub, Nat.reduceLT, Nat.reduceLeDiff, Nat.sub_self, beq_iff_eq, BEq.rfl, beq_self_eq_true, anc, cflds, Option.map_some, Option.map_none, lendP_j, wipeP, elemsD, prePick, postPick, nd_run, pick_run, draw_run, wd, vVar_c, vC_c, vIm_c, vNil_c, vCons_c, vBin_c, vBl_c, vAnd_c, vOr_c, vNot_c, vAndV_c, vOrV_c, vNotV_c, vIfE_c, vLend_c, vLendT_c, vNext_c, vSeq_c, vDrop_c, vRet_c, vRetO_c, vIf_c, vSet_c, vSetO_c, vgName_c, vgNil_c, vgCons_c, vgTup_c, vAsg_c, vPar_c, vAug_c, vAug2_c, vFor_c, vCall_c, vCallR_c, vNeg_c, vChain_c, vPn_c, vPs_c, vSl_c, vRevS_c, vLst_c, vTup_c, vCB_c, vM0_c, vM1_c, vFld_c, vFldX_c, vFldO_c, vPutO_c, vApp_c, vPop_c, vExt_c, vPutI_c, vItL_c, vItT_c, vItS_c, vRng1_c, vRng2_c, vEnumL_c, vEnumS_c, vZip_c, vYes_c, vLc_c, vRaise_c, vMake_c, vMakeK_c, vCallN_c, vMeth_c, vMethN_c, vOwn2_c, vBlO_c, vOwnN_c, vOwn1_c, vLenO_c, vStrO_c, vItO_c, vFn_c, vRef_c, vMk_c, vMkK_c, vHeard_c, vEqA_c, vMulA_c, fzK_i, fzK_o, vFz_c, trK_b, trK_n, trK_i, trK_s, trK_l, trK_t, vTr_c, fn_r0, fn_r1, fn_r2, fn_r3, aliD_1, aliD_2, aliD_3, aliD_4, aliD_5, aliD_6, aliD_7, aliD_8, forL_0, forL_1, boolP_b, lenG_s, lenG_l, lenG_t, intG_i, intG_b, intG_s, listG_l, listG_t, tupG_l, tupG_t, gAdd_i, gAdd_s, gAdd_l, gAdd_t, gAdd_b, gInt_i, gInt0_i, gCmp_i, gCmp_s, gEq_ii, gEq_ss, gEq_bb, gEq_is, gEq_si, gEq_nn, gEq_ni, gEq_ns, gEq_nb, gEq_in, gEq_sn, gEq_bn, gEq_ll, gEq_tt, gIs_n, gIs_bb, gIs_ib, gIn_l, gIn_t, gIn_s, gIx_l, gIx_t, gIx_s, gSl_s, gSl_l, gSl_t, gMulT_c, opt_s, opt_n, go_ok, go_err]; exact h)
    · exact h.elim
  · exact h.elim
/-! ### undone, struck, product -/
def f_undone (ds : List D) : Res := match ds with
  | [.str l] => if firstOdd l = none ∧ l.length ≤ 100000 then .ok (.imm (.str (back l))) else .bad
  | _ => .bad
theorem len_undone : ∀ ds, f_undone ds ≠ .bad → ds.length = 1 := by
  intro ds h
  unfold f_undone at h
  split at h <;> first | rfl | exact absurd rfl h
def t_undone : VS := (vRet (vFz (vM0 swapG (vRevS (vVar 0)))))
theorem ob_undone : Ob0 t_undone 1 f_undone := by
  intro ds Q E h
  unfold f_undone at h
  split at h
  · rename_i l
    split at h
    · rename_i hl
      have hL := allL_of_none hl.1
      unfold t_undone
      simp only [okSet_s, okSet_0, okSet_i, okSet_o, okSet_j, notRef, on1, isiG, askB, onB, tyD, isi1, isiA, btSub, absG, strG, max2G, min2G, hasO, lendAll, lendP, frz, scD, ng, isNon, swapG, indexG, joinG, splitG, imAt, atL, fldD, fldX, putD, insD, fn_run, hideO, ends0, ends1, atH, st0, st1, gEq, gNe, gSub, gMul, gFdiv, gMod, gPow, gLt, gLe, gGt, gGe, ipG_add, ipG_sub, List.getElem?_cons_zero, List.getElem?_cons_succ, List.getElem?_nil, List.set_cons_zero, List.set_cons_succ, List.map_cons, List.map_nil, List.length_cons, List.length_nil, List.replicate_zero, List.replicate_succ, List.cons_append, List.nil_append, List.append_nil, List.append_assoc, List.head?_cons, List.lookup, List.contains_cons, List.contains_nil, List.all_cons, List.all_nil, List.any_cons, List.any_nil, Bool.true_and, Bool.and_true, Bool.false_and, Bool.and_false, Bool.or_true, Bool.true_or, Bool.or_false, Bool.false_or, Bool.not_true, Bool.not_false, Bool.and_self, decide_eq_true_eq, decide_true, decide_false, Bool.false_eq_true, if_true, if_false, ite_true, ite_false, reduceIte, reduceCtorEq, Bool.not_eq_true, Bool.not_eq_true', decide_eq_false_iff_not, not_true_eq_false, not_false_eq_true, true_and, and_true, false_and, and_false, Nat.add_zero, Nat.zero_add, Nat.reduceAdd, Nat.reduceSub, Nat.reduceLT, Nat.reduceLeDiff, Nat.sub_self, beq_iff_eq, BEq.rfl, beq_self_eq_true, anc, cflds, Option.map_some, Option.map_none, lendP_j, wipeP, elemsD, prePick, postPick, nd_run, pick_run, draw_run, wd, vVar_c, vC_c, vIm_c, vNil_c, vCons_c, vBin_c, vBl_c, vAnd_c, vOr_c, vNot_c, vAndV_c, vOrV_c, vNotV_c, vIfE_c, vLend_c, vLendT_c, vNext_c, vSeq_c, vDrop_c, vRet_c, vRetO_c, vIf_c, vSet_c, vSetO_c, vgName_c, vgNil_c, vgCons_c, vgTup_c, vAsg_c, vPar_c, vAug_c, vAug2_c, vFor_c, vCall_c, vCallR_c, vNeg_c, vChain_c, vPn_c, vPs_c, vSl_c, vRevS_c, vLst_c, vTup_c, vCB_c, vM0_c, vM1_c, vFld_c, vFldX_c, vFldO_c, vPutO_c, vApp_c, vPop_c, vExt_c, vPutI_c, vItL_c, vItT_c, vItS_c, vRng1_c, vRng2_c, vEnumL_c, vEnumS_c, vZip_c, vYes_c, vLc_c, vRaise_c, vMake_c, vMakeK_c, vCallN_c, vMeth_c, vMethN_c, vOwn2_c, vBlO_c, vOwnN_c, vOwn1_c, vLenO_c, vStrO_c, vItO_c, vFn_c, vRef_c, vMk_c, vMkK_c, vHeard_c, vEqA_c, vMulA_c, fzK_i, fzK_o, vFz_c, trK_b, trK_n, trK_i, trK_s, trK_l, trK_t, vTr_c, fn_r0, fn_r1, fn_r2, fn_r3, aliD_1, aliD_2, aliD_3, aliD_4, aliD_5, aliD_6, aliD_7, aliD_8, forL_0, forL_1, boolP_b, lenG_s, lenG_l, lenG_t, intG_i, intG_b, intG_s, listG_l, listG_t, tupG_l, tupG_t, gAdd_i, gAdd_s, gAdd_l, gAdd_t, gAdd_b, gInt_i, gInt0_i, gCmp_i, gCmp_s, gEq_ii, gEq_ss, gEq_bb, gEq_is, gEq_si, gEq_nn, gEq_ni, gEq_ns, gEq_nb, gEq_in, gEq_sn, gEq_bn, gEq_ll, gEq_tt, gIs_n, gIs_bb, gIs_ib, gIn_l, gIn_t, gIn_s, gIx_l, gIx_t, gIx_s, gSl_s, gSl_l, gSl_t, gMulT_c, opt_s, opt_n, go_ok, go_err]
      refine ⟨by omega, fun c hc => hL c (List.mem_reverse.mp hc), by simp; omega, ?_⟩
      have e : l.reverse.map und = back l := by unfold back; rw [List.map_reverse]
      rw [e]
      exact h
    · exact h.elim
  · exact h.elim
def f_struck (ds : List D) : Res := match ds with
  | [.str l] => if firstOdd l = none ∧ l.length ≤ 100000 then .ok (.imm (.str (red l))) else .bad
  | _ => .bad
theorem len_struck : ∀ ds, f_struck ds ≠ .bad → ds.length = 1 := by
  intro ds h
  unfold f_struck at h
  split at h <;> first | rfl | exact absurd rfl h
def t_struck : VS := (vSeq (vSetO 1 (vLst vNil))
  (vSeq (vFor (vItS (vVar 0)) (vgName 2)
  (vIf (vAnd (vLendT (vBl (vBin gNe (vVar 1) (vFz (vLst vNil))))) (vLendT (vBl (vBin gEq (vBin gIx (vVar 1) (vNeg (vC (.int 1)))) (vFz (vM0 swapG (vVar 2)))))))
  (vDrop (vPop 1))
  (vDrop (vApp 1 (vVar 2)))))
  (vRet (vFz (vM1 joinG (vC (.str [])) (vVar 1))))))
theorem ob_struck : Ob0 t_struck 3 f_struck := by
  intro ds Q E h
  unfold f_struck at h
  split at h
  · rename_i l
    split at h
    · rename_i hl
      have hL := allL_of_none hl.1
      unfold t_struck
      simp only [okSet_s, okSet_0, okSet_i, okSet_o, okSet_j, notRef, on1, isiG, askB, onB, tyD, isi1, isiA, btSub, absG, strG, max2G, min2G, hasO, lendAll, lendP, frz, scD, ng, isNon, swapG, indexG, joinG, splitG, imAt, atL, fldD, fldX, putD, insD, fn_run, hideO, ends0, ends1, atH, st0, st1, gEq, gNe, gSub, gMul, gFdiv, gMod, gPow, gLt, gLe, gGt, gGe, ipG_add, ipG_sub, List.getElem?_cons_zero, List.getElem?_cons_succ, List.getElem?_nil, List.set_cons_zero, List.set_cons_succ, List.map_cons, List.map_nil, List.length_cons, List.length_nil, List.replicate_zero, List.replicate_succ, List.cons_append, List.nil_append, List.append_nil, List.append_assoc, List.head?_cons, List.lookup, List.contains_cons, List.contains_nil, List.all_cons, List.all_nil, List.any_cons, List.any_nil, Bool.true_and, Bool.and_true, Bool.false_and, Bool.and_false, Bool.or_true, Bool.true_or, Bool.or_false, Bool.false_or, Bool.not_true, Bool.not_false, Bool.and_self, decide_eq_true_eq, decide_true, decide_false, Bool.false_eq_true, if_true, if_false, ite_true, ite_false, reduceIte, reduceCtorEq, Bool.not_eq_true, Bool.not_eq_true', decide_eq_false_iff_not, not_true_eq_false, not_false_eq_true, true_and, and_true, false_and, and_false, Nat.add_zero, Nat.zero_add, Nat.reduceAdd, Nat.reduceSub, Nat.reduceLT, Nat.reduceLeDiff, Nat.sub_self, beq_iff_eq, BEq.rfl, beq_self_eq_true, anc, cflds, Option.map_some, Option.map_none, lendP_j, wipeP, elemsD, prePick, postPick, nd_run, pick_run, draw_run, wd, vVar_c, vC_c, vIm_c, vNil_c, vCons_c, vBin_c, vBl_c, vAnd_c, vOr_c, vNot_c, vAndV_c, vOrV_c, vNotV_c, vIfE_c, vLend_c, vLendT_c, vNext_c, vSeq_c, vDrop_c, vRet_c, vRetO_c, vIf_c, vSet_c, vSetO_c, vgName_c, vgNil_c, vgCons_c, vgTup_c, vAsg_c, vPar_c, vAug_c, vAug2_c, vFor_c, vCall_c, vCallR_c, vNeg_c, vChain_c, vPn_c, vPs_c, vSl_c, vRevS_c, vLst_c, vTup_c, vCB_c, vM0_c, vM1_c, vFld_c, vFldX_c, vFldO_c, vPutO_c, vApp_c, vPop_c, vExt_c, vPutI_c, vItL_c, vItT_c, vItS_c, vRng1_c, vRng2_c, vEnumL_c, vEnumS_c, vZip_c, vYes_c, vLc_c, vRaise_c, vMake_c, vMakeK_c, vCallN_c, vMeth_c, vMethN_c, vOwn2_c, vBlO_c, vOwnN_c, vOwn1_c, vLenO_c, vStrO_c, vItO_c, vFn_c, vRef_c, vMk_c, vMkK_c, vHeard_c, vEqA_c, vMulA_c, fzK_i, fzK_o, vFz_c, trK_b, trK_n, trK_i, trK_s, trK_l, trK_t, vTr_c, fn_r0, fn_r1, fn_r2, fn_r3, aliD_1, aliD_2, aliD_3, aliD_4, aliD_5, aliD_6, aliD_7, aliD_8, forL_0, forL_1, boolP_b, lenG_s, lenG_l, lenG_t, intG_i, intG_b, intG_s, listG_l, listG_t, tupG_l, tupG_t, gAdd_i, gAdd_s, gAdd_l, gAdd_t, gAdd_b, gInt_i, gInt0_i, gCmp_i, gCmp_s, gEq_ii, gEq_ss, gEq_bb, gEq_is, gEq_si, gEq_nn, gEq_ni, gEq_ns, gEq_nb, gEq_in, gEq_sn, gEq_bn, gEq_ll, gEq_tt, gIs_n, gIs_bb, gIs_ib, gIn_l, gIn_t, gIn_s, gIx_l, gIx_t, gIx_s, gSl_s, gSl_l, gSl_t, gMulT_c, opt_s, opt_n, go_ok, go_err]
      refine forL_ind (st := fun (a : List Nat × Option D) => [some (.imm (.str l)), some (.own false (.lst (sgs a.1))), jk a.2]) (I := fun ds a => ∃ r, ds = sgs r ∧ AllL r ∧ AllL a.1 ∧ a.1.length + r.length ≤ l.length ∧ r.foldl push a.1 = red l) ?_ ?_ (sgs l) ([], none) ⟨l, rfl, hL, (fun _ z => nomatch z), by simp, rfl⟩
      · rintro ⟨t, u⟩ ⟨r, hr, _, _, hle, he⟩
        cases r with
        | cons c r => cases hr
        | nil =>
          simp only [okSet_s, okSet_0, okSet_i, okSet_o, okSet_j, notRef, on1, isiG, askB, onB, tyD, isi1, isiA, btSub, absG, strG, max2G, min2G, hasO, lendAll, lendP, frz, scD, ng, isNon, swapG, indexG, joinG, splitG, imAt, atL, fldD, fldX, putD, insD, fn_run, hideO, ends0, ends1, atH, st0, st1, gEq, gNe, gSub, gMul, gFdiv, gMod, gPow, gLt, gLe, gGt, gGe, ipG_add, ipG_sub, List.getElem?_cons_zero, List.getElem?_cons_succ, List.getElem?_nil, List.set_cons_zero, List.set_cons_succ, List.map_cons, List.map_nil, List.length_cons, List.length_nil, List.replicate_zero, List.replicate_succ, List.cons_append, List.nil_append, List.append_nil, List.append_assoc, List.head?_cons, List.lookup, List.contains_cons, List.contains_nil, List.all_cons, List.all_nil, List.any_cons, List.any_nil, Bool.true_and, Bool.and_true, Bool.false_and, Bool.and_false, Bool.or_true, Bool.true_or, Bool.or_false, Bool.false_or, Bool.not_true, Bool.not_false, Bool.and_self, decide_eq_true_eq, decide_true, decide_false, Bool.false_eq_true, if_true, if_false, ite_true, ite_false, reduceIte, reduceCtorEq, Bool.not_eq_true, Bool.not_eq_true', decide_eq_false_iff_not, not_true_eq_false, not_false_eq_true, true_and, and_true, false_and, and_false, Nat.add_zero, Nat.zero_add, Nat.reduceAdd, Nat.reduceSub, Nat.reduceLT, Nat.reduceLeDiff, Nat.sub_self, beq_iff_eq, BEq.rfl, beq_self_eq_true, anc, cflds, Option.map_some, Option.map_none, lendP_j, wipeP, elemsD, prePick, postPick, nd_run, pick_run, draw_run, wd, vVar_c, vC_c, vIm_c, vNil_c, vCons_c, vBin_c, vBl_c, vAnd_c, vOr_c, vNot_c, vAndV_c, vOrV_c, vNotV_c, vIfE_c, vLend_c, vLendT_c, vNext_c, vSeq_c, vDrop_c, vRet_c, vRetO_c, vIf_c, vSet_c, vSetO_c, vgName_c, vgNil_c, vgCons_c, vgTup_c, vAsg_c, vPar_c, vAug_c, vAug2_c, vFor_c, vCall_c, vCallR_c, vNeg_c, vChain_c, vPn_c, vPs_c, vSl_c, vRevS_c, vLst_c, vTup_c, vCB_c, vM0_c, vM1_c, vFld_c, vFldX_c, vFldO_c, vPutO_c, vApp_c, vPop_c, vExt_c, vPutI_c, vItL_c, vItT_c, vItS_c, vRng1_c, vRng2_c, vEnumL_c, vEnumS_c, vZip_c, vYes_c, vLc_c, vRaise_c, vMake_c, vMakeK_c, vCallN_c, vMeth_c, vMethN_c, vOwn2_c, vBlO_c, vOwnN_c, vOwn1_c, vLenO_c, vStrO_c, vItO_c, vFn_c, vRef_c, vMk_c, vMkK_c, vHeard_c, vEqA_c, vMulA_c, fzK_i, fzK_o, vFz_c, trK_b, trK_n, trK_i, trK_s, trK_l, trK_t, vTr_c, fn_r0, fn_r1, fn_r2, fn_r3, aliD_1, aliD_2, aliD_3, aliD_4, aliD_5, aliD_6, aliD_7, aliD_8, forL_0, forL_1, boolP_b, lenG_s, lenG_l, lenG_t, intG_i, intG_b, intG_s, listG_l, listG_t, tupG_l, tupG_t, gAdd_i, gAdd_s, gAdd_l, gAdd_t, gAdd_b, gInt_i, gInt0_i, gCmp_i, gCmp_s, gEq_ii, gEq_ss, gEq_bb, gEq_is, gEq_si, gEq_nn, gEq_ni, gEq_ns, gEq_nb, gEq_in, gEq_sn, gEq_bn, gEq_ll, gEq_tt, gIs_n, gIs_bb, gIs_ib, gIn_l, gIn_t, gIn_s, gIx_l, gIx_t, gIx_s, gSl_s, gSl_l, gSl_t, gMulT_c, opt_s, opt_n, go_ok, go_err, strsOf_sgs, glue_sgs]
          simp only [List.foldl_nil] at he
          subst he
          refine ⟨?_, h⟩
          rw [sum_sgs]
          simp at hle
          simp
          omega
      · rintro d ds ⟨t, u⟩ ⟨r, hr, h1, h2, hle, he⟩ K hK
        cases r with
        | nil => cases hr
        | cons c r =>
          cases hr
          have hc : isL c = true := h1 c List.mem_cons_self
          have hr : AllL r := fun x hx => h1 x (List.mem_cons_of_mem _ hx)
          have hp : AllL (push t c) := by
            unfold push
            split
            · exact fun x hx => h2 x ((List.dropLast_sublist _).subset hx)
            · intro x hx
              rcases List.mem_append.mp hx with q | q
              · exact h2 x q
              · simp at q; rw [q]; exact hc
          have hpl : (push t c).length + r.length ≤ l.length := by
            have := push_length t c
            simp at hle
            omega
          simp only [okSet_s, okSet_0, okSet_i, okSet_o, okSet_j, notRef, on1, isiG, askB, onB, tyD, isi1, isiA, btSub, absG, strG, max2G, min2G, hasO, lendAll, lendP, frz, scD, ng, isNon, swapG, indexG, joinG, splitG, imAt, atL, fldD, fldX, putD, insD, fn_run, hideO, ends0, ends1, atH, st0, st1, gEq, gNe, gSub, gMul, gFdiv, gMod, gPow, gLt, gLe, gGt, gGe, ipG_add, ipG_sub, List.getElem?_cons_zero, List.getElem?_cons_succ, List.getElem?_nil, List.set_cons_zero, List.set_cons_succ, List.map_cons, List.map_nil, List.length_cons, List.length_nil, List.replicate_zero, List.replicate_succ, List.cons_append, List.nil_append, List.append_nil, List.append_assoc, List.head?_cons, List.lookup, List.contains_cons, List.contains_nil, List.all_cons, List.all_nil, List.any_cons, List.any_nil, Bool.true_and, Bool.and_true, Bool.false_and, Bool.and_false, Bool.or_true, Bool.true_or, Bool.or_false, Bool.false_or, Bool.not_true, Bool.not_false, Bool.and_self, decide_eq_true_eq, decide_true, decide_false, Bool.false_eq_true, if_true, if_false, ite_true, ite_false, reduceIte, reduceCtorEq, Bool.not_eq_true, Bool.not_eq_true', decide_eq_false_iff_not, not_true_eq_false, not_false_eq_true, true_and, and_true, false_and, and_false, Nat.add_zero, Nat.zero_add, Nat.reduceAdd, Nat.reduceSub, Nat.reduceLT, Nat.reduceLeDiff, Nat.sub_self, beq_iff_eq, BEq.rfl, beq_self_eq_true, anc, cflds, Option.map_some, Option.map_none, lendP_j, wipeP, elemsD, prePick, postPick, nd_run, pick_run, draw_run, wd, vVar_c, vC_c, vIm_c, vNil_c, vCons_c, vBin_c, vBl_c, vAnd_c, vOr_c, vNot_c, vAndV_c, vOrV_c, vNotV_c, vIfE_c, vLend_c, vLendT_c, vNext_c, vSeq_c, vDrop_c, vRet_c, vRetO_c, vIf_c, vSet_c, vSetO_c, vgName_c, vgNil_c, vgCons_c, vgTup_c, vAsg_c, vPar_c, vAug_c, vAug2_c, vFor_c, vCall_c, vCallR_c, vNeg_c, vChain_c, vPn_c, vPs_c, vSl_c, vRevS_c, vLst_c, vTup_c, vCB_c, vM0_c, vM1_c, vFld_c, vFldX_c, vFldO_c, vPutO_c, vApp_c, vPop_c, vExt_c, vPutI_c, vItL_c, vItT_c, vItS_c, vRng1_c, vRng2_c, vEnumL_c, vEnumS_c, vZip_c, vYes_c, vLc_c, vRaise_c, vMake_c, vMakeK_c, vCallN_c, vMeth_c, vMethN_c, vOwn2_c, vBlO_c, vOwnN_c, vOwn1_c, vLenO_c, vStrO_c, vItO_c, vFn_c, vRef_c, vMk_c, vMkK_c, vHeard_c, vEqA_c, vMulA_c, fzK_i, fzK_o, vFz_c, trK_b, trK_n, trK_i, trK_s, trK_l, trK_t, vTr_c, fn_r0, fn_r1, fn_r2, fn_r3, aliD_1, aliD_2, aliD_3, aliD_4, aliD_5, aliD_6, aliD_7, aliD_8, forL_0, forL_1, boolP_b, lenG_s, lenG_l, lenG_t, intG_i, intG_b, intG_s, listG_l, listG_t, tupG_l, tupG_t, gAdd_i, gAdd_s, gAdd_l, gAdd_t, gAdd_b, gInt_i, gInt0_i, gCmp_i, gCmp_s, gEq_ii, gEq_ss, gEq_bb, gEq_is, gEq_si, gEq_nn, gEq_ni, gEq_ns, gEq_nb, gEq_in, gEq_sn, gEq_bn, gEq_ll, gEq_tt, gIs_n, gIs_bb, gIs_ib, gIn_l, gIn_t, gIn_s, gIx_l, gIx_t, gIx_s, gSl_s, gSl_l, gSl_t, gMulT_c, opt_s, opt_n, go_ok, go_err, eqD_lnil, atI_m1, sgs_last]
          refine ⟨okEq_sgs t [], ?_⟩
          have e0 : (sgs t).isEmpty = t.isEmpty := by cases t <;> rfl
          rw [e0]
          cases hl : t.getLast? with
          | none =>
            have : t = [] := by simpa using hl
            subst this
            simp only [okSet_s, okSet_0, okSet_i, okSet_o, okSet_j, notRef, on1, isiG, askB, onB, tyD, isi1, isiA, btSub, absG, strG, max2G, min2G, hasO, lendAll, lendP, frz, scD, ng, isNon, swapG, indexG, joinG, splitG, imAt, atL, fldD, fldX, putD, insD, fn_run, hideO, ends0, ends1, atH, st0, st1, gEq, gNe, gSub, gMul, gFdiv, gMod, gPow, gLt, gLe, gGt, gGe, ipG_add, ipG_sub, List.getElem?_cons_zero, List.getElem?_cons_succ, List.getElem?_nil, List.set_cons_zero, List.set_cons_succ, List.map_cons, List.map_nil, List.length_cons, List.length_nil, List.replicate_zero, List.replicate_succ, List.cons_append, List.nil_append, List.append_nil, List.append_assoc, List.head?_cons, List.lookup, List.contains_cons, List.contains_nil, List.all_cons, List.all_nil, List.any_cons, List.any_nil, Bool.true_and, Bool.and_true, Bool.false_and, Bool.and_false, Bool.or_true, Bool.true_or, Bool.or_false, Bool.false_or, Bool.not_true, Bool.not_false, Bool.and_self, decide_eq_true_eq, decide_true, decide_false, Bool.false_eq_true, if_true, if_false, ite_true, ite_false, reduceIte, reduceCtorEq, Bool.not_eq_true, Bool.not_eq_true', decide_eq_false_iff_not, not_true_eq_false, not_false_eq_true, true_and, and_true, false_and, and_false, Nat.add_zero, Nat.zero_add, Nat.reduceAdd, Nat.reduceSub, Nat.reduceLT, Nat.reduceLeDiff, Nat.sub_self, beq_iff_eq, BEq.rfl, beq_self_eq_true, anc, cflds, Option.map_some, Option.map_none, lendP_j, wipeP, elemsD, prePick, postPick, nd_run, pick_run, draw_run, wd, vVar_c, vC_c, vIm_c, vNil_c, vCons_c, vBin_c, vBl_c, vAnd_c, vOr_c, vNot_c, vAndV_c, vOrV_c, vNotV_c, vIfE_c, vLend_c, vLendT_c, vNext_c, vSeq_c, vDrop_c, vRet_c, vRetO_c, vIf_c, vSet_c, vSetO_c, vgName_c, vgNil_c, vgCons_c, vgTup_c, vAsg_c, vPar_c, vAug_c, vAug2_c, vFor_c, vCall_c, vCallR_c, vNeg_c, vChain_c, vPn_c, vPs_c, vSl_c, vRevS_c, vLst_c, vTup_c, vCB_c, vM0_c, vM1_c, vFld_c, vFldX_c, vFldO_c, vPutO_c, vApp_c, vPop_c, vExt_c, vPutI_c, vItL_c, vItT_c, vItS_c, vRng1_c, vRng2_c, vEnumL_c, vEnumS_c, vZip_c, vYes_c, vLc_c, vRaise_c, vMake_c, vMakeK_c, vCallN_c, vMeth_c, vMethN_c, vOwn2_c, vBlO_c, vOwnN_c, vOwn1_c, vLenO_c, vStrO_c, vItO_c, vFn_c, vRef_c, vMk_c, vMkK_c, vHeard_c, vEqA_c, vMulA_c, fzK_i, fzK_o, vFz_c, trK_b, trK_n, trK_i, trK_s, trK_l, trK_t, vTr_c, fn_r0, fn_r1, fn_r2, fn_r3, aliD_1, aliD_2, aliD_3, aliD_4, aliD_5, aliD_6, aliD_7, aliD_8, forL_0, forL_1, boolP_b, lenG_s, lenG_l, lenG_t, intG_i, intG_b, intG_s, listG_l, listG_t, tupG_l, tupG_t, gAdd_i, gAdd_s, gAdd_l, gAdd_t, gAdd_b, gInt_i, gInt0_i, gCmp_i, gCmp_s, gEq_ii, gEq_ss, gEq_bb, gEq_is, gEq_si, gEq_nn, gEq_ni, gEq_ns, gEq_nb, gEq_in, gEq_sn, gEq_bn, gEq_ll, gEq_tt, gIs_n, gIs_bb, gIs_ib, gIn_l, gIn_t, gIn_s, gIx_l, gIx_t, gIx_s, gSl_s, gSl_l, gSl_t, gMulT_c, opt_s, opt_n, go_ok, go_err, List.isEmpty_nil, Option.map_none]
            refine ⟨by simp [sgs], ?_⟩
            exact hK ([c], some _) ⟨r, rfl, hr, by simpa [push] using hp, by simpa [push] using hpl, by simpa [push] using he⟩
          | some e =>
            have hne : t.isEmpty = false := by cases t with
              | nil => cases hl
              | cons => rfl
            rw [hne]
            simp only [okSet_s, okSet_0, okSet_i, okSet_o, okSet_j, notRef, on1, isiG, askB, onB, tyD, isi1, isiA, btSub, absG, strG, max2G, min2G, hasO, lendAll, lendP, frz, scD, ng, isNon, swapG, indexG, joinG, splitG, imAt, atL, fldD, fldX, putD, insD, fn_run, hideO, ends0, ends1, atH, st0, st1, gEq, gNe, gSub, gMul, gFdiv, gMod, gPow, gLt, gLe, gGt, gGe, ipG_add, ipG_sub, List.getElem?_cons_zero, List.getElem?_cons_succ, List.getElem?_nil, List.set_cons_zero, List.set_cons_succ, List.map_cons, List.map_nil, List.length_cons, List.length_nil, List.replicate_zero, List.replicate_succ, List.cons_append, List.nil_append, List.append_nil, List.append_assoc, List.head?_cons, List.lookup, List.contains_cons, List.contains_nil, List.all_cons, List.all_nil, List.any_cons, List.any_nil, Bool.true_and, Bool.and_true, Bool.false_and, Bool.and_false, Bool.or_true, Bool.true_or, Bool.or_false, Bool.false_or, Bool.not_true, Bool.not_false, Bool.and_self, decide_eq_true_eq, decide_true, decide_false, Bool.false_eq_true, if_true, if_false, ite_true, ite_false, reduceIte, reduceCtorEq, Bool.not_eq_true, Bool.not_eq_true', decide_eq_false_iff_not, not_true_eq_false, not_false_eq_true, true_and, and_true, false_and, and_false, Nat.add_zero, Nat.zero_add, Nat.reduceAdd, Nat.reduceSub, Nat.reduceLT, Nat.reduceLeDiff, Nat.sub_self, beq_iff_eq, BEq.rfl, beq_self_eq_true, anc, cflds, Option.map_some, Option.map_none, lendP_j, wipeP, elemsD, prePick, postPick, nd_run, pick_run, draw_run, wd, vVar_c, vC_c, vIm_c, vNil_c, vCons_c, vBin_c, vBl_c, vAnd_c, vOr_c, vNot_c, vAndV_c, vOrV_c, vNotV_c, vIfE_c, vLend_c, vLendT_c, vNext_c, vSeq_c, vDrop_c, vRet_c, vRetO_c, vIf_c, vSet_c, vSetO_c, vgName_c, vgNil_c, vgCons_c, vgTup_c, vAsg_c, vPar_c, vAug_c, vAug2_c, vFor_c, vCall_c, vCallR_c, vNeg_c, vChain_c, vPn_c, vPs_c, vSl_c, vRevS_c, vLst_c, vTup_c, vCB_c, vM0_c, vM1_c, vFld_c, vFldX_c, vFldO_c, vPutO_c, vApp_c, vPop_c, vExt_c, vPutI_c, vItL_c, vItT_c, vItS_c, vRng1_c, vRng2_c, vEnumL_c, vEnumS_c, vZip_c, vYes_c, vLc_c, vRaise_c, vMake_c, vMakeK_c, vCallN_c, vMeth_c, vMethN_c, vOwn2_c, vBlO_c, vOwnN_c, vOwn1_c, vLenO_c, vStrO_c, vItO_c, vFn_c, vRef_c, vMk_c, vMkK_c, vHeard_c, vEqA_c, vMulA_c, fzK_i, fzK_o, vFz_c, trK_b, trK_n, trK_i, trK_s, trK_l, trK_t, vTr_c, fn_r0, fn_r1, fn_r2, fn_r3, aliD_1, aliD_2, aliD_3, aliD_4, aliD_5, aliD_6, aliD_7, aliD_8, forL_0, forL_1, boolP_b, lenG_s, lenG_l, lenG_t, intG_i, intG_b, intG_s, listG_l, listG_t, tupG_l, tupG_t, gAdd_i, gAdd_s, gAdd_l, gAdd_t, gAdd_b, gInt_i, gInt0_i, gCmp_i, gCmp_s, gEq_ii, gEq_ss, gEq_bb, gEq_is, gEq_si, gEq_nn, gEq_ni, gEq_ns, gEq_nb, gEq_in, gEq_sn, gEq_bn, gEq_ll, gEq_tt, gIs_n, gIs_bb, gIs_ib, gIn_l, gIn_t, gIn_s, gIx_l, gIx_t, gIx_s, gSl_s, gSl_l, gSl_t, gMulT_c, opt_s, opt_n, go_ok, go_err, Option.map_some]
            refine ⟨fun x hx => by simp at hx; rw [hx]; exact hc, ?_⟩
            by_cases hu : e = und c
            · subst hu
              have hpu : push t c = t.dropLast := by unfold push; rw [if_pos hl]
              rw [hpu] at hp hpl
              simp only [okSet_s, okSet_0, okSet_i, okSet_o, okSet_j, notRef, on1, isiG, askB, onB, tyD, isi1, isiA, btSub, absG, strG, max2G, min2G, hasO, lendAll, lendP, frz, scD, ng, isNon, swapG, indexG, joinG, splitG, imAt, atL, fldD, fldX, putD, insD, fn_run, hideO, ends0, ends1, atH, st0, st1, gEq, gNe, gSub, gMul, gFdiv, gMod, gPow, gLt, gLe, gGt, gGe, ipG_add, ipG_sub, List.getElem?_cons_zero, List.getElem?_cons_succ, List.getElem?_nil, List.set_cons_zero, List.set_cons_succ, List.map_cons, List.map_nil, List.length_cons, List.length_nil, List.replicate_zero, List.replicate_succ, List.cons_append, List.nil_append, List.append_nil, List.append_assoc, List.head?_cons, List.lookup, List.contains_cons, List.contains_nil, List.all_cons, List.all_nil, List.any_cons, List.any_nil, Bool.true_and, Bool.and_true, Bool.false_and, Bool.and_false, Bool.or_true, Bool.true_or, Bool.or_false, Bool.false_or, Bool.not_true, Bool.not_false, Bool.and_self, decide_eq_true_eq, decide_true, decide_false, Bool.false_eq_true, if_true, if_false, ite_true, ite_false, reduceIte, reduceCtorEq, Bool.not_eq_true, Bool.not_eq_true', decide_eq_false_iff_not, not_true_eq_false, not_false_eq_true, true_and, and_true, false_and, and_false, Nat.add_zero, Nat.zero_add, Nat.reduceAdd, Nat.reduceSub, Nat.reduceLT, Nat.reduceLeDiff, Nat.sub_self, beq_iff_eq, BEq.rfl, beq_self_eq_true, anc, cflds, Option.map_some, Option.map_none, lendP_j, wipeP, elemsD, prePick, postPick, nd_run, pick_run, draw_run, wd, vVar_c, vC_c, vIm_c, vNil_c, vCons_c, vBin_c, vBl_c, vAnd_c, vOr_c, vNot_c, vAndV_c, vOrV_c, vNotV_c, vIfE_c, vLend_c, vLendT_c, vNext_c, vSeq_c, vDrop_c, vRet_c, vRetO_c, vIf_c, vSet_c, vSetO_c, vgName_c, vgNil_c, vgCons_c, vgTup_c, vAsg_c, vPar_c, vAug_c, vAug2_c, vFor_c, vCall_c, vCallR_c, vNeg_c, vChain_c, vPn_c, vPs_c, vSl_c, vRevS_c, vLst_c, vTup_c, vCB_c, vM0_c, vM1_c, vFld_c, vFldX_c, vFldO_c, vPutO_c, vApp_c, vPop_c, vExt_c, vPutI_c, vItL_c, vItT_c, vItS_c, vRng1_c, vRng2_c, vEnumL_c, vEnumS_c, vZip_c, vYes_c, vLc_c, vRaise_c, vMake_c, vMakeK_c, vCallN_c, vMeth_c, vMethN_c, vOwn2_c, vBlO_c, vOwnN_c, vOwn1_c, vLenO_c, vStrO_c, vItO_c, vFn_c, vRef_c, vMk_c, vMkK_c, vHeard_c, vEqA_c, vMulA_c, fzK_i, fzK_o, vFz_c, trK_b, trK_n, trK_i, trK_s, trK_l, trK_t, vTr_c, fn_r0, fn_r1, fn_r2, fn_r3, aliD_1, aliD_2, aliD_3, aliD_4, aliD_5, aliD_6, aliD_7, aliD_8, forL_0, forL_1, boolP_b, lenG_s, lenG_l, lenG_t, intG_i, intG_b, intG_s, listG_l, listG_t, tupG_l, tupG_t, gAdd_i, gAdd_s, gAdd_l, gAdd_t, gAdd_b, gInt_i, gInt0_i, gCmp_i, gCmp_s, gEq_ii, gEq_ss, gEq_bb, gEq_is, gEq_si, gEq_nn, gEq_ni, gEq_ns, gEq_nb, gEq_in, gEq_sn, gEq_bn, gEq_ll, gEq_tt, gIs_n, gIs_bb, gIs_ib, gIn_l, gIn_t, gIn_s, gIx_l, gIx_t, gIx_s, gSl_s, gSl_l, gSl_t, gMulT_c, opt_s, opt_n, go_ok, go_err]
              rw [sgs_dropLast]
              exact hK (t.dropLast, some _) ⟨r, rfl, hr, hp, hpl, by rw [← he, List.foldl_cons, hpu]⟩
            · have hpu : push t c = t ++ [c] := by unfold push; rw [if_neg (by rw [hl]; simpa using hu)]
              rw [hpu] at hp hpl
              rw [if_neg (by simpa using hu)]
              refine ⟨by rw [sgs_len]; simp at hle; omega, ?_⟩
              rw [show sgs t ++ [D.str [c]] = sgs (t ++ [c]) from (sgs_app t [c]).symm]
              exact hK (t ++ [c], some _) ⟨r, rfl, hr, hp, hpl, by rw [← he, List.foldl_cons, hpu]⟩
    · exact h.elim
  · exact h.elim
def f_product (ds : List D) : Res := match ds with
  | [.str l, .str m] => if firstBad l = none ∧ firstBad m = none ∧ l.length ≤ 100000 ∧ m.length ≤ 100000 then .ok (.imm (.str (red (l ++ m)))) else .bad
  | _ => .bad
theorem len_product : ∀ ds, f_product ds ≠ .bad → ds.length = 2 := by
  intro ds h
  unfold f_product at h
  split at h <;> first | rfl | exact absurd rfl h
def t_product : VS := (vSeq (vSet 2 (vC (.int 0)))
  (vSeq (vWhile (vAnd (vBl (vBin gLt (vVar 2) (vFz (vCB (on1 lenG) (vCons (vVar 0) vNil))))) (vAnd (vBl (vBin gLt (vVar 2) (vFz (vCB (on1 lenG) (vCons (vVar 1) vNil))))) (vBl (vBin gEq (vBin gIx (vVar 0) (vBin gSub (vBin gSub (vFz (vCB (on1 lenG) (vCons (vVar 0) vNil))) (vC (.int 1))) (vVar 2))) (vFz (vM0 swapG (vBin gIx (vVar 1) (vVar 2))))))))
  (vAug2 2 ipG_add (vC (.int 1))))
  (vRet (vBin gAdd (vSl (vVar 0) vPn (vPs (vBin gSub (vFz (vCB (on1 lenG) (vCons (vVar 0) vNil))) (vVar 2)))) (vSl (vVar 1) (vPs (vVar 2)) vPn)))))
theorem ob_product : Ob0 t_product 3 f_product := by
  intro ds Q E h
  unfold f_product at h
  split at h
  · rename_i l m
    split at h
    · rename_i hl
      obtain ⟨h1, h2, h3, h4⟩ := hl
      have gl := good_of_none h1
      have gm := good_of_none h2
      unfold t_product
      simp only [okSet_s, okSet_0, okSet_i, okSet_o, okSet_j, notRef, on1, isiG, askB, onB, tyD, isi1, isiA, btSub, absG, strG, max2G, min2G, hasO, lendAll, lendP, frz, scD, ng, isNon, swapG, indexG, joinG, splitG, imAt, atL, fldD, fldX, putD, insD, fn_run, hideO, ends0, ends1, atH, st0, st1, gEq, gNe, gSub, gMul, gFdiv, gMod, gPow, gLt, gLe, gGt, gGe, ipG_add, ipG_sub, List.getElem?_cons_zero, List.getElem?_cons_succ, List.getElem?_nil, List.set_cons_zero, List.set_cons_succ, List.map_cons, List.map_nil, List.length_cons, List.length_nil, List.replicate_zero, List.replicate_succ, List.cons_append, List.nil_append, List.append_nil, List.append_assoc, List.head?_cons, List.lookup, List.contains_cons, List.contains_nil, List.all_cons, List.all_nil, List.any_cons, List.any_nil, Bool.true_and, Bool.and_true, Bool.false_and, Bool.and_false, Bool.or_true, Bool.true_or, Bool.or_false, Bool.false_or, Bool.not_true, Bool.not_false, Bool.and_self, decide_eq_true_eq, decide_true, decide_false, Bool.false_eq_true, if_true, if_false, ite_true, ite_false, reduceIte, reduceCtorEq, Bool.not_eq_true, Bool.not_eq_true', decide_eq_false_iff_not, not_true_eq_false, not_false_eq_true, true_and, and_true, false_and, and_false, Nat.add_zero, Nat.zero_add, Nat.reduceAdd, Nat.reduceSub, Nat.reduceLT, Nat.reduceLeDiff, Nat.sub_self, beq_iff_eq, BEq.rfl, beq_self_eq_true, anc, cflds, Option.map_some, Option.map_none, lendP_j, wipeP, elemsD, prePick, postPick, nd_run, pick_run, draw_run, wd, vVar_c, vC_c, vIm_c, vNil_c, vCons_c, vBin_c, vBl_c, vAnd_c, vOr_c, vNot_c, vAndV_c, vOrV_c, vNotV_c, vIfE_c, vLend_c, vLendT_c, vNext_c, vSeq_c, vDrop_c, vRet_c, vRetO_c, vIf_c, vSet_c, vSetO_c, vgName_c, vgNil_c, vgCons_c, vgTup_c, vAsg_c, vPar_c, vAug_c, vAug2_c, vFor_c, vCall_c, vCallR_c, vNeg_c, vChain_c, vPn_c, vPs_c, vSl_c, vRevS_c, vLst_c, vTup_c, vCB_c, vM0_c, vM1_c, vFld_c, vFldX_c, vFldO_c, vPutO_c, vApp_c, vPop_c, vExt_c, vPutI_c, vItL_c, vItT_c, vItS_c, vRng1_c, vRng2_c, vEnumL_c, vEnumS_c, vZip_c, vYes_c, vLc_c, vRaise_c, vMake_c, vMakeK_c, vCallN_c, vMeth_c, vMethN_c, vOwn2_c, vBlO_c, vOwnN_c, vOwn1_c, vLenO_c, vStrO_c, vItO_c, vFn_c, vRef_c, vMk_c, vMkK_c, vHeard_c, vEqA_c, vMulA_c, fzK_i, fzK_o, vFz_c, trK_b, trK_n, trK_i, trK_s, trK_l, trK_t, vTr_c, fn_r0, fn_r1, fn_r2, fn_r3, aliD_1, aliD_2, aliD_3, aliD_4, aliD_5, aliD_6, aliD_7, aliD_8, forL_0, forL_1, boolP_b, lenG_s, lenG_l, lenG_t, intG_i, intG_b, intG_s, listG_l, listG_t, tupG_l, tupG_t, gAdd_i, gAdd_s, gAdd_l, gAdd_t, gAdd_b, gInt_i, gInt0_i, gCmp_i, gCmp_s, gEq_ii, gEq_ss, gEq_bb, gEq_is, gEq_si, gEq_nn, gEq_ni, gEq_ns, gEq_nb, gEq_in, gEq_sn, gEq_bn, gEq_ll, gEq_tt, gIs_n, gIs_bb, gIs_ib, gIn_l, gIn_t, gIn_s, gIx_l, gIx_t, gIx_s, gSl_s, gSl_l, gSl_t, gMulT_c, opt_s, opt_n, go_ok, go_err]
      refine while_ind (st := fun (j : Nat) => [some (.imm (.str l)), some (.imm (.str m)), some (.imm (.int j))]) (I := fun n j => Gone l m j ∧ n + j = l.length) l.length 0 ⟨gone_0 l m, rfl⟩ ?_
      rintro n j ⟨G, hn⟩ K hK
      obtain ⟨hj1, hj2⟩ := gone_le G
      have fin : (∀ a b, j < l.length → l[l.length - 1 - j]? = some a → m[j]? = some b → a ≠ und b) → l.length ≤ 16777216 ∧ l.length ≤ 16777216 ∧ m.length ≤ 16777216 ∧ (cutL l none (some ((l.length : Int) - j))).length + (cutL m (some (j : Int)) none).length ≤ 16777216 ∧ Q (PV.imm (D.str (cutL l none (some ((l.length : Int) - j)) ++ cutL m (some (j : Int)) none))) := fun hs => by
        obtain ⟨_, e⟩ := gone_end G gl gm hs
        have e1 : ((l.length : Int) - j).toNat = l.length - j := by omega
        rw [cut_to (by omega), cut_from (by omega), e1, Int.toNat_natCast, e]
        exact ⟨by omega, by omega, by omega, by rw [List.length_take, List.length_drop]; omega, h⟩
      simp only [okSet_s, okSet_0, okSet_i, okSet_o, okSet_j, notRef, on1, isiG, askB, onB, tyD, isi1, isiA, btSub, absG, strG, max2G, min2G, hasO, lendAll, lendP, frz, scD, ng, isNon, swapG, indexG, joinG, splitG, imAt, atL, fldD, fldX, putD, insD, fn_run, hideO, ends0, ends1, atH, st0, st1, gEq, gNe, gSub, gMul, gFdiv, gMod, gPow, gLt, gLe, gGt, gGe, ipG_add, ipG_sub, List.getElem?_cons_zero, List.getElem?_cons_succ, List.getElem?_nil, List.set_cons_zero, List.set_cons_succ, List.map_cons, List.map_nil, List.length_cons, List.length_nil, List.replicate_zero, List.replicate_succ, List.cons_append, List.nil_append, List.append_nil, List.append_assoc, List.head?_cons, List.lookup, List.contains_cons, List.contains_nil, List.all_cons, List.all_nil, List.any_cons, List.any_nil, Bool.true_and, Bool.and_true, Bool.false_and, Bool.and_false, Bool.or_true, Bool.true_or, Bool.or_false, Bool.false_or, Bool.not_true, Bool.not_false, Bool.and_self, decide_eq_true_eq, decide_true, decide_false, Bool.false_eq_true, if_true, if_false, ite_true, ite_false, reduceIte, reduceCtorEq, Bool.not_eq_true, Bool.not_eq_true', decide_eq_false_iff_not, not_true_eq_false, not_false_eq_true, true_and, and_true, false_and, and_false, Nat.add_zero, Nat.zero_add, Nat.reduceAdd, Nat.reduceSub, Nat.reduceLT, Nat.reduceLeDiff, Nat.sub_self, beq_iff_eq, BEq.rfl, beq_self_eq_true, anc, cflds, Option.map_some, Option.map_none, lendP_j, wipeP, elemsD, prePick, postPick, nd_run, pick_run, draw_run, wd, vVar_c, vC_c, vIm_c, vNil_c, vCons_c, vBin_c, vBl_c, vAnd_c, vOr_c, vNot_c, vAndV_c, vOrV_c, vNotV_c, vIfE_c, vLend_c, vLendT_c, vNext_c, vSeq_c, vDrop_c, vRet_c, vRetO_c, vIf_c, vSet_c, vSetO_c, vgName_c, vgNil_c, vgCons_c, vgTup_c, vAsg_c, vPar_c, vAug_c, vAug2_c, vFor_c, vCall_c, vCallR_c, vNeg_c, vChain_c, vPn_c, vPs_c, vSl_c, vRevS_c, vLst_c, vTup_c, vCB_c, vM0_c, vM1_c, vFld_c, vFldX_c, vFldO_c, vPutO_c, vApp_c, vPop_c, vExt_c, vPutI_c, vItL_c, vItT_c, vItS_c, vRng1_c, vRng2_c, vEnumL_c, vEnumS_c, vZip_c, vYes_c, vLc_c, vRaise_c, vMake_c, vMakeK_c, vCallN_c, vMeth_c, vMethN_c, vOwn2_c, vBlO_c, vOwnN_c, vOwn1_c, vLenO_c, vStrO_c, vItO_c, vFn_c, vRef_c, vMk_c, vMkK_c, vHeard_c, vEqA_c, vMulA_c, fzK_i, fzK_o, vFz_c, trK_b, trK_n, trK_i, trK_s, trK_l, trK_t, vTr_c, fn_r0, fn_r1, fn_r2, fn_r3, aliD_1, aliD_2, aliD_3, aliD_4, aliD_5, aliD_6, aliD_7, aliD_8, forL_0, forL_1, boolP_b, lenG_s, lenG_l, lenG_t, intG_i, intG_b, intG_s, listG_l, listG_t, tupG_l, tupG_t, gAdd_i, gAdd_s, gAdd_l, gAdd_t, gAdd_b, gInt_i, gInt0_i, gCmp_i, gCmp_s, gEq_ii, gEq_ss, gEq_bb, gEq_is, gEq_si, gEq_nn, gEq_ni, gEq_ns, gEq_nb, gEq_in, gEq_sn, gEq_bn, gEq_ll, gEq_tt, gIs_n, gIs_bb, gIs_ib, gIn_l, gIn_t, gIn_s, gIx_l, gIx_t, gIx_s, gSl_s, gSl_l, gSl_t, gMulT_c, opt_s, opt_n, go_ok, go_err]
      refine ⟨by omega, ?_⟩
      split
      · rename_i c1
        refine ⟨by omega, ?_⟩
        split
        · rename_i c2
          have i1 : j < l.length := by omega
          have i2 : j < m.length := by omega
          have e1 : ((l.length : Int) - 1 - j).toNat = l.length - 1 - j := by omega
          have hb := good_allL gm (m[j]) (List.getElem_mem i2)
          rw [atI_pos (by omega), atI_n, e1, List.getElem?_eq_getElem (show l.length - 1 - j < l.length by omega), List.getElem?_eq_getElem i2]
          simp only [okSet_s, okSet_0, okSet_i, okSet_o, okSet_j, notRef, on1, isiG, askB, onB, tyD, isi1, isiA, btSub, absG, strG, max2G, min2G, hasO, lendAll, lendP, frz, scD, ng, isNon, swapG, indexG, joinG, splitG, imAt, atL, fldD, fldX, putD, insD, fn_run, hideO, ends0, ends1, atH, st0, st1, gEq, gNe, gSub, gMul, gFdiv, gMod, gPow, gLt, gLe, gGt, gGe, ipG_add, ipG_sub, List.getElem?_cons_zero, List.getElem?_cons_succ, List.getElem?_nil, List.set_cons_zero, List.set_cons_succ, List.map_cons, List.map_nil, List.length_cons, List.length_nil, List.replicate_zero, List.replicate_succ, List.cons_append, List.nil_append, List.append_nil, List.append_assoc, List.head?_cons, List.lookup, List.contains_cons, List.contains_nil, List.all_cons, List.all_nil, List.any_cons, List.any_nil, Bool.true_and, Bool.and_true, Bool.false_and, Bool.and_false, Bool.or_true, Bool.true_or, Bool.or_false, Bool.false_or, Bool.not_true, Bool.not_false, Bool.and_self, decide_eq_true_eq, decide_true, decide_false, Bool.false_eq_true, if_true, if_false, ite_true, ite_false, reduceIte, reduceCtorEq, Bool.not_eq_true, Bool.not_eq_true', decide_eq_false_iff_not, not_true_eq_false, not_false_eq_true, true_and, and_true, false_and, and_false, Nat.add_zero, Nat.zero_add, Nat.reduceAdd, Nat.reduceSub, Nat.reduceLT, Nat.reduceLeDiff, Nat.sub_self, beq_iff_eq, BEq.rfl, beq_self_eq_true, anc, cflds, Option.map_some, Option.map_none, lendP_j, wipeP, elemsD, prePick, postPick, nd_run, pick_run, draw_run, wd, vVar_c, vC_c, vIm_c, vNil_c, vCons_c, vBin_c, vBl_c, vAnd_c, vOr_c, vNot_c, vAndV_c, vOrV_c, vNotV_c, vIfE_c, vLend_c, vLendT_c, vNext_c, vSeq_c, vDrop_c, vRet_c, vRetO_c, vIf_c, vSet_c, vSetO_c, vgName_c, vgNil_c, vgCons_c, vgTup_c, vAsg_c, vPar_c, vAug_c, vAug2_c, vFor_c, vCall_c, vCallR_c, vNeg_c, vChain_c, vPn_c, vPs_c, vSl_c, vRevS_c, vLst_c, vTup_c, vCB_c, vM0_c, vM1_c, vFld_c, vFldX_c, vFldO_c, vPutO_c, vApp_c, vPop_c, vExt_c, vPutI_c, vItL_c, vItT_c, vItS_c, vRng1_c, vRng2_c, vEnumL_c, vEnumS_c, vZip_c, vYes_c, vLc_c, vRaise_c, vMake_c, vMakeK_c, vCallN_c, vMeth_c, vMethN_c, vOwn2_c, vBlO_c, vOwnN_c, vOwn1_c, vLenO_c, vStrO_c, vItO_c, vFn_c, vRef_c, vMk_c, vMkK_c, vHeard_c, vEqA_c, vMulA_c, fzK_i, fzK_o, vFz_c, trK_b, trK_n, trK_i, trK_s, trK_l, trK_t, vTr_c, fn_r0, fn_r1, fn_r2, fn_r3, aliD_1, aliD_2, aliD_3, aliD_4, aliD_5, aliD_6, aliD_7, aliD_8, forL_0, forL_1, boolP_b, lenG_s, lenG_l, lenG_t, intG_i, intG_b, intG_s, listG_l, listG_t, tupG_l, tupG_t, gAdd_i, gAdd_s, gAdd_l, gAdd_t, gAdd_b, gInt_i, gInt0_i, gCmp_i, gCmp_s, gEq_ii, gEq_ss, gEq_bb, gEq_is, gEq_si, gEq_nn, gEq_ni, gEq_ns, gEq_nb, gEq_in, gEq_sn, gEq_bn, gEq_ll, gEq_tt, gIs_n, gIs_bb, gIs_ib, gIn_l, gIn_t, gIn_s, gIx_l, gIx_t, gIx_s, gSl_s, gSl_l, gSl_t, gMulT_c, opt_s, opt_n, go_ok, go_err]
          refine ⟨by omega, by omega, by omega, fun x hx => by simp at hx; rw [hx]; exact hb, ?_⟩
          split
          · rename_i e
            refine hK (n - 1) (j + 1) (by omega) ⟨gone_succ G hb (List.getElem?_eq_getElem (show l.length - 1 - j < l.length by omega)) i1 (List.getElem?_eq_getElem i2) (by simpa using e), by omega⟩
          · rename_i e
            refine fin fun a b _ ha hb' => ?_
            rw [List.getElem?_eq_getElem (show l.length - 1 - j < l.length by omega)] at ha
            rw [List.getElem?_eq_getElem i2] at hb'
            cases ha
            cases hb'
            simpa using e
        · rename_i c2
          exact fin fun a b _ _ hb' => by
            have := (List.getElem?_eq_some_iff.mp hb').1
            omega
      · rename_i c1
        exact fin fun a b q _ _ => by omega
    · exact h.elim
  · exact h.elim
def i_Word (ds : List D) : Res := match ds with
  | [.str l] => if l.length ≤ 100000 then (match firstBad l with
    | some w => .err 8 [.int w]
    | none => if l.length ≤ 4000 then .ok (.own false (.obj 20 [.str l, .int (l.length : Nat)])) else .err 11 [.str [108, 101, 116, 116, 101, 114, 115], .int 4000]) else .bad
  | [.ins 20 _] => .err 8 [.int 0]
  | [d] => if aliD d = true then .err 8 [.int 0] else .bad
  | _ => .bad
def fbad : Option Nat → Nat → List Nat → Option Nat
  | _, _, [] => none
  | p, n, c :: r => if isL c = false ∨ p = some (und c) then some n else fbad (some c) (n + 1) r
theorem fbad_eq : ∀ (r s : List Nat), (∀ j, j < s.length → badAt (s ++ r) j = false) → fbad s.getLast? s.length r = firstBad (s ++ r)
  | [], s, h => by
    rw [List.append_nil] at h ⊢
    exact (firstBad_good h).symm
  | c :: r, s, h => by
    have e : badAt (s ++ c :: r) s.length = (!isL c || decide (s.getLast? = some (und c))) := by
      have := badAt_last (s := s) (c := c)
      rw [← this, show s ++ c :: r = (s ++ [c]) ++ r by simp]
      exact badAt_app (by simp)
    unfold fbad
    split
    · rename_i q
      have : badAt (s ++ c :: r) s.length = true := by
        rw [e]
        rcases q with q | q
        · rw [q]; rfl
        · rw [q]; simp
      exact (first_some (by simp) this h).symm
    · rename_i q
      have q1 : isL c = true := by
        cases hh : isL c with
        | true => rfl
        | false => exact absurd (Or.inl hh) q
      have q2 : ¬ s.getLast? = some (und c) := fun z => q (Or.inr z)
      have := fbad_eq r (s ++ [c]) (fun j hj => by
        rw [List.append_assoc]
        rw [List.length_append] at hj
        by_cases hj2 : j < s.length
        · exact h j hj2
        · have : j = s.length := by simp at hj; omega
          subst this
          show badAt (s ++ c :: r) s.length = false
          rw [e, q1]
          simpa using q2)
      rw [List.getLast?_append, List.length_append, List.append_assoc] at this
      exact this
def f_need_row (ds : List D) : Res := match ds with
  | [.str l] => if l.length ≤ 100000 then (match firstBad l with
    | some w => .err 8 [.int w]
    | none => .ok (.imm .non)) else .bad
  | [.ins 20 _] => .err 8 [.int 0]
  | [d] => if aliD d = true then .err 8 [.int 0] else .bad
  | _ => .bad
theorem len_need_row : ∀ ds, f_need_row ds ≠ .bad → ds.length = 1 := by
  intro ds h
  unfold f_need_row at h
  split at h <;> first | rfl | exact absurd rfl h
def t_need_row : VS := (vSeq (vIf (vNot (vTr (vFz (vCB (isiG [20] [1, 8, 11, 12] [20, 11, 8]) (vCons (vVar 0) (vCons (vC (.ty .str)) vNil))))))
  (vRaise 8 (vCons (vC (.int 0)) vNil))
  vNext)
  (vSeq (vSet 1 (vC (.str [])))
  (vFor (vEnumS (vCons (vVar 0) vNil)) (vgTup 2 (vgCons (vgName 2) (vgCons (vgName 3) vgNil)))
  (vSeq (vIf (vOr (vBl (vBin (gInB true) (vVar 3) (vC (.str [65, 66, 67, 68, 97, 98, 99, 100])))) (vBl (vBin gEq (vVar 3) (vFz (vM0 swapG (vVar 1))))))
  (vRaise 8 (vCons (vVar 2) vNil))
  vNext)
  (vSet 1 (vVar 3))))))
theorem ob_need_row : Ob0 t_need_row 4 f_need_row := by
  intro ds Q E h
  unfold f_need_row at h
  split at h
  · rename_i l
    split at h
    · unfold t_need_row
      simp only [okSet_s, okSet_0, okSet_i, okSet_o, okSet_j, notRef, on1, isiG, askB, onB, tyD, isi1, isiA, btSub, absG, strG, max2G, min2G, hasO, lendAll, lendP, frz, scD, ng, isNon, swapG, indexG, joinG, splitG, imAt, atL, fldD, fldX, putD, insD, fn_run, hideO, ends0, ends1, atH, st0, st1, gEq, gNe, gSub, gMul, gFdiv, gMod, gPow, gLt, gLe, gGt, gGe, ipG_add, ipG_sub, List.getElem?_cons_zero, List.getElem?_cons_succ, List.getElem?_nil, List.set_cons_zero, List.set_cons_succ, List.map_cons, List.map_nil, List.length_cons, List.length_nil, List.replicate_zero, List.replicate_succ, List.cons_append, List.nil_append, List.append_nil, List.append_assoc, List.head?_cons, List.lookup, List.contains_cons, List.contains_nil, List.all_cons, List.all_nil, List.any_cons, List.any_nil, Bool.true_and, Bool.and_true, Bool.false_and, Bool.and_false, Bool.or_true, Bool.true_or, Bool.or_false, Bool.false_or, Bool.not_true, Bool.not_false, Bool.and_self, decide_eq_true_eq, decide_true, decide_false, Bool.false_eq_true, if_true, if_false, ite_true, ite_false, reduceIte, reduceCtorEq, Bool.not_eq_true, Bool.not_eq_true', decide_eq_false_iff_not, not_true_eq_false, not_false_eq_true, true_and, and_true, false_and, and_false, Nat.add_zero, Nat.zero_add, Nat.reduceAdd, Nat.reduceSub, Nat.reduceLT, Nat.reduceLeDiff, Nat.sub_self, beq_iff_eq, BEq.rfl, beq_self_eq_true, anc, cflds, Option.map_some, Option.map_none, lendP_j, wipeP, elemsD, prePick, postPick, nd_run, pick_run, draw_run, wd, vVar_c, vC_c, vIm_c, vNil_c, vCons_c, vBin_c, vBl_c, vAnd_c, vOr_c, vNot_c, vAndV_c, vOrV_c, vNotV_c, vIfE_c, vLend_c, vLendT_c, vNext_c, vSeq_c, vDrop_c, vRet_c, vRetO_c, vIf_c, vSet_c, vSetO_c, vgName_c, vgNil_c, vgCons_c, vgTup_c, vAsg_c, vPar_c, vAug_c, vAug2_c, vFor_c, vCall_c, vCallR_c, vNeg_c, vChain_c, vPn_c, vPs_c, vSl_c, vRevS_c, vLst_c, vTup_c, vCB_c, vM0_c, vM1_c, vFld_c, vFldX_c, vFldO_c, vPutO_c, vApp_c, vPop_c, vExt_c, vPutI_c, vItL_c, vItT_c, vItS_c, vRng1_c, vRng2_c, vEnumL_c, vEnumS_c, vZip_c, vYes_c, vLc_c, vRaise_c, vMake_c, vMakeK_c, vCallN_c, vMeth_c, vMethN_c, vOwn2_c, vBlO_c, vOwnN_c, vOwn1_c, vLenO_c, vStrO_c, vItO_c, vFn_c, vRef_c, vMk_c, vMkK_c, vHeard_c, vEqA_c, vMulA_c, fzK_i, fzK_o, vFz_c, trK_b, trK_n, trK_i, trK_s, trK_l, trK_t, vTr_c, fn_r0, fn_r1, fn_r2, fn_r3, aliD_1, aliD_2, aliD_3, aliD_4, aliD_5, aliD_6, aliD_7, aliD_8, forL_0, forL_1, boolP_b, lenG_s, lenG_l, lenG_t, intG_i, intG_b, intG_s, listG_l, listG_t, tupG_l, tupG_t, gAdd_i, gAdd_s, gAdd_l, gAdd_t, gAdd_b, gInt_i, gInt0_i, gCmp_i, gCmp_s, gEq_ii, gEq_ss, gEq_bb, gEq_is, gEq_si, gEq_nn, gEq_ni, gEq_ns, gEq_nb, gEq_in, gEq_sn, gEq_bn, gEq_ll, gEq_tt, gIs_n, gIs_bb, gIs_ib, gIn_l, gIn_t, gIn_s, gIx_l, gIx_t, gIx_s, gSl_s, gSl_l, gSl_t, gMulT_c, opt_s, opt_n, go_ok, go_err]
      refine forL_ind (st := fun (a : Option Nat × Option D × Option D) => [some (.imm (.str l)), some (.imm (.str a.1.toList)), jk a.2.1, jk a.2.2]) (I := fun ds a => ∃ r n, ds = enumD n (sgs r) ∧ (∀ c, a.1 = some c → isL c = true) ∧ fbad a.1 n r = firstBad l) ?_ ?_ (enumD 0 (sgs l)) (none, none, none) ⟨l, 0, rfl, (fun _ z => nomatch z), fbad_eq l [] (fun _ z => absurd z (Nat.not_lt_zero _))⟩
      · rintro ⟨p, u, v⟩ ⟨r, n, hr, h1, he⟩
        cases r with
        | cons c r => cases hr
        | nil =>
          rw [← he] at h
          exact h
      · rintro d ds ⟨p, u, v⟩ ⟨r, n, hr, h1, he⟩ K hK
        cases r with
        | nil => cases hr
        | cons c r =>
          cases hr
          have hl : AllL p.toList := fun x hx => by
            cases p with
            | none => cases hx
            | some y => simp at hx; rw [hx]; exact h1 y rfl
          have hlen : p.toList.length ≤ 1000000 := by cases p <;> simp
          simp only [okSet_s, okSet_0, okSet_i, okSet_o, okSet_j, notRef, on1, isiG, askB, onB, tyD, isi1, isiA, btSub, absG, strG, max2G, min2G, hasO, lendAll, lendP, frz, scD, ng, isNon, swapG, indexG, joinG, splitG, imAt, atL, fldD, fldX, putD, insD, fn_run, hideO, ends0, ends1, atH, st0, st1, gEq, gNe, gSub, gMul, gFdiv, gMod, gPow, gLt, gLe, gGt, gGe, ipG_add, ipG_sub, List.getElem?_cons_zero, List.getElem?_cons_succ, List.getElem?_nil, List.set_cons_zero, List.set_cons_succ, List.map_cons, List.map_nil, List.length_cons, List.length_nil, List.replicate_zero, List.replicate_succ, List.cons_append, List.nil_append, List.append_nil, List.append_assoc, List.head?_cons, List.lookup, List.contains_cons, List.contains_nil, List.all_cons, List.all_nil, List.any_cons, List.any_nil, Bool.true_and, Bool.and_true, Bool.false_and, Bool.and_false, Bool.or_true, Bool.true_or, Bool.or_false, Bool.false_or, Bool.not_true, Bool.not_false, Bool.and_self, decide_eq_true_eq, decide_true, decide_false, Bool.false_eq_true, if_true, if_false, ite_true, ite_false, reduceIte, reduceCtorEq, Bool.not_eq_true, Bool.not_eq_true', decide_eq_false_iff_not, not_true_eq_false, not_false_eq_true, true_and, and_true, false_and, and_false, Nat.add_zero, Nat.zero_add, Nat.reduceAdd, Nat.reduceSub, Nat.reduceLT, Nat.reduceLeDiff, Nat.sub_self, beq_iff_eq, BEq.rfl, beq_self_eq_true, anc, cflds, Option.map_some, Option.map_none, lendP_j, wipeP, elemsD, prePick, postPick, nd_run, pick_run, draw_run, wd, vVar_c, vC_c, vIm_c, vNil_c, vCons_c, vBin_c, vBl_c, vAnd_c, vOr_c, vNot_c, vAndV_c, vOrV_c, vNotV_c, vIfE_c, vLend_c, vLendT_c, vNext_c, vSeq_c, vDrop_c, vRet_c, vRetO_c, vIf_c, vSet_c, vSetO_c, vgName_c, vgNil_c, vgCons_c, vgTup_c, vAsg_c, vPar_c, vAug_c, vAug2_c, vFor_c, vCall_c, vCallR_c, vNeg_c, vChain_c, vPn_c, vPs_c, vSl_c, vRevS_c, vLst_c, vTup_c, vCB_c, vM0_c, vM1_c, vFld_c, vFldX_c, vFldO_c, vPutO_c, vApp_c, vPop_c, vExt_c, vPutI_c, vItL_c, vItT_c, vItS_c, vRng1_c, vRng2_c, vEnumL_c, vEnumS_c, vZip_c, vYes_c, vLc_c, vRaise_c, vMake_c, vMakeK_c, vCallN_c, vMeth_c, vMethN_c, vOwn2_c, vBlO_c, vOwnN_c, vOwn1_c, vLenO_c, vStrO_c, vItO_c, vFn_c, vRef_c, vMk_c, vMkK_c, vHeard_c, vEqA_c, vMulA_c, fzK_i, fzK_o, vFz_c, trK_b, trK_n, trK_i, trK_s, trK_l, trK_t, vTr_c, fn_r0, fn_r1, fn_r2, fn_r3, aliD_1, aliD_2, aliD_3, aliD_4, aliD_5, aliD_6, aliD_7, aliD_8, forL_0, forL_1, boolP_b, lenG_s, lenG_l, lenG_t, intG_i, intG_b, intG_s, listG_l, listG_t, tupG_l, tupG_t, gAdd_i, gAdd_s, gAdd_l, gAdd_t, gAdd_b, gInt_i, gInt0_i, gCmp_i, gCmp_s, gEq_ii, gEq_ss, gEq_bb, gEq_is, gEq_si, gEq_nn, gEq_ni, gEq_ns, gEq_nb, gEq_in, gEq_sn, gEq_bn, gEq_ll, gEq_tt, gIs_n, gIs_bb, gIs_ib, gIn_l, gIn_t, gIn_s, gIx_l, gIx_t, gIx_s, gSl_s, gSl_l, gSl_t, gMulT_c, opt_s, opt_n, go_ok, go_err]
          have hi : (c = 65 ∨ c = 66 ∨ c = 67 ∨ c = 68 ∨ c = 97 ∨ c = 98 ∨ c = 99 ∨ c = 100) ↔ isL c = true := isL_iff.symm
          simp only [List.mem_cons, List.not_mem_nil, or_false, hi]
          unfold fbad at he
          by_cases hc : isL c = true
          · rw [if_neg (not_not_intro hc)]
            refine ⟨hl, hlen, ?_⟩
            have e2 : ([c] = p.toList.map und) ↔ p = some (und c) := by
              cases p with
              | none => simp
              | some y =>
                simp
                constructor
                · intro z; rw [z, und_und (h1 y rfl)]
                · intro z; rw [z, und_und hc]
            by_cases hp : p = some (und c)
            · rw [if_pos (e2.mpr hp)]
              rw [if_pos (Or.inr hp)] at he
              rw [← he] at h
              exact h
            · rw [if_neg (fun z => hp (e2.mp z))]
              rw [if_neg (fun z => z.elim (fun q => by rw [hc] at q; cases q) hp)] at he
              exact hK (some c, some _, some _) ⟨r, n + 1, rfl, fun x hx => by cases hx; exact hc, he⟩
          · rw [if_pos hc]
            rw [if_pos (Or.inl (by simpa using hc))] at he
            rw [← he] at h
            exact h
    · exact h.elim
  · unfold t_need_row
    simp only [okSet_s, okSet_0, okSet_i, okSet_o, okSet_j, notRef, on1, isiG, askB, onB, tyD, isi1, isiA, btSub, absG, strG, max2G, min2G, hasO, lendAll, lendP, frz, scD, ng, isNon, swapG, indexG, joinG, splitG, imAt, atL, fldD, fldX, putD, insD, fn_run, hideO, ends0, ends1, atH, st0, st1, gEq, gNe, gSub, gMul, gFdiv, gMod, gPow, gLt, gLe, gGt, gGe, ipG_add, ipG_sub, List.getElem?_cons_zero, List.getElem?_cons_succ, List.getElem?_nil, List.set_cons_zero, List.set_cons_succ, List.map_cons, List.map_nil, List.length_cons, List.length_nil, List.replicate_zero, List.replicate_succ, List.cons_append, List.nil_append, List.append_nil, List.append_assoc, List.head?_cons, List.lookup, List.contains_cons, List.contains_nil, List.all_cons, List.all_nil, List.any_cons, List.any_nil, Bool.true_and, Bool.and_true, Bool.false_and, Bool.and_false, Bool.or_true, Bool.true_or, Bool.or_false, Bool.false_or, Bool.not_true, Bool.not_false, Bool.and_self, decide_eq_true_eq, decide_true, decide_false, Bool.false_eq_true, if_true, if_false, ite_true, ite_false, reduceIte, reduceCtorEq, Bool.not_eq_true, Bool.not_eq_true', decide_eq_false_iff_not, not_true_eq_false, not_false_eq_true, true_and, and_true, false_and, and_false, Nat.add_zero, Nat.zero_add, Nat.reduceAdd, Nat.reduceSub, Nat.reduceLT, Nat.reduceLeDiff, Nat.sub_self, beq_iff_eq, BEq.rfl, beq_self_eq_true, anc, cflds, Option.map_some, Option.map_none, lendP_j, wipeP, elemsD, prePick, postPick, nd_run, pick_run, draw_run, wd, vVar_c, vC_c, vIm_c, vNil_c, vCons_c, vBin_c, vBl_c, vAnd_c, vOr_c, vNot_c, vAndV_c, vOrV_c, vNotV_c, vIfE_c, vLend_c, vLendT_c, vNext_c, vSeq_c, vDrop_c, vRet_c, vRetO_c, vIf_c, vSet_c, vSetO_c, vgName_c, vgNil_c, vgCons_c, vgTup_c, vAsg_c, vPar_c, vAug_c, vAug2_c, vFor_c, vCall_c, vCallR_c, vNeg_c, vChain_c, vPn_c, vPs_c, vSl_c, vRevS_c, vLst_c, vTup_c, vCB_c, vM0_c, vM1_c, vFld_c, vFldX_c, vFldO_c, vPutO_c, vApp_c, vPop_c, vExt_c, vPutI_c, vItL_c, vItT_c, vItS_c, vRng1_c, vRng2_c, vEnumL_c, vEnumS_c, vZip_c, vYes_c, vLc_c, vRaise_c, vMake_c, vMakeK_c, vCallN_c, vMeth_c, vMethN_c, vOwn2_c, vBlO_c, vOwnN_c, vOwn1_c, vLenO_c, vStrO_c, vItO_c, vFn_c, vRef_c, vMk_c, vMkK_c, vHeard_c, vEqA_c, vMulA_c, fzK_i, fzK_o, vFz_c, trK_b, trK_n, trK_i, trK_s, trK_l, trK_t, vTr_c, fn_r0, fn_r1, fn_r2, fn_r3, aliD_1, aliD_2, aliD_3, aliD_4, aliD_5, aliD_6, aliD_7, aliD_8, forL_0, forL_1, boolP_b, lenG_s, lenG_l, lenG_t, intG_i, intG_b, intG_s, listG_l, listG_t, tupG_l, tupG_t, gAdd_i, gAdd_s, gAdd_l, gAdd_t, gAdd_b, gInt_i, gInt0_i, gCmp_i, gCmp_s, gEq_ii, gEq_ss, gEq_bb, gEq_is, gEq_si, gEq_nn, gEq_ni, gEq_ns, gEq_nb, gEq_in, gEq_sn, gEq_bn, gEq_ll, gEq_tt, gIs_n, gIs_bb, gIs_ib, gIn_l, gIn_t, gIn_s, gIx_l, gIx_t, gIx_s, gSl_s, gSl_l, gSl_t, gMulT_c, opt_s, opt_n, go_ok, go_err]
    exact h
  · rename_i d hs _
    split at h
    · rename_i ha
      unfold t_need_row
      cases d <;> cases ha
      all_goals first | exact (hs _ rfl).elim | (simp only [okSet_s, okSet_0, okSet_i, okSet_o, okSet_j, notRef, on1, isiG, askB, onB, tyD, isi1, isiA, btSub, absG, strG, max2G, min2G, hasO, lendAll, lendP, frz, scD, ng, isNon, swapG, indexG, joinG, splitG, imAt, atL, fldD, fldX, putD, insD, fn_run, hideO, ends0, ends1, atH, st0, st1, gEq, gNe, gSub, gMul, gFdiv, gMod, gPow, gLt, gLe, gGt, gGe, ipG_add, ipG_sub, List.getElem?_cons_zero, List.getElem?_cons_succ, List.getElem?_nil, List.set_cons_zero, List.set_cons_succ, List.map_cons, List.map_nil, List.length_cons, List.length_nil, List.replicate_zero, List.replicate_succ, List.cons_append, List.nil_append, List.append_nil, List.append_assoc, List.head?_cons, List.lookup, List.contains_cons, List.contains_nil, List.all_cons, List.all_nil, List.any_cons, List.any_nil, Bool.true_and, Bool.and_true, Bool.false_and, Bool.and_false, Bool.or_true, Bool.true_or, Bool.or_false, Bool.false_or, Bool.not_true, Bool.not_false, Bool.and_self, decide_eq_true_eq, decide_true, decide_false, Bool.false_eq_true, if_true, if_false, ite_true, ite_false, reduceIte, reduceCtorEq, Bool.not_eq_true, Bool.not_eq_true', decide_eq_false_iff_not, not_true_eq_false, not_false_eq_true, true_and, and_true, false_and, and_false, Nat.add_zero, Nat.zero_add, Nat.reduceAdd, Nat.reduceSub, Nat.reduceLT, Nat.reduceLeDiff, Nat.sub_self, beq_iff_eq, BEq.rfl, beq_self_eq_true, anc, cflds, Option.map_some, Option.map_none, lendP_j, wipeP, elemsD, prePick, postPick, nd_run, pick_run, draw_run, wd, vVar_c, vC_c, vIm_c, vNil_c, vCons_c, vBin_c, vBl_c, vAnd_c, vOr_c, vNot_c, vAndV_c, vOrV_c, vNotV_c, vIfE_c, vLend_c, vLendT_c, vNext_c, vSeq_c, vDrop_c, vRet_c, vRetO_c, vIf_c, vSet_c, vSetO_c, vgName_c, vgNil_c, vgCons_c, vgTup_c, vAsg_c, vPar_c, vAug_c, vAug2_c, vFor_c, vCall_c, vCallR_c, vNeg_c, vChain_c, vPn_c, vPs_c, vSl_c, vRevS_c, vLst_c, vTup_c, vCB_c, vM0_c, vM1_c, vFld_c, vFldX_c, vFldO_c, vPutO_c, vApp_c, vPop_c, vExt_c, vPutI_c, vItL_c, vItT_c, vItS_c, vRng1_c, vRng2_c, vEnumL_c, vEnumS_c, vZip_c, vYes_c, vLc_c, vRaise_c, vMake_c, vMakeK_c, vCallN_c, vMeth_c, vMethN_c, vOwn2_c, vBlO_c, vOwnN_c, vOwn1_c, vLenO_c, vStrO_c, vItO_c, vFn_c, vRef_c, vMk_c, vMkK_c, vHeard_c, vEqA_c, vMulA_c, fzK_i, fzK_o, vFz_c, trK_b, trK_n, trK_i, trK_s, trK_l, trK_t, vTr_c, fn_r0, fn_r1, fn_r2, fn_r3, aliD_1, aliD_2, aliD_3, aliD_4, aliD_5, aliD_6, aliD_7, aliD_8, forL_0, forL_1, boolP_b, lenG_s, lenG_l, lenG_t, intG_i, intG_b, intG_s, listG_l, listG_t, tupG_l, tupG_t, gAdd_i, gAdd_s, gAdd_l, gAdd_t, gAdd_b, gInt_i, gInt0_i, gCmp_i, gCmp_s, gEq_ii, gEq_ss, gEq_bb, gEq_is, gEq_si, gEq_nn, gEq_ni, gEq_ns, gEq_nb, gEq_in, gEq_sn, gEq_bn, gEq_ll, gEq_tt, gIs_n, gIs_bb, gIs_ib, gIn_l, gIn_t, gIn_s, gIx_l, gIx_t, gIx_s, gSl_s, gSl_l, gSl_t, gMulT_c, opt_s, opt_n, go_ok, go_err]; exact h)
    · exact h.elim
  · exact h.elim
/-! ### Word -/
theorem made_Word : MadeOf 20 i_Word := by
  intro ds p h
  unfold i_Word at h
  split at h
  · split at h
    · split at h
      · cases h
      · split at h
        · cases h; exact ⟨_, rfl⟩
        · cases h
    · cases h
  · cases h
  · split at h <;> cases h
  · cases h
theorem len_Word___init__ : ∀ o ds Q E, (initR 20 i_Word).run o ds Q E → ds.length + 1 = 2 := by
  intro o ds Q E h
  have h := h.2
  unfold i_Word at h
  split at h <;> first | rfl | exact h.elim
def t_Word___init__ : VS := (vSeq (vDrop (vFz (vFn f_need_row (vCons (vVar 1) vNil))))
  (vSeq (vIf (vBl (vBin gGt (vFz (vCB (on1 lenG) (vCons (vVar 1) vNil))) (vC (.int 4000))))
  (vRaise 11 (vCons (vC (.str [108, 101, 116, 116, 101, 114, 115])) (vCons (vC (.int 4000)) vNil)))
  vNext)
  (vSeq (vPutO 0 0 20 (vVar 1))
  (vPutO 0 1 20 (vFz (vCB (on1 lenG) (vCons (vVar 1) vNil)))))))
theorem ob_Word___init__ : Ob1 t_Word___init__ 2 (initR 20 i_Word) := by
  rintro o ds Q E ⟨rfl, h⟩
  unfold i_Word at h
  unfold t_Word___init__
  split at h
  · rename_i l
    split at h
    · rename_i hl
      simp only [okSet_s, okSet_0, okSet_i, okSet_o, okSet_j, notRef, on1, isiG, askB, onB, tyD, isi1, isiA, btSub, absG, strG, max2G, min2G, hasO, lendAll, lendP, frz, scD, ng, isNon, swapG, indexG, joinG, splitG, imAt, atL, fldD, fldX, putD, insD, fn_run, hideO, ends0, ends1, atH, st0, st1, gEq, gNe, gSub, gMul, gFdiv, gMod, gPow, gLt, gLe, gGt, gGe, ipG_add, ipG_sub, List.getElem?_cons_zero, List.getElem?_cons_succ, List.getElem?_nil, List.set_cons_zero, List.set_cons_succ, List.map_cons, List.map_nil, List.length_cons, List.length_nil, List.replicate_zero, List.replicate_succ, List.cons_append, List.nil_append, List.append_nil, List.append_assoc, List.head?_cons, List.lookup, List.contains_cons, List.contains_nil, List.all_cons, List.all_nil, List.any_cons, List.any_nil, Bool.true_and, Bool.and_true, Bool.false_and, Bool.and_false, Bool.or_true, Bool.true_or, Bool.or_false, Bool.false_or, Bool.not_true, Bool.not_false, Bool.and_self, decide_eq_true_eq, decide_true, decide_false, Bool.false_eq_true, if_true, if_false, ite_true, ite_false, reduceIte, reduceCtorEq, Bool.not_eq_true, Bool.not_eq_true', decide_eq_false_iff_not, not_true_eq_false, not_false_eq_true, true_and, and_true, false_and, and_false, Nat.add_zero, Nat.zero_add, Nat.reduceAdd, Nat.reduceSub, Nat.reduceLT, Nat.reduceLeDiff, Nat.sub_self, beq_iff_eq, BEq.rfl, beq_self_eq_true, anc, cflds, Option.map_some, Option.map_none, lendP_j, wipeP, elemsD, prePick, postPick, nd_run, pick_run, draw_run, wd, vVar_c, vC_c, vIm_c, vNil_c, vCons_c, vBin_c, vBl_c, vAnd_c, vOr_c, vNot_c, vAndV_c, vOrV_c, vNotV_c, vIfE_c, vLend_c, vLendT_c, vNext_c, vSeq_c, vDrop_c, vRet_c, vRetO_c, vIf_c, vSet_c, vSetO_c, vgName_c, vgNil_c, vgCons_c, vgTup_c, vAsg_c, vPar_c, vAug_c, vAug2_c, vFor_c, vCall_c, vCallR_c, vNeg_c, vChain_c, vPn_c, vPs_c, vSl_c, vRevS_c, vLst_c, vTup_c, vCB_c, vM0_c, vM1_c, vFld_c, vFldX_c, vFldO_c, vPutO_c, vApp_c, vPop_c, vExt_c, vPutI_c, vItL_c, vItT_c, vItS_c, vRng1_c, vRng2_c, vEnumL_c, vEnumS_c, vZip_c, vYes_c, vLc_c, vRaise_c, vMake_c, vMakeK_c, vCallN_c, vMeth_c, vMethN_c, vOwn2_c, vBlO_c, vOwnN_c, vOwn1_c, vLenO_c, vStrO_c, vItO_c, vFn_c, vRef_c, vMk_c, vMkK_c, vHeard_c, vEqA_c, vMulA_c, fzK_i, fzK_o, vFz_c, trK_b, trK_n, trK_i, trK_s, trK_l, trK_t, vTr_c, fn_r0, fn_r1, fn_r2, fn_r3, aliD_1, aliD_2, aliD_3, aliD_4, aliD_5, aliD_6, aliD_7, aliD_8, forL_0, forL_1, boolP_b, lenG_s, lenG_l, lenG_t, intG_i, intG_b, intG_s, listG_l, listG_t, tupG_l, tupG_t, gAdd_i, gAdd_s, gAdd_l, gAdd_t, gAdd_b, gInt_i, gInt0_i, gCmp_i, gCmp_s, gEq_ii, gEq_ss, gEq_bb, gEq_is, gEq_si, gEq_nn, gEq_ni, gEq_ns, gEq_nb, gEq_in, gEq_sn, gEq_bn, gEq_ll, gEq_tt, gIs_n, gIs_bb, gIs_ib, gIn_l, gIn_t, gIn_s, gIx_l, gIx_t, gIx_s, gSl_s, gSl_l, gSl_t, gMulT_c, opt_s, opt_n, go_ok, go_err, f_need_row, if_pos hl]
      cases e : firstBad l with
      | some w => rw [e] at h; exact h _
      | none =>
        rw [e] at h
        simp only [okSet_s, okSet_0, okSet_i, okSet_o, okSet_j, notRef, on1, isiG, askB, onB, tyD, isi1, isiA, btSub, absG, strG, max2G, min2G, hasO, lendAll, lendP, frz, scD, ng, isNon, swapG, indexG, joinG, splitG, imAt, atL, fldD, fldX, putD, insD, fn_run, hideO, ends0, ends1, atH, st0, st1, gEq, gNe, gSub, gMul, gFdiv, gMod, gPow, gLt, gLe, gGt, gGe, ipG_add, ipG_sub, List.getElem?_cons_zero, List.getElem?_cons_succ, List.getElem?_nil, List.set_cons_zero, List.set_cons_succ, List.map_cons, List.map_nil, List.length_cons, List.length_nil, List.replicate_zero, List.replicate_succ, List.cons_append, List.nil_append, List.append_nil, List.append_assoc, List.head?_cons, List.lookup, List.contains_cons, List.contains_nil, List.all_cons, List.all_nil, List.any_cons, List.any_nil, Bool.true_and, Bool.and_true, Bool.false_and, Bool.and_false, Bool.or_true, Bool.true_or, Bool.or_false, Bool.false_or, Bool.not_true, Bool.not_false, Bool.and_self, decide_eq_true_eq, decide_true, decide_false, Bool.false_eq_true, if_true, if_false, ite_true, ite_false, reduceIte, reduceCtorEq, Bool.not_eq_true, Bool.not_eq_true', decide_eq_false_iff_not, not_true_eq_false, not_false_eq_true, true_and, and_true, false_and, and_false, Nat.add_zero, Nat.zero_add, Nat.reduceAdd, Nat.reduceSub, Nat.reduceLT, Nat.reduceLeDiff, Nat.sub_self, beq_iff_eq, BEq.rfl, beq_self_eq_true, anc, cflds, Option.map_some, Option.map_none, lendP_j, wipeP, elemsD, prePick, postPick, nd_run, pick_run, draw_run, wd, vVar_c, vC_c, vIm_c, vNil_c, vCons_c, vBin_c, vBl_c, vAnd_c, vOr_c, vNot_c, vAndV_c, vOrV_c, vNotV_c, vIfE_c, vLend_c, vLendT_c, vNext_c, vSeq_c, vDrop_c, vRet_c, vRetO_c, vIf_c, vSet_c, vSetO_c, vgName_c, vgNil_c, vgCons_c, vgTup_c, vAsg_c, vPar_c, vAug_c, vAug2_c, vFor_c, vCall_c, vCallR_c, vNeg_c, vChain_c, vPn_c, vPs_c, vSl_c, vRevS_c, vLst_c, vTup_c, vCB_c, vM0_c, vM1_c, vFld_c, vFldX_c, vFldO_c, vPutO_c, vApp_c, vPop_c, vExt_c, vPutI_c, vItL_c, vItT_c, vItS_c, vRng1_c, vRng2_c, vEnumL_c, vEnumS_c, vZip_c, vYes_c, vLc_c, vRaise_c, vMake_c, vMakeK_c, vCallN_c, vMeth_c, vMethN_c, vOwn2_c, vBlO_c, vOwnN_c, vOwn1_c, vLenO_c, vStrO_c, vItO_c, vFn_c, vRef_c, vMk_c, vMkK_c, vHeard_c, vEqA_c, vMulA_c, fzK_i, fzK_o, vFz_c, trK_b, trK_n, trK_i, trK_s, trK_l, trK_t, vTr_c, fn_r0, fn_r1, fn_r2, fn_r3, aliD_1, aliD_2, aliD_3, aliD_4, aliD_5, aliD_6, aliD_7, aliD_8, forL_0, forL_1, boolP_b, lenG_s, lenG_l, lenG_t, intG_i, intG_b, intG_s, listG_l, listG_t, tupG_l, tupG_t, gAdd_i, gAdd_s, gAdd_l, gAdd_t, gAdd_b, gInt_i, gInt0_i, gCmp_i, gCmp_s, gEq_ii, gEq_ss, gEq_bb, gEq_is, gEq_si, gEq_nn, gEq_ni, gEq_ns, gEq_nb, gEq_in, gEq_sn, gEq_bn, gEq_ll, gEq_tt, gIs_n, gIs_bb, gIs_ib, gIn_l, gIn_t, gIn_s, gIx_l, gIx_t, gIx_s, gSl_s, gSl_l, gSl_t, gMulT_c, opt_s, opt_n, go_ok, go_err]
        refine ⟨by omega, ?_⟩
        by_cases h4 : l.length ≤ 4000
        · rw [if_pos h4] at h
          rw [if_neg (by omega)]
          exact ⟨by omega, h.2⟩
        · rw [if_neg h4] at h
          rw [if_pos (by omega)]
          exact h _
    · exact h.elim
  · simp only [okSet_s, okSet_0, okSet_i, okSet_o, okSet_j, notRef, on1, isiG, askB, onB, tyD, isi1, isiA, btSub, absG, strG, max2G, min2G, hasO, lendAll, lendP, frz, scD, ng, isNon, swapG, indexG, joinG, splitG, imAt, atL, fldD, fldX, putD, insD, fn_run, hideO, ends0, ends1, atH, st0, st1, gEq, gNe, gSub, gMul, gFdiv, gMod, gPow, gLt, gLe, gGt, gGe, ipG_add, ipG_sub, List.getElem?_cons_zero, List.getElem?_cons_succ, List.getElem?_nil, List.set_cons_zero, List.set_cons_succ, List.map_cons, List.map_nil, List.length_cons, List.length_nil, List.replicate_zero, List.replicate_succ, List.cons_append, List.nil_append, List.append_nil, List.append_assoc, List.head?_cons, List.lookup, List.contains_cons, List.contains_nil, List.all_cons, List.all_nil, List.any_cons, List.any_nil, Bool.true_and, Bool.and_true, Bool.false_and, Bool.and_false, Bool.or_true, Bool.true_or, Bool.or_false, Bool.false_or, Bool.not_true, Bool.not_false, Bool.and_self, decide_eq_true_eq, decide_true, decide_false, Bool.false_eq_true, if_true, if_false, ite_true, ite_false, reduceIte, reduceCtorEq, Bool.not_eq_true, Bool.not_eq_true', decide_eq_false_iff_not, not_true_eq_false, not_false_eq_true, true_and, and_true, false_and, and_false, Nat.add_zero, Nat.zero_add, Nat.reduceAdd, Nat.reduceSub, Nat.reduceLT, Nat.reduceLeDiff, Nat.sub_self, beq_iff_eq, BEq.rfl, beq_self_eq_true, anc, cflds, Option.map_some, Option.map_none, lendP_j, wipeP, elemsD, prePick, postPick, nd_run, pick_run, draw_run, wd, vVar_c, vC_c, vIm_c, vNil_c, vCons_c, vBin_c, vBl_c, vAnd_c, vOr_c, vNot_c, vAndV_c, vOrV_c, vNotV_c, vIfE_c, vLend_c, vLendT_c, vNext_c, vSeq_c, vDrop_c, vRet_c, vRetO_c, vIf_c, vSet_c, vSetO_c, vgName_c, vgNil_c, vgCons_c, vgTup_c, vAsg_c, vPar_c, vAug_c, vAug2_c, vFor_c, vCall_c, vCallR_c, vNeg_c, vChain_c, vPn_c, vPs_c, vSl_c, vRevS_c, vLst_c, vTup_c, vCB_c, vM0_c, vM1_c, vFld_c, vFldX_c, vFldO_c, vPutO_c, vApp_c, vPop_c, vExt_c, vPutI_c, vItL_c, vItT_c, vItS_c, vRng1_c, vRng2_c, vEnumL_c, vEnumS_c, vZip_c, vYes_c, vLc_c, vRaise_c, vMake_c, vMakeK_c, vCallN_c, vMeth_c, vMethN_c, vOwn2_c, vBlO_c, vOwnN_c, vOwn1_c, vLenO_c, vStrO_c, vItO_c, vFn_c, vRef_c, vMk_c, vMkK_c, vHeard_c, vEqA_c, vMulA_c, fzK_i, fzK_o, vFz_c, trK_b, trK_n, trK_i, trK_s, trK_l, trK_t, vTr_c, fn_r0, fn_r1, fn_r2, fn_r3, aliD_1, aliD_2, aliD_3, aliD_4, aliD_5, aliD_6, aliD_7, aliD_8, forL_0, forL_1, boolP_b, lenG_s, lenG_l, lenG_t, intG_i, intG_b, intG_s, listG_l, listG_t, tupG_l, tupG_t, gAdd_i, gAdd_s, gAdd_l, gAdd_t, gAdd_b, gInt_i, gInt0_i, gCmp_i, gCmp_s, gEq_ii, gEq_ss, gEq_bb, gEq_is, gEq_si, gEq_nn, gEq_ni, gEq_ns, gEq_nb, gEq_in, gEq_sn, gEq_bn, gEq_ll, gEq_tt, gIs_n, gIs_bb, gIs_ib, gIn_l, gIn_t, gIn_s, gIx_l, gIx_t, gIx_s, gSl_s, gSl_l, gSl_t, gMulT_c, opt_s, opt_n, go_ok, go_err, f_need_row]
    exact h _
  · rename_i d hs h20
    split at h
    · rename_i ha
      cases d <;> cases ha
      all_goals first | exact (hs _ rfl).elim | (simp only [okSet_s, okSet_0, okSet_i, okSet_o, okSet_j, notRef, on1, isiG, askB, onB, tyD, isi1, isiA, btSub, absG, strG, max2G, min2G, hasO, lendAll, lendP, frz, scD, ng, isNon, swapG, indexG, joinG, splitG, imAt, atL, fldD, fldX, putD, insD, fn_run, hideO, ends0, ends1, atH, st0, st1, gEq, gNe, gSub, gMul, gFdiv, gMod, gPow, gLt, gLe, gGt, gGe, ipG_add, ipG_sub, List.getElem?_cons_zero, List.getElem?_cons_succ, List.getElem?_nil, List.set_cons_zero, List.set_cons_succ, List.map_cons, List.map_nil, List.length_cons, List.length_nil, List.replicate_zero, List.replicate_succ, List.cons_append, List.nil_append, List.append_nil, List.append_assoc, List.head?_cons, List.lookup, List.contains_cons, List.contains_nil, List.all_cons, List.all_nil, List.any_cons, List.any_nil, Bool.true_and, Bool.and_true, Bool.false_and, Bool.and_false, Bool.or_true, Bool.true_or, Bool.or_false, Bool.false_or, Bool.not_true, Bool.not_false, Bool.and_self, decide_eq_true_eq, decide_true, decide_false, Bool.false_eq_true, if_true, if_false, ite_true, ite_false, reduceIte, reduceCtorEq, Bool.not_eq_true, Bool.not_eq_true', decide_eq_false_iff_not, not_true_eq_false, not_false_eq_true, true_and, and_true, false_and, and_false, Nat.add_zero, Nat.zero_add, Nat.reduceAdd, Nat.reduceSub, Nat.reduceLT, Nat.reduceLeDiff, Nat.sub_self, beq_iff_eq, BEq.rfl, beq_self_eq_true, anc, cflds, Option.map_some, Option.map_none, lendP_j, wipeP, elemsD, prePick, postPick, nd_run, pick_run, draw_run, wd, vVar_c, vC_c, vIm_c, vNil_c, vCons_c, vBin_c, vBl_c, vAnd_c, vOr_c, vNot_c, vAndV_c, vOrV_c, vNotV_c, vIfE_c, vLend_c, vLendT_c, vNext_c, vSeq_c, vDrop_c, vRet_c, vRetO_c, vIf_c, vSet_c, vSetO_c, vgName_c, vgNil_c, vgCons_c, vgTup_c, vAsg_c, vPar_c, vAug_c, vAug2_c, vFor_c, vCall_c, vCallR_c, vNeg_c, vChain_c, vPn_c, vPs_c, vSl_c, vRevS_c, vLst_c, vTup_c, vCB_c, vM0_c, vM1_c, vFld_c, vFldX_c, vFldO_c, vPutO_c, vApp_c, vPop_c, vExt_c, vPutI_c, vItL_c, vItT_c, vItS_c, vRng1_c, vRng2_c, vEnumL_c, vEnumS_c, vZip_c, vYes_c, vLc_c, vRaise_c, vMake_c, vMakeK_c, vCallN_c, vMeth_c, vMethN_c, vOwn2_c, vBlO_c, vOwnN_c, vOwn1_c, vLenO_c, vStrO_c, vItO_c, vFn_c, vRef_c, vMk_c, vMkK_c, vHeard_c, vEqA_c, vMulA_c, fzK_i, fzK_o, vFz_c, trK_b, trK_n, trK_i, trK_s, trK_l, trK_t, vTr_c, fn_r0, fn_r1, fn_r2, fn_r3, aliD_1, aliD_2, aliD_3, aliD_4, aliD_5, aliD_6, aliD_7, aliD_8, forL_0, forL_1, boolP_b, lenG_s, lenG_l, lenG_t, intG_i, intG_b, intG_s, listG_l, listG_t, tupG_l, tupG_t, gAdd_i, gAdd_s, gAdd_l, gAdd_t, gAdd_b, gInt_i, gInt0_i, gCmp_i, gCmp_s, gEq_ii, gEq_ss, gEq_bb, gEq_is, gEq_si, gEq_nn, gEq_ni, gEq_ns, gEq_nb, gEq_in, gEq_sn, gEq_bn, gEq_ll, gEq_tt, gIs_n, gIs_bb, gIs_ib, gIn_l, gIn_t, gIn_s, gIx_l, gIx_t, gIx_s, gSl_s, gSl_l, gSl_t, gMulT_c, opt_s, opt_n, go_ok, go_err, f_need_row]; exact h _)
    · exact h.elim
  · exact h.elim
/-- a word's own fields -/
def f_Word___eq__ (ds : List D) : Res := match ds with
  | [.ins 20 [.str l, .int n], .ins 20 [.str m, .int k]] => if okW l n = true ∧ okW m k = true then .ok (.imm (.bl (decide (l = m)))) else .bad
  | _ => .bad
theorem len_Word___eq__ : ∀ ds, f_Word___eq__ ds ≠ .bad → ds.length = 2 := by
  intro ds h
  unfold f_Word___eq__ at h
  split at h <;> first | rfl | exact absurd rfl h
theorem okEq_w (n k : Int) (l m : List Nat) : okEq (.tup [.int n, .str l]) (.tup [.int k, .str m]) := ⟨rfl, rfl, by simp [depD, toPy, toPyL, PyData.depth, PyData.depthAll], by simp [depD, toPy, toPyL, PyData.depth, PyData.depthAll]⟩
def t_Word___eq__ : VS := (vSeq (vIf (vNot (vTr (vFz (vCB (isiG [20] [1, 8, 11, 12] [20, 11, 8]) (vCons (vVar 1) (vCons (vC (.cls 20)) vNil))))))
  (fun _ _ => False)
  vNext)
  (vRet (vBin gEq (vTup (vCons (vFld [(20, 1)] (vVar 0)) (vCons (vFld [(20, 0)] (vVar 0)) vNil))) (vTup (vCons (vFld [(20, 1)] (vVar 1)) (vCons (vFld [(20, 0)] (vVar 1)) vNil))))))
theorem ob_Word___eq__ : Ob0 t_Word___eq__ 2 f_Word___eq__ := by
  intro ds Q E h
  unfold f_Word___eq__ at h
  split at h
  · rename_i l n m k
    split at h
    · rename_i hw
      obtain ⟨g1, l1, rfl⟩ := okW_ok hw.1
      obtain ⟨g2, l2, rfl⟩ := okW_ok hw.2
      unfold t_Word___eq__
      simp only [okSet_s, okSet_0, okSet_i, okSet_o, okSet_j, notRef, on1, isiG, askB, onB, tyD, isi1, isiA, btSub, absG, strG, max2G, min2G, hasO, lendAll, lendP, frz, scD, ng, isNon, swapG, indexG, joinG, splitG, imAt, atL, fldD, fldX, putD, insD, fn_run, hideO, ends0, ends1, atH, st0, st1, gEq, gNe, gSub, gMul, gFdiv, gMod, gPow, gLt, gLe, gGt, gGe, ipG_add, ipG_sub, List.getElem?_cons_zero, List.getElem?_cons_succ, List.getElem?_nil, List.set_cons_zero, List.set_cons_succ, List.map_cons, List.map_nil, List.length_cons, List.length_nil, List.replicate_zero, List.replicate_succ, List.cons_append, List.nil_append, List.append_nil, List.append_assoc, List.head?_cons, List.lookup, List.contains_cons, List.contains_nil, List.all_cons, List.all_nil, List.any_cons, List.any_nil, Bool.true_and, Bool.and_true, Bool.false_and, Bool.and_false, Bool.or_true, Bool.true_or, Bool.or_false, Bool.false_or, Bool.not_true, Bool.not_false, Bool.and_self, decide_eq_true_eq, decide_true, decide_false, Bool.false_eq_true, if_true, if_false, ite_true, ite_false, reduceIte, reduceCtorEq, Bool.not_eq_true, Bool.not_eq_true', decide_eq_false_iff_not, not_true_eq_false, not_false_eq_true, true_and, and_true, false_and, and_false, Nat.add_zero, Nat.zero_add, Nat.reduceAdd, Nat.reduceSub, Nat.reduceLT, Nat.reduceLeDiff, Nat.sub_self, beq_iff_eq, BEq.rfl, beq_self_eq_true, anc, cflds, Option.map_some, Option.map_none, lendP_j, wipeP, elemsD, prePick, postPick, nd_run, pick_run, draw_run, wd, vVar_c, vC_c, vIm_c, vNil_c, vCons_c, vBin_c, vBl_c, vAnd_c, vOr_c, vNot_c, vAndV_c, vOrV_c, vNotV_c, vIfE_c, vLend_c, vLendT_c, vNext_c, vSeq_c, vDrop_c, vRet_c, vRetO_c, vIf_c, vSet_c, vSetO_c, vgName_c, vgNil_c, vgCons_c, vgTup_c, vAsg_c, vPar_c, vAug_c, vAug2_c, vFor_c, vCall_c, vCallR_c, vNeg_c, vChain_c, vPn_c, vPs_c, vSl_c, vRevS_c, vLst_c, vTup_c, vCB_c, vM0_c, vM1_c, vFld_c, vFldX_c, vFldO_c, vPutO_c, vApp_c, vPop_c, vExt_c, vPutI_c, vItL_c, vItT_c, vItS_c, vRng1_c, vRng2_c, vEnumL_c, vEnumS_c, vZip_c, vYes_c, vLc_c, vRaise_c, vMake_c, vMakeK_c, vCallN_c, vMeth_c, vMethN_c, vOwn2_c, vBlO_c, vOwnN_c, vOwn1_c, vLenO_c, vStrO_c, vItO_c, vFn_c, vRef_c, vMk_c, vMkK_c, vHeard_c, vEqA_c, vMulA_c, fzK_i, fzK_o, vFz_c, trK_b, trK_n, trK_i, trK_s, trK_l, trK_t, vTr_c, fn_r0, fn_r1, fn_r2, fn_r3, aliD_1, aliD_2, aliD_3, aliD_4, aliD_5, aliD_6, aliD_7, aliD_8, forL_0, forL_1, boolP_b, lenG_s, lenG_l, lenG_t, intG_i, intG_b, intG_s, listG_l, listG_t, tupG_l, tupG_t, gAdd_i, gAdd_s, gAdd_l, gAdd_t, gAdd_b, gInt_i, gInt0_i, gCmp_i, gCmp_s, gEq_ii, gEq_ss, gEq_bb, gEq_is, gEq_si, gEq_nn, gEq_ni, gEq_ns, gEq_nb, gEq_in, gEq_sn, gEq_bn, gEq_ll, gEq_tt, gIs_n, gIs_bb, gIs_ib, gIn_l, gIn_t, gIn_s, gIx_l, gIx_t, gIx_s, gSl_s, gSl_l, gSl_t, gMulT_c, opt_s, opt_n, go_ok, go_err, eqD_tup2, eqD_int, eqD_str]
      refine ⟨okEq_w _ _ _ _, ?_⟩
      have e : (decide ((l.length : Int) = (m.length : Int)) && decide (l = m)) = decide (l = m) := by
        by_cases q : l = m
        · subst q; simp
        · simp [q]
      rw [e]
      exact h
    · exact h.elim
  · exact h.elim
def f_Word___invert__ (ds : List D) : Res := match ds with
  | [.ins 20 [.str l, .int n]] => if okW l n = true then .ok (.imm (wd (back l))) else .bad
  | _ => .bad
theorem len_Word___invert__ : ∀ ds, f_Word___invert__ ds ≠ .bad → ds.length = 1 := by
  intro ds h
  unfold f_Word___invert__ at h
  split at h <;> first | rfl | exact absurd rfl h
def t_Word___invert__ : VS := (vRet (vFz (vMk i_Word [] (vCons (vFz (vFn f_undone (vCons (vFld [(20, 0)] (vVar 0)) vNil))) vNil))))
theorem ob_Word___invert__ : Ob0 t_Word___invert__ 1 f_Word___invert__ := by
  intro ds Q E h
  unfold f_Word___invert__ at h
  split at h
  · rename_i l n
    split at h
    · rename_i hw
      obtain ⟨g1, l1, rfl⟩ := okW_ok hw
      unfold t_Word___invert__
      have e1 : (back l).length ≤ 100000 := by rw [back_len]; omega
      have e2 : (back l).length ≤ 4000 := by rw [back_len]; omega
      simp only [okSet_s, okSet_0, okSet_i, okSet_o, okSet_j, notRef, on1, isiG, askB, onB, tyD, isi1, isiA, btSub, absG, strG, max2G, min2G, hasO, lendAll, lendP, frz, scD, ng, isNon, swapG, indexG, joinG, splitG, imAt, atL, fldD, fldX, putD, insD, fn_run, hideO, ends0, ends1, atH, st0, st1, gEq, gNe, gSub, gMul, gFdiv, gMod, gPow, gLt, gLe, gGt, gGe, ipG_add, ipG_sub, List.getElem?_cons_zero, List.getElem?_cons_succ, List.getElem?_nil, List.set_cons_zero, List.set_cons_succ, List.map_cons, List.map_nil, List.length_cons, List.length_nil, List.replicate_zero, List.replicate_succ, List.cons_append, List.nil_append, List.append_nil, List.append_assoc, List.head?_cons, List.lookup, List.contains_cons, List.contains_nil, List.all_cons, List.all_nil, List.any_cons, List.any_nil, Bool.true_and, Bool.and_true, Bool.false_and, Bool.and_false, Bool.or_true, Bool.true_or, Bool.or_false, Bool.false_or, Bool.not_true, Bool.not_false, Bool.and_self, decide_eq_true_eq, decide_true, decide_false, Bool.false_eq_true, if_true, if_false, ite_true, ite_false, reduceIte, reduceCtorEq, Bool.not_eq_true, Bool.not_eq_true', decide_eq_false_iff_not, not_true_eq_false, not_false_eq_true, true_and, and_true, false_and, and_false, Nat.add_zero, Nat.zero_add, Nat.reduceAdd, Nat.reduceSub, Nat.reduceLT, Nat.reduceLeDiff, Nat.sub_self, beq_iff_eq, BEq.rfl, beq_self_eq_true, anc, cflds, Option.map_some, Option.map_none, lendP_j, wipeP, elemsD, prePick, postPick, nd_run, pick_run, draw_run, wd, vVar_c, vC_c, vIm_c, vNil_c, vCons_c, vBin_c, vBl_c, vAnd_c, vOr_c, vNot_c, vAndV_c, vOrV_c, vNotV_c, vIfE_c, vLend_c, vLendT_c, vNext_c, vSeq_c, vDrop_c, vRet_c, vRetO_c, vIf_c, vSet_c, vSetO_c, vgName_c, vgNil_c, vgCons_c, vgTup_c, vAsg_c, vPar_c, vAug_c, vAug2_c, vFor_c, vCall_c, vCallR_c, vNeg_c, vChain_c, vPn_c, vPs_c, vSl_c, vRevS_c, vLst_c, vTup_c, vCB_c, vM0_c, vM1_c, vFld_c, vFldX_c, vFldO_c, vPutO_c, vApp_c, vPop_c, vExt_c, vPutI_c, vItL_c, vItT_c, vItS_c, vRng1_c, vRng2_c, vEnumL_c, vEnumS_c, vZip_c, vYes_c, vLc_c, vRaise_c, vMake_c, vMakeK_c, vCallN_c, vMeth_c, vMethN_c, vOwn2_c, vBlO_c, vOwnN_c, vOwn1_c, vLenO_c, vStrO_c, vItO_c, vFn_c, vRef_c, vMk_c, vMkK_c, vHeard_c, vEqA_c, vMulA_c, fzK_i, fzK_o, vFz_c, trK_b, trK_n, trK_i, trK_s, trK_l, trK_t, vTr_c, fn_r0, fn_r1, fn_r2, fn_r3, aliD_1, aliD_2, aliD_3, aliD_4, aliD_5, aliD_6, aliD_7, aliD_8, forL_0, forL_1, boolP_b, lenG_s, lenG_l, lenG_t, intG_i, intG_b, intG_s, listG_l, listG_t, tupG_l, tupG_t, gAdd_i, gAdd_s, gAdd_l, gAdd_t, gAdd_b, gInt_i, gInt0_i, gCmp_i, gCmp_s, gEq_ii, gEq_ss, gEq_bb, gEq_is, gEq_si, gEq_nn, gEq_ni, gEq_ns, gEq_nb, gEq_in, gEq_sn, gEq_bn, gEq_ll, gEq_tt, gIs_n, gIs_bb, gIs_ib, gIn_l, gIn_t, gIn_s, gIx_l, gIx_t, gIx_s, gSl_s, gSl_l, gSl_t, gMulT_c, opt_s, opt_n, go_ok, go_err, f_undone, if_pos (show firstOdd l = none ∧ l.length ≤ 100000 from ⟨firstOdd_allL (good_allL g1), by omega⟩), i_Word, if_pos e1, if_pos e2, firstBad_good (good_back g1)]
      exact h
    · exact h.elim
  · exact h.elim
def f_Word___mul__ (ds : List D) : Res := match ds with
  | [.ins 20 [.str l, .int n], .ins 20 [.str m, .int k]] => if okW l n = true ∧ okW m k = true then (if (red (l ++ m)).length ≤ 4000 then .ok (.imm (wd (red (l ++ m)))) else .err 11 [.str [108, 101, 116, 116, 101, 114, 115], .int 4000]) else .bad
  | [.ins 20 _, d] => if aliD d = true then .err 8 [.int 0] else .bad
  | _ => .bad
theorem len_Word___mul__ : ∀ ds, f_Word___mul__ ds ≠ .bad → ds.length = 2 := by
  intro ds h
  unfold f_Word___mul__ at h
  split at h <;> first | rfl | exact absurd rfl h
def t_Word___mul__ : VS := (vSeq (vDrop (vFz (vFn f_need_word (vCons (vVar 1) vNil))))
  (vRet (vFz (vMk i_Word [] (vCons (vFz (vFn f_product (vCons (vFld [(20, 0)] (vVar 0)) (vCons (vFld [(20, 0)] (vVar 1)) vNil)))) vNil)))))
theorem ob_Word___mul__ : Ob0 t_Word___mul__ 2 f_Word___mul__ := by
  intro ds Q E h
  unfold f_Word___mul__ at h
  split at h
  · rename_i l n m k
    split at h
    · rename_i hw
      obtain ⟨g1, l1, rfl⟩ := okW_ok hw.1
      obtain ⟨g2, l2, rfl⟩ := okW_ok hw.2
      have hA : AllL (l ++ m) := fun x hx => (List.mem_append.mp hx).elim (good_allL g1 x) (good_allL g2 x)
      unfold t_Word___mul__
      simp only [okSet_s, okSet_0, okSet_i, okSet_o, okSet_j, notRef, on1, isiG, askB, onB, tyD, isi1, isiA, btSub, absG, strG, max2G, min2G, hasO, lendAll, lendP, frz, scD, ng, isNon, swapG, indexG, joinG, splitG, imAt, atL, fldD, fldX, putD, insD, fn_run, hideO, ends0, ends1, atH, st0, st1, gEq, gNe, gSub, gMul, gFdiv, gMod, gPow, gLt, gLe, gGt, gGe, ipG_add, ipG_sub, List.getElem?_cons_zero, List.getElem?_cons_succ, List.getElem?_nil, List.set_cons_zero, List.set_cons_succ, List.map_cons, List.map_nil, List.length_cons, List.length_nil, List.replicate_zero, List.replicate_succ, List.cons_append, List.nil_append, List.append_nil, List.append_assoc, List.head?_cons, List.lookup, List.contains_cons, List.contains_nil, List.all_cons, List.all_nil, List.any_cons, List.any_nil, Bool.true_and, Bool.and_true, Bool.false_and, Bool.and_false, Bool.or_true, Bool.true_or, Bool.or_false, Bool.false_or, Bool.not_true, Bool.not_false, Bool.and_self, decide_eq_true_eq, decide_true, decide_false, Bool.false_eq_true, if_true, if_false, ite_true, ite_false, reduceIte, reduceCtorEq, Bool.not_eq_true, Bool.not_eq_true', decide_eq_false_iff_not, not_true_eq_false, not_false_eq_true, true_and, and_true, false_and, and_false, Nat.add_zero, Nat.zero_add, Nat.reduceAdd, Nat.reduceSub, Nat.reduceLT, Nat.reduceLeDiff, Nat.sub_self, beq_iff_eq, BEq.rfl, beq_self_eq_true, anc, cflds, Option.map_some, Option.map_none, lendP_j, wipeP, elemsD, prePick, postPick, nd_run, pick_run, draw_run, wd, vVar_c, vC_c, vIm_c, vNil_c, vCons_c, vBin_c, vBl_c, vAnd_c, vOr_c, vNot_c, vAndV_c, vOrV_c, vNotV_c, vIfE_c, vLend_c, vLendT_c, vNext_c, vSeq_c, vDrop_c, vRet_c, vRetO_c, vIf_c, vSet_c, vSetO_c, vgName_c, vgNil_c, vgCons_c, vgTup_c, vAsg_c, vPar_c, vAug_c, vAug2_c, vFor_c, vCall_c, vCallR_c, vNeg_c, vChain_c, vPn_c, vPs_c, vSl_c, vRevS_c, vLst_c, vTup_c, vCB_c, vM0_c, vM1_c, vFld_c, vFldX_c, vFldO_c, vPutO_c, vApp_c, vPop_c, vExt_c, vPutI_c, vItL_c, vItT_c, vItS_c, vRng1_c, vRng2_c, vEnumL_c, vEnumS_c, vZip_c, vYes_c, vLc_c, vRaise_c, vMake_c, vMakeK_c, vCallN_c, vMeth_c, vMethN_c, vOwn2_c, vBlO_c, vOwnN_c, vOwn1_c, vLenO_c, vStrO_c, vItO_c, vFn_c, vRef_c, vMk_c, vMkK_c, vHeard_c, vEqA_c, vMulA_c, fzK_i, fzK_o, vFz_c, trK_b, trK_n, trK_i, trK_s, trK_l, trK_t, vTr_c, fn_r0, fn_r1, fn_r2, fn_r3, aliD_1, aliD_2, aliD_3, aliD_4, aliD_5, aliD_6, aliD_7, aliD_8, forL_0, forL_1, boolP_b, lenG_s, lenG_l, lenG_t, intG_i, intG_b, intG_s, listG_l, listG_t, tupG_l, tupG_t, gAdd_i, gAdd_s, gAdd_l, gAdd_t, gAdd_b, gInt_i, gInt0_i, gCmp_i, gCmp_s, gEq_ii, gEq_ss, gEq_bb, gEq_is, gEq_si, gEq_nn, gEq_ni, gEq_ns, gEq_nb, gEq_in, gEq_sn, gEq_bn, gEq_ll, gEq_tt, gIs_n, gIs_bb, gIs_ib, gIn_l, gIn_t, gIn_s, gIx_l, gIx_t, gIx_s, gSl_s, gSl_l, gSl_t, gMulT_c, opt_s, opt_n, go_ok, go_err, f_need_word, f_product, if_pos (show firstBad l = none ∧ firstBad m = none ∧ l.length ≤ 100000 ∧ m.length ≤ 100000 from ⟨firstBad_good g1, firstBad_good g2, by omega, by omega⟩), i_Word, firstBad_good (red_good hA)]
      rw [if_pos (show (red (l ++ m)).length ≤ 100000 from by have := red_length (l ++ m); rw [List.length_append] at this; omega)]
      by_cases q : (red (l ++ m)).length ≤ 4000
      · rw [if_pos q] at h
        simp only [if_pos q, okSet_s, okSet_0, okSet_i, okSet_o, okSet_j, notRef, on1, isiG, askB, onB, tyD, isi1, isiA, btSub, absG, strG, max2G, min2G, hasO, lendAll, lendP, frz, scD, ng, isNon, swapG, indexG, joinG, splitG, imAt, atL, fldD, fldX, putD, insD, fn_run, hideO, ends0, ends1, atH, st0, st1, gEq, gNe, gSub, gMul, gFdiv, gMod, gPow, gLt, gLe, gGt, gGe, ipG_add, ipG_sub, List.getElem?_cons_zero, List.getElem?_cons_succ, List.getElem?_nil, List.set_cons_zero, List.set_cons_succ, List.map_cons, List.map_nil, List.length_cons, List.length_nil, List.replicate_zero, List.replicate_succ, List.cons_append, List.nil_append, List.append_nil, List.append_assoc, List.head?_cons, List.lookup, List.contains_cons, List.contains_nil, List.all_cons, List.all_nil, List.any_cons, List.any_nil, Bool.true_and, Bool.and_true, Bool.false_and, Bool.and_false, Bool.or_true, Bool.true_or, Bool.or_false, Bool.false_or, Bool.not_true, Bool.not_false, Bool.and_self, decide_eq_true_eq, decide_true, decide_false, Bool.false_eq_true, if_true, if_false, ite_true, ite_false, reduceIte, reduceCtorEq, Bool.not_eq_true, Bool.not_eq_true', decide_eq_false_iff_not, not_true_eq_false, not_false_eq_true, true_and, and_true, false_and, and_false, Nat.add_zero, Nat.zero_add, Nat.reduceAdd, Nat.reduceSub, Nat.reduceLT, Nat.reduceLeDiff, Nat.sub_self, beq_iff_eq, BEq.rfl, beq_self_eq_true, anc, cflds, Option.map_some, Option.map_none, lendP_j, wipeP, elemsD, prePick, postPick, nd_run, pick_run, draw_run, wd, vVar_c, vC_c, vIm_c, vNil_c, vCons_c, vBin_c, vBl_c, vAnd_c, vOr_c, vNot_c, vAndV_c, vOrV_c, vNotV_c, vIfE_c, vLend_c, vLendT_c, vNext_c, vSeq_c, vDrop_c, vRet_c, vRetO_c, vIf_c, vSet_c, vSetO_c, vgName_c, vgNil_c, vgCons_c, vgTup_c, vAsg_c, vPar_c, vAug_c, vAug2_c, vFor_c, vCall_c, vCallR_c, vNeg_c, vChain_c, vPn_c, vPs_c, vSl_c, vRevS_c, vLst_c, vTup_c, vCB_c, vM0_c, vM1_c, vFld_c, vFldX_c, vFldO_c, vPutO_c, vApp_c, vPop_c, vExt_c, vPutI_c, vItL_c, vItT_c, vItS_c, vRng1_c, vRng2_c, vEnumL_c, vEnumS_c, vZip_c, vYes_c, vLc_c, vRaise_c, vMake_c, vMakeK_c, vCallN_c, vMeth_c, vMethN_c, vOwn2_c, vBlO_c, vOwnN_c, vOwn1_c, vLenO_c, vStrO_c, vItO_c, vFn_c, vRef_c, vMk_c, vMkK_c, vHeard_c, vEqA_c, vMulA_c, fzK_i, fzK_o, vFz_c, trK_b, trK_n, trK_i, trK_s, trK_l, trK_t, vTr_c, fn_r0, fn_r1, fn_r2, fn_r3, aliD_1, aliD_2, aliD_3, aliD_4, aliD_5, aliD_6, aliD_7, aliD_8, forL_0, forL_1, boolP_b, lenG_s, lenG_l, lenG_t, intG_i, intG_b, intG_s, listG_l, listG_t, tupG_l, tupG_t, gAdd_i, gAdd_s, gAdd_l, gAdd_t, gAdd_b, gInt_i, gInt0_i, gCmp_i, gCmp_s, gEq_ii, gEq_ss, gEq_bb, gEq_is, gEq_si, gEq_nn, gEq_ni, gEq_ns, gEq_nb, gEq_in, gEq_sn, gEq_bn, gEq_ll, gEq_tt, gIs_n, gIs_bb, gIs_ib, gIn_l, gIn_t, gIn_s, gIx_l, gIx_t, gIx_s, gSl_s, gSl_l, gSl_t, gMulT_c, opt_s, opt_n, go_ok, go_err]
        exact h
      · rw [if_neg q] at h
        simp only [if_neg q, okSet_s, okSet_0, okSet_i, okSet_o, okSet_j, notRef, on1, isiG, askB, onB, tyD, isi1, isiA, btSub, absG, strG, max2G, min2G, hasO, lendAll, lendP, frz, scD, ng, isNon, swapG, indexG, joinG, splitG, imAt, atL, fldD, fldX, putD, insD, fn_run, hideO, ends0, ends1, atH, st0, st1, gEq, gNe, gSub, gMul, gFdiv, gMod, gPow, gLt, gLe, gGt, gGe, ipG_add, ipG_sub, List.getElem?_cons_zero, List.getElem?_cons_succ, List.getElem?_nil, List.set_cons_zero, List.set_cons_succ, List.map_cons, List.map_nil, List.length_cons, List.length_nil, List.replicate_zero, List.replicate_succ, List.cons_append, List.nil_append, List.append_nil, List.append_assoc, List.head?_cons, List.lookup, List.contains_cons, List.contains_nil, List.all_cons, List.all_nil, List.any_cons, List.any_nil, Bool.true_and, Bool.and_true, Bool.false_and, Bool.and_false, Bool.or_true, Bool.true_or, Bool.or_false, Bool.false_or, Bool.not_true, Bool.not_false, Bool.and_self, decide_eq_true_eq, decide_true, decide_false, Bool.false_eq_true, if_true, if_false, ite_true, ite_false, reduceIte, reduceCtorEq, Bool.not_eq_true, Bool.not_eq_true', decide_eq_false_iff_not, not_true_eq_false, not_false_eq_true, true_and, and_true, false_and, and_false, Nat.add_zero, Nat.zero_add, Nat.reduceAdd, Nat.reduceSub, Nat.reduceLT, Nat.reduceLeDiff, Nat.sub_self, beq_iff_eq, BEq.rfl, beq_self_eq_true, anc, cflds, Option.map_some, Option.map_none, lendP_j, wipeP, elemsD, prePick, postPick, nd_run, pick_run, draw_run, wd, vVar_c, vC_c, vIm_c, vNil_c, vCons_c, vBin_c, vBl_c, vAnd_c, vOr_c, vNot_c, vAndV_c, vOrV_c, vNotV_c, vIfE_c, vLend_c, vLendT_c, vNext_c, vSeq_c, vDrop_c, vRet_c, vRetO_c, vIf_c, vSet_c, vSetO_c, vgName_c, vgNil_c, vgCons_c, vgTup_c, vAsg_c, vPar_c, vAug_c, vAug2_c, vFor_c, vCall_c, vCallR_c, vNeg_c, vChain_c, vPn_c, vPs_c, vSl_c, vRevS_c, vLst_c, vTup_c, vCB_c, vM0_c, vM1_c, vFld_c, vFldX_c, vFldO_c, vPutO_c, vApp_c, vPop_c, vExt_c, vPutI_c, vItL_c, vItT_c, vItS_c, vRng1_c, vRng2_c, vEnumL_c, vEnumS_c, vZip_c, vYes_c, vLc_c, vRaise_c, vMake_c, vMakeK_c, vCallN_c, vMeth_c, vMethN_c, vOwn2_c, vBlO_c, vOwnN_c, vOwn1_c, vLenO_c, vStrO_c, vItO_c, vFn_c, vRef_c, vMk_c, vMkK_c, vHeard_c, vEqA_c, vMulA_c, fzK_i, fzK_o, vFz_c, trK_b, trK_n, trK_i, trK_s, trK_l, trK_t, vTr_c, fn_r0, fn_r1, fn_r2, fn_r3, aliD_1, aliD_2, aliD_3, aliD_4, aliD_5, aliD_6, aliD_7, aliD_8, forL_0, forL_1, boolP_b, lenG_s, lenG_l, lenG_t, intG_i, intG_b, intG_s, listG_l, listG_t, tupG_l, tupG_t, gAdd_i, gAdd_s, gAdd_l, gAdd_t, gAdd_b, gInt_i, gInt0_i, gCmp_i, gCmp_s, gEq_ii, gEq_ss, gEq_bb, gEq_is, gEq_si, gEq_nn, gEq_ni, gEq_ns, gEq_nb, gEq_in, gEq_sn, gEq_bn, gEq_ll, gEq_tt, gIs_n, gIs_bb, gIs_ib, gIn_l, gIn_t, gIn_s, gIx_l, gIx_t, gIx_s, gSl_s, gSl_l, gSl_t, gMulT_c, opt_s, opt_n, go_ok, go_err]
        exact h
    · exact h.elim
  · rename_i d hs
    split at h
    · rename_i ha
      unfold t_Word___mul__
      cases d <;> cases ha
      all_goals (simp only [okSet_s, okSet_0, okSet_i, okSet_o, okSet_j, notRef, on1, isiG, askB, onB, tyD, isi1, isiA, btSub, absG, strG, max2G, min2G, hasO, lendAll, lendP, frz, scD, ng, isNon, swapG, indexG, joinG, splitG, imAt, atL, fldD, fldX, putD, insD, fn_run, hideO, ends0, ends1, atH, st0, st1, gEq, gNe, gSub, gMul, gFdiv, gMod, gPow, gLt, gLe, gGt, gGe, ipG_add, ipG_sub, List.getElem?_cons_zero, List.getElem?_cons_succ, List.getElem?_nil, List.set_cons_zero, List.set_cons_succ, List.map_cons, List.map_nil, List.length_cons, List.length_nil, List.replicate_zero, List.replicate_succ, List.cons_append, List.nil_append, List.append_nil, List.append_assoc, List.head?_cons, List.lookup, List.contains_cons, List.contains_nil, List.all_cons, List.all_nil, List.any_cons, List.any_nil, Bool.true_and, Bool.and_true, Bool.false_and, Bool.and_false, Bool.or_true, Bool.true_or, Bool.or_false, Bool.false_or, Bool.not_true, Bool.not_false, Bool.and_self, decide_eq_true_eq, decide_true, decide_false, Bool.false_eq_true, if_true, if_false, ite_true, ite_false, reduceIte, reduceCtorEq, Bool.not_eq_true, Bool.not_eq_true', decide_eq_false_iff_not, not_true_eq_false, not_false_eq_true, true_and, and_true, false_and, and_false, Nat.add_zero, Nat.zero_add, Nat.reduceAdd, Nat.reduceSub, Nat.reduceLT, Nat.reduceLeDiff, Nat.sub_self, beq_iff_eq, BEq.rfl, beq_self_eq_true, anc, cflds, Option.map_some, Option.map_none, lendP_j, wipeP, elemsD, prePick, postPick, nd_run, pick_run, draw_run, wd, vVar_c, vC_c, vIm_c, vNil_c, vCons_c, vBin_c, vBl_c, vAnd_c, vOr_c, vNot_c, vAndV_c, vOrV_c, vNotV_c, vIfE_c, vLend_c, vLendT_c, vNext_c, vSeq_c, vDrop_c, vRet_c, vRetO_c, vIf_c, vSet_c, vSetO_c, vgName_c, vgNil_c, vgCons_c, vgTup_c, vAsg_c, vPar_c, vAug_c, vAug2_c, vFor_c, vCall_c, vCallR_c, vNeg_c, vChain_c, vPn_c, vPs_c, vSl_c, vRevS_c, vLst_c, vTup_c, vCB_c, vM0_c, vM1_c, vFld_c, vFldX_c, vFldO_c, vPutO_c, vApp_c, vPop_c, vExt_c, vPutI_c, vItL_c, vItT_c, vItS_c, vRng1_c, vRng2_c, vEnumL_c, vEnumS_c, vZip_c, vYes_c, vLc_c, vRaise_c, vMake_c, vMakeK_c, vCallN_c, vMeth_c, vMethN_c, vOwn2_c, vBlO_c, vOwnN_c, vOwn1_c, vLenO_c, vStrO_c, vItO_c, vFn_c, vRef_c, vMk_c, vMkK_c, vHeard_c, vEqA_c, vMulA_c, fzK_i, fzK_o, vFz_c, trK_b, trK_n, trK_i, trK_s, trK_l, trK_t, vTr_c, fn_r0, fn_r1, fn_r2, fn_r3, aliD_1, aliD_2, aliD_3, aliD_4, aliD_5, aliD_6, aliD_7, aliD_8, forL_0, forL_1, boolP_b, lenG_s, lenG_l, lenG_t, intG_i, intG_b, intG_s, listG_l, listG_t, tupG_l, tupG_t, gAdd_i, gAdd_s, gAdd_l, gAdd_t, gAdd_b, gInt_i, gInt0_i, gCmp_i, gCmp_s, gEq_ii, gEq_ss, gEq_bb, gEq_is, gEq_si, gEq_nn, gEq_ni, gEq_ns, gEq_nb, gEq_in, gEq_sn, gEq_bn, gEq_ll, gEq_tt, gIs_n, gIs_bb, gIs_ib, gIn_l, gIn_t, gIn_s, gIx_l, gIx_t, gIx_s, gSl_s, gSl_l, gSl_t, gMulT_c, opt_s, opt_n, go_ok, go_err, f_need_word]; exact h)
    · exact h.elim
  · exact h.elim
def f_Word_fits (ds : List D) : Res := match ds with
  | [.ins 20 [.str l, .int n], .ins 20 [.str m, .int k]] => if okW l n = true ∧ okW m k = true then .ok (.imm (.bl (decide (¬ ∃ b, m.head? = some b ∧ l.getLast? = some (und b))))) else .bad
  | [.ins 20 _, d] => if aliD d = true then .err 8 [.int 0] else .bad
  | _ => .bad
theorem len_Word_fits : ∀ ds, f_Word_fits ds ≠ .bad → ds.length = 2 := by
  intro ds h
  unfold f_Word_fits at h
  split at h <;> first | rfl | exact absurd rfl h
def t_Word_fits : VS := (vSeq (vDrop (vFz (vFn f_need_word (vCons (vVar 1) vNil))))
  (vRet (vOrV (vBin gEq (vFld [(20, 1)] (vVar 0)) (vC (.int 0))) (vOrV (vBin gEq (vFld [(20, 1)] (vVar 1)) (vC (.int 0))) (vBin gNe (vBin gIx (vFld [(20, 0)] (vVar 0)) (vNeg (vC (.int 1)))) (vFz (vM0 swapG (vBin gIx (vFld [(20, 0)] (vVar 1)) (vC (.int 0))))))))))
theorem ob_Word_fits : Ob0 t_Word_fits 2 f_Word_fits := by
  intro ds Q E h
  unfold f_Word_fits at h
  split at h
  · rename_i l n m k
    split at h
    · rename_i hw
      obtain ⟨g1, l1, rfl⟩ := okW_ok hw.1
      obtain ⟨g2, l2, rfl⟩ := okW_ok hw.2
      unfold t_Word_fits
      simp only [okSet_s, okSet_0, okSet_i, okSet_o, okSet_j, notRef, on1, isiG, askB, onB, tyD, isi1, isiA, btSub, absG, strG, max2G, min2G, hasO, lendAll, lendP, frz, scD, ng, isNon, swapG, indexG, joinG, splitG, imAt, atL, fldD, fldX, putD, insD, fn_run, hideO, ends0, ends1, atH, st0, st1, gEq, gNe, gSub, gMul, gFdiv, gMod, gPow, gLt, gLe, gGt, gGe, ipG_add, ipG_sub, List.getElem?_cons_zero, List.getElem?_cons_succ, List.getElem?_nil, List.set_cons_zero, List.set_cons_succ, List.map_cons, List.map_nil, List.length_cons, List.length_nil, List.replicate_zero, List.replicate_succ, List.cons_append, List.nil_append, List.append_nil, List.append_assoc, List.head?_cons, List.lookup, List.contains_cons, List.contains_nil, List.all_cons, List.all_nil, List.any_cons, List.any_nil, Bool.true_and, Bool.and_true, Bool.false_and, Bool.and_false, Bool.or_true, Bool.true_or, Bool.or_false, Bool.false_or, Bool.not_true, Bool.not_false, Bool.and_self, decide_eq_true_eq, decide_true, decide_false, Bool.false_eq_true, if_true, if_false, ite_true, ite_false, reduceIte, reduceCtorEq, Bool.not_eq_true, Bool.not_eq_true', decide_eq_false_iff_not, not_true_eq_false, not_false_eq_true, true_and, and_true, false_and, and_false, Nat.add_zero, Nat.zero_add, Nat.reduceAdd, Nat.reduceSub, Nat.reduceLT, Nat.reduceLeDiff, Nat.sub_self, beq_iff_eq, BEq.rfl, beq_self_eq_true, anc, cflds, Option.map_some, Option.map_none, lendP_j, wipeP, elemsD, prePick, postPick, nd_run, pick_run, draw_run, wd, vVar_c, vC_c, vIm_c, vNil_c, vCons_c, vBin_c, vBl_c, vAnd_c, vOr_c, vNot_c, vAndV_c, vOrV_c, vNotV_c, vIfE_c, vLend_c, vLendT_c, vNext_c, vSeq_c, vDrop_c, vRet_c, vRetO_c, vIf_c, vSet_c, vSetO_c, vgName_c, vgNil_c, vgCons_c, vgTup_c, vAsg_c, vPar_c, vAug_c, vAug2_c, vFor_c, vCall_c, vCallR_c, vNeg_c, vChain_c, vPn_c, vPs_c, vSl_c, vRevS_c, vLst_c, vTup_c, vCB_c, vM0_c, vM1_c, vFld_c, vFldX_c, vFldO_c, vPutO_c, vApp_c, vPop_c, vExt_c, vPutI_c, vItL_c, vItT_c, vItS_c, vRng1_c, vRng2_c, vEnumL_c, vEnumS_c, vZip_c, vYes_c, vLc_c, vRaise_c, vMake_c, vMakeK_c, vCallN_c, vMeth_c, vMethN_c, vOwn2_c, vBlO_c, vOwnN_c, vOwn1_c, vLenO_c, vStrO_c, vItO_c, vFn_c, vRef_c, vMk_c, vMkK_c, vHeard_c, vEqA_c, vMulA_c, fzK_i, fzK_o, vFz_c, trK_b, trK_n, trK_i, trK_s, trK_l, trK_t, vTr_c, fn_r0, fn_r1, fn_r2, fn_r3, aliD_1, aliD_2, aliD_3, aliD_4, aliD_5, aliD_6, aliD_7, aliD_8, forL_0, forL_1, boolP_b, lenG_s, lenG_l, lenG_t, intG_i, intG_b, intG_s, listG_l, listG_t, tupG_l, tupG_t, gAdd_i, gAdd_s, gAdd_l, gAdd_t, gAdd_b, gInt_i, gInt0_i, gCmp_i, gCmp_s, gEq_ii, gEq_ss, gEq_bb, gEq_is, gEq_si, gEq_nn, gEq_ni, gEq_ns, gEq_nb, gEq_in, gEq_sn, gEq_bn, gEq_ll, gEq_tt, gIs_n, gIs_bb, gIs_ib, gIn_l, gIn_t, gIn_s, gIx_l, gIx_t, gIx_s, gSl_s, gSl_l, gSl_t, gMulT_c, opt_s, opt_n, go_ok, go_err, f_need_word, atI_m1, atI_z]
      by_cases e1 : l = []
      · subst e1
        rw [if_pos (by rfl)]
        simpa [Res.go] using h
      by_cases e2 : m = []
      · subst e2
        rw [if_neg (by simpa using e1), if_pos (by rfl)]
        simpa [Res.go] using h
      rw [if_neg (by simpa using e1), if_neg (by simpa using e2)]
      obtain ⟨a, ha⟩ : ∃ a, l.getLast? = some a := ⟨_, List.getLast?_eq_some_getLast e1⟩
      obtain ⟨b, hb⟩ : ∃ b, m.head? = some b := ⟨_, List.head?_eq_some_head e2⟩
      have hbL : isL b = true := good_allL g2 b (List.mem_of_mem_head? hb)
      rw [ha, hb] at h ⊢
      simp only [okSet_s, okSet_0, okSet_i, okSet_o, okSet_j, notRef, on1, isiG, askB, onB, tyD, isi1, isiA, btSub, absG, strG, max2G, min2G, hasO, lendAll, lendP, frz, scD, ng, isNon, swapG, indexG, joinG, splitG, imAt, atL, fldD, fldX, putD, insD, fn_run, hideO, ends0, ends1, atH, st0, st1, gEq, gNe, gSub, gMul, gFdiv, gMod, gPow, gLt, gLe, gGt, gGe, ipG_add, ipG_sub, List.getElem?_cons_zero, List.getElem?_cons_succ, List.getElem?_nil, List.set_cons_zero, List.set_cons_succ, List.map_cons, List.map_nil, List.length_cons, List.length_nil, List.replicate_zero, List.replicate_succ, List.cons_append, List.nil_append, List.append_nil, List.append_assoc, List.head?_cons, List.lookup, List.contains_cons, List.contains_nil, List.all_cons, List.all_nil, List.any_cons, List.any_nil, Bool.true_and, Bool.and_true, Bool.false_and, Bool.and_false, Bool.or_true, Bool.true_or, Bool.or_false, Bool.false_or, Bool.not_true, Bool.not_false, Bool.and_self, decide_eq_true_eq, decide_true, decide_false, Bool.false_eq_true, if_true, if_false, ite_true, ite_false, reduceIte, reduceCtorEq, Bool.not_eq_true, Bool.not_eq_true', decide_eq_false_iff_not, not_true_eq_false, not_false_eq_true, true_and, and_true, false_and, and_false, Nat.add_zero, Nat.zero_add, Nat.reduceAdd, Nat.reduceSub, Nat.reduceLT, Nat.reduceLeDiff, Nat.sub_self, beq_iff_eq, BEq.rfl, beq_self_eq_true, anc, cflds, Option.map_some, Option.map_none, lendP_j, wipeP, elemsD, prePick, postPick, nd_run, pick_run, draw_run, wd, vVar_c, vC_c, vIm_c, vNil_c, vCons_c, vBin_c, vBl_c, vAnd_c, vOr_c, vNot_c, vAndV_c, vOrV_c, vNotV_c, vIfE_c, vLend_c, vLendT_c, vNext_c, vSeq_c, vDrop_c, vRet_c, vRetO_c, vIf_c, vSet_c, vSetO_c, vgName_c, vgNil_c, vgCons_c, vgTup_c, vAsg_c, vPar_c, vAug_c, vAug2_c, vFor_c, vCall_c, vCallR_c, vNeg_c, vChain_c, vPn_c, vPs_c, vSl_c, vRevS_c, vLst_c, vTup_c, vCB_c, vM0_c, vM1_c, vFld_c, vFldX_c, vFldO_c, vPutO_c, vApp_c, vPop_c, vExt_c, vPutI_c, vItL_c, vItT_c, vItS_c, vRng1_c, vRng2_c, vEnumL_c, vEnumS_c, vZip_c, vYes_c, vLc_c, vRaise_c, vMake_c, vMakeK_c, vCallN_c, vMeth_c, vMethN_c, vOwn2_c, vBlO_c, vOwnN_c, vOwn1_c, vLenO_c, vStrO_c, vItO_c, vFn_c, vRef_c, vMk_c, vMkK_c, vHeard_c, vEqA_c, vMulA_c, fzK_i, fzK_o, vFz_c, trK_b, trK_n, trK_i, trK_s, trK_l, trK_t, vTr_c, fn_r0, fn_r1, fn_r2, fn_r3, aliD_1, aliD_2, aliD_3, aliD_4, aliD_5, aliD_6, aliD_7, aliD_8, forL_0, forL_1, boolP_b, lenG_s, lenG_l, lenG_t, intG_i, intG_b, intG_s, listG_l, listG_t, tupG_l, tupG_t, gAdd_i, gAdd_s, gAdd_l, gAdd_t, gAdd_b, gInt_i, gInt0_i, gCmp_i, gCmp_s, gEq_ii, gEq_ss, gEq_bb, gEq_is, gEq_si, gEq_nn, gEq_ni, gEq_ns, gEq_nb, gEq_in, gEq_sn, gEq_bn, gEq_ll, gEq_tt, gIs_n, gIs_bb, gIs_ib, gIn_l, gIn_t, gIn_s, gIx_l, gIx_t, gIx_s, gSl_s, gSl_l, gSl_t, gMulT_c, opt_s, opt_n, go_ok, go_err]
      refine ⟨by omega, by omega, fun x hx => by simp at hx; rw [hx]; exact hbL, ?_⟩
      have e : (!decide ([a] = [und b])) = decide (¬ ∃ b', some b = some b' ∧ some a = some (und b')) := by
        by_cases q : a = und b
        · subst q; simp
        · simp [q]
      rw [e]
      exact h
    · exact h.elim
  · rename_i d hs
    split at h
    · rename_i ha
      unfold t_Word_fits
      cases d <;> cases ha
      all_goals (simp only [okSet_s, okSet_0, okSet_i, okSet_o, okSet_j, notRef, on1, isiG, askB, onB, tyD, isi1, isiA, btSub, absG, strG, max2G, min2G, hasO, lendAll, lendP, frz, scD, ng, isNon, swapG, indexG, joinG, splitG, imAt, atL, fldD, fldX, putD, insD, fn_run, hideO, ends0, ends1, atH, st0, st1, gEq, gNe, gSub, gMul, gFdiv, gMod, gPow, gLt, gLe, gGt, gGe, ipG_add, ipG_sub, List.getElem?_cons_zero, List.getElem?_cons_succ, List.getElem?_nil, List.set_cons_zero, List.set_cons_succ, List.map_cons, List.map_nil, List.length_cons, List.length_nil, List.replicate_zero, List.replicate_succ, List.cons_append, List.nil_append, List.append_nil, List.append_assoc, List.head?_cons, List.lookup, List.contains_cons, List.contains_nil, List.all_cons, List.all_nil, List.any_cons, List.any_nil, Bool.true_and, Bool.and_true, Bool.false_and, Bool.and_false, Bool.or_true, Bool.true_or, Bool.or_false, Bool.false_or, Bool.not_true, Bool.not_false, Bool.and_self, decide_eq_true_eq, decide_true, decide_false, Bool.false_eq_true, if_true, if_false, ite_true, ite_false, reduceIte, reduceCtorEq, Bool.not_eq_true, Bool.not_eq_true', decide_eq_false_iff_not, not_true_eq_false, not_false_eq_true, true_and, and_true, false_and, and_false, Nat.add_zero, Nat.zero_add, Nat.reduceAdd, Nat.reduceSub, Nat.reduceLT, Nat.reduceLeDiff, Nat.sub_self, beq_iff_eq, BEq.rfl, beq_self_eq_true, anc, cflds, Option.map_some, Option.map_none, lendP_j, wipeP, elemsD, prePick, postPick, nd_run, pick_run, draw_run, wd, vVar_c, vC_c, vIm_c, vNil_c, vCons_c, vBin_c, vBl_c, vAnd_c, vOr_c, vNot_c, vAndV_c, vOrV_c, vNotV_c, vIfE_c, vLend_c, vLendT_c, vNext_c, vSeq_c, vDrop_c, vRet_c, vRetO_c, vIf_c, vSet_c, vSetO_c, vgName_c, vgNil_c, vgCons_c, vgTup_c, vAsg_c, vPar_c, vAug_c, vAug2_c, vFor_c, vCall_c, vCallR_c, vNeg_c, vChain_c, vPn_c, vPs_c, vSl_c, vRevS_c, vLst_c, vTup_c, vCB_c, vM0_c, vM1_c, vFld_c, vFldX_c, vFldO_c, vPutO_c, vApp_c, vPop_c, vExt_c, vPutI_c, vItL_c, vItT_c, vItS_c, vRng1_c, vRng2_c, vEnumL_c, vEnumS_c, vZip_c, vYes_c, vLc_c, vRaise_c, vMake_c, vMakeK_c, vCallN_c, vMeth_c, vMethN_c, vOwn2_c, vBlO_c, vOwnN_c, vOwn1_c, vLenO_c, vStrO_c, vItO_c, vFn_c, vRef_c, vMk_c, vMkK_c, vHeard_c, vEqA_c, vMulA_c, fzK_i, fzK_o, vFz_c, trK_b, trK_n, trK_i, trK_s, trK_l, trK_t, vTr_c, fn_r0, fn_r1, fn_r2, fn_r3, aliD_1, aliD_2, aliD_3, aliD_4, aliD_5, aliD_6, aliD_7, aliD_8, forL_0, forL_1, boolP_b, lenG_s, lenG_l, lenG_t, intG_i, intG_b, intG_s, listG_l, listG_t, tupG_l, tupG_t, gAdd_i, gAdd_s, gAdd_l, gAdd_t, gAdd_b, gInt_i, gInt0_i, gCmp_i, gCmp_s, gEq_ii, gEq_ss, gEq_bb, gEq_is, gEq_si, gEq_nn, gEq_ni, gEq_ns, gEq_nb, gEq_in, gEq_sn, gEq_bn, gEq_ll, gEq_tt, gIs_n, gIs_bb, gIs_ib, gIn_l, gIn_t, gIn_s, gIx_l, gIx_t, gIx_s, gSl_s, gSl_l, gSl_t, gMulT_c, opt_s, opt_n, go_ok, go_err, f_need_word]; exact h)
    · exact h.elim
  · exact h.elim
end PL

end
section
set_option maxHeartbeats 1000000
/-! The law's rows: what they do to data. -/
namespace PL
open PySem PySem.Spec PyProof.Rows L2 SBX SB LamX
def t__law_pick : VS := (vRet (vBin gIx (vVar 1) (vFz (vRef 0 g__law_draw (vCons (vFz (vCB (on1 lenG) (vCons (vVar 1) vNil))) vNil)))))
theorem ob__law_pick : Ob1 t__law_pick 2 g__law_pick := by
  intro o ds Q E h
  cases o with
  | pen n =>
    obtain ⟨⟨hp, hn⟩, h⟩ := h
    unfold prePick at hp
    split at hp
    · rename_i s
      obtain ⟨xs, hx, hne, hle⟩ := Opt.get hp
      have h := fun d n' => h d n'
      have hlen : 0 < xs.length := List.length_pos_iff.mpr hne
      have key : ∀ r : Int, 0 ≤ r → r < xs.length → ∃ d, xs[r.toNat]? = some d ∧ Q (.imm d) (.pen (n + 1)) := fun r h0 h1 => by
        have hr : r.toNat < xs.length := by omega
        refine ⟨_, List.getElem?_eq_getElem hr, h _ (n + 1) ?_ (Nat.le_refl _)⟩
        exact Opt.of hx (List.getElem_mem hr)
      unfold t__law_pick
      cases s <;> cases hx
      all_goals
        simp only [okSet_s, okSet_0, okSet_i, okSet_o, okSet_j, notRef, on1, isiG, askB, onB, tyD, isi1, isiA, btSub, absG, strG, max2G, min2G, hasO, lendAll, lendP, frz, scD, ng, isNon, swapG, indexG, joinG, splitG, imAt, atL, fldD, fldX, putD, insD, fn_run, hideO, ends0, ends1, atH, st0, st1, gEq, gNe, gSub, gMul, gFdiv, gMod, gPow, gLt, gLe, gGt, gGe, ipG_add, ipG_sub, List.getElem?_cons_zero, List.getElem?_cons_succ, List.getElem?_nil, List.set_cons_zero, List.set_cons_succ, List.map_cons, List.map_nil, List.length_cons, List.length_nil, List.replicate_zero, List.replicate_succ, List.cons_append, List.nil_append, List.append_nil, List.append_assoc, List.head?_cons, List.lookup, List.contains_cons, List.contains_nil, List.all_cons, List.all_nil, List.any_cons, List.any_nil, Bool.true_and, Bool.and_true, Bool.false_and, Bool.and_false, Bool.or_true, Bool.true_or, Bool.or_false, Bool.false_or, Bool.not_true, Bool.not_false, Bool.and_self, decide_eq_true_eq, decide_true, decide_false, Bool.false_eq_true, if_true, if_false, ite_true, ite_false, reduceIte, reduceCtorEq, Bool.not_eq_true, Bool.not_eq_true', decide_eq_false_iff_not, not_true_eq_false, not_false_eq_true, true_and, and_true, false_and, and_false, Nat.add_zero, Nat.zero_add, Nat.reduceAdd, Nat.reduceSub, Nat.reduceLT, Nat.reduceLeDiff, Nat.sub_self, beq_iff_eq, BEq.rfl, beq_self_eq_true, anc, cflds, Option.map_some, Option.map_none, lendP_j, wipeP, elemsD, prePick, postPick, nd_run, pick_run, draw_run, wd, vVar_c, vC_c, vIm_c, vNil_c, vCons_c, vBin_c, vBl_c, vAnd_c, vOr_c, vNot_c, vAndV_c, vOrV_c, vNotV_c, vIfE_c, vLend_c, vLendT_c, vNext_c, vSeq_c, vDrop_c, vRet_c, vRetO_c, vIf_c, vSet_c, vSetO_c, vgName_c, vgNil_c, vgCons_c, vgTup_c, vAsg_c, vPar_c, vAug_c, vAug2_c, vFor_c, vCall_c, vCallR_c, vNeg_c, vChain_c, vPn_c, vPs_c, vSl_c, vRevS_c, vLst_c, vTup_c, vCB_c, vM0_c, vM1_c, vFld_c, vFldX_c, vFldO_c, vPutO_c, vApp_c, vPop_c, vExt_c, vPutI_c, vItL_c, vItT_c, vItS_c, vRng1_c, vRng2_c, vEnumL_c, vEnumS_c, vZip_c, vYes_c, vLc_c, vRaise_c, vMake_c, vMakeK_c, vCallN_c, vMeth_c, vMethN_c, vOwn2_c, vBlO_c, vOwnN_c, vOwn1_c, vLenO_c, vStrO_c, vItO_c, vFn_c, vRef_c, vMk_c, vMkK_c, vHeard_c, vEqA_c, vMulA_c, fzK_i, fzK_o, vFz_c, trK_b, trK_n, trK_i, trK_s, trK_l, trK_t, vTr_c, fn_r0, fn_r1, fn_r2, fn_r3, aliD_1, aliD_2, aliD_3, aliD_4, aliD_5, aliD_6, aliD_7, aliD_8, forL_0, forL_1, boolP_b, lenG_s, lenG_l, lenG_t, intG_i, intG_b, intG_s, listG_l, listG_t, tupG_l, tupG_t, gAdd_i, gAdd_s, gAdd_l, gAdd_t, gAdd_b, gInt_i, gInt0_i, gCmp_i, gCmp_s, gEq_ii, gEq_ss, gEq_bb, gEq_is, gEq_si, gEq_nn, gEq_ni, gEq_ns, gEq_nb, gEq_in, gEq_sn, gEq_bn, gEq_ll, gEq_tt, gIs_n, gIs_bb, gIs_ib, gIn_l, gIn_t, gIn_s, gIx_l, gIx_t, gIx_s, gSl_s, gSl_l, gSl_t, gMulT_c, opt_s, opt_n, go_ok, go_err, g__law_draw, sgs_len] at hlen hle key ⊢
        refine ⟨by omega, ?_⟩
        try refine ⟨by omega, ?_⟩
        intro r h0 h1
        obtain ⟨d, e, q⟩ := key r h0 h1
      all_goals first
        | (rw [atI_pos h0, e]; exact q)
        | (rename_i l _
           unfold sgs at e
           rw [List.getElem?_map] at e
           rw [atI_pos h0]
           cases e2 : l[r.toNat]? with
           | none => rw [e2] at e; cases e
           | some c =>
             rw [e2] at e
             cases e
             exact ⟨by omega, q⟩)
    · exact hp.elim
  | _ => exact h.elim
def f__law_undo (ds : List D) : Res := match ds with
  | [.str [c]] => if isL c = true then .ok (.imm (.str [und c])) else .bad
  | _ => .bad
theorem len__law_undo : ∀ ds, f__law_undo ds ≠ .bad → ds.length = 1 := by
  intro ds h
  unfold f__law_undo at h
  split at h <;> first | rfl | exact absurd rfl h
theorem at_idx {c : Nat} (h : isL c = true) : atI [97, 98, 99, 100, 65, 66, 67, 68] ((idx c : Nat) : Int) = some (und c) := by
  rcases isL_iff.mp h with rfl | rfl | rfl | rfl | rfl | rfl | rfl | rfl <;> decide +kernel
def t__law_undo : VS := (vRet (vBin gIx (vC (.str [97, 98, 99, 100, 65, 66, 67, 68])) (vFz (vM1 indexG (vC (.str [65, 66, 67, 68, 97, 98, 99, 100])) (vVar 0)))))
theorem ob__law_undo : Ob0 t__law_undo 1 f__law_undo := by
  intro ds Q E h
  unfold f__law_undo at h
  split at h
  · rename_i c
    split at h
    · rename_i hc
      unfold t__law_undo
      simp only [okSet_s, okSet_0, okSet_i, okSet_o, okSet_j, notRef, on1, isiG, askB, onB, tyD, isi1, isiA, btSub, absG, strG, max2G, min2G, hasO, lendAll, lendP, frz, scD, ng, isNon, swapG, indexG, joinG, splitG, imAt, atL, fldD, fldX, putD, insD, fn_run, hideO, ends0, ends1, atH, st0, st1, gEq, gNe, gSub, gMul, gFdiv, gMod, gPow, gLt, gLe, gGt, gGe, ipG_add, ipG_sub, List.getElem?_cons_zero, List.getElem?_cons_succ, List.getElem?_nil, List.set_cons_zero, List.set_cons_succ, List.map_cons, List.map_nil, List.length_cons, List.length_nil, List.replicate_zero, List.replicate_succ, List.cons_append, List.nil_append, List.append_nil, List.append_assoc, List.head?_cons, List.lookup, List.contains_cons, List.contains_nil, List.all_cons, List.all_nil, List.any_cons, List.any_nil, Bool.true_and, Bool.and_true, Bool.false_and, Bool.and_false, Bool.or_true, Bool.true_or, Bool.or_false, Bool.false_or, Bool.not_true, Bool.not_false, Bool.and_self, decide_eq_true_eq, decide_true, decide_false, Bool.false_eq_true, if_true, if_false, ite_true, ite_false, reduceIte, reduceCtorEq, Bool.not_eq_true, Bool.not_eq_true', decide_eq_false_iff_not, not_true_eq_false, not_false_eq_true, true_and, and_true, false_and, and_false, Nat.add_zero, Nat.zero_add, Nat.reduceAdd, Nat.reduceSub, Nat.reduceLT, Nat.reduceLeDiff, Nat.sub_self, beq_iff_eq, BEq.rfl, beq_self_eq_true, anc, cflds, Option.map_some, Option.map_none, lendP_j, wipeP, elemsD, prePick, postPick, nd_run, pick_run, draw_run, wd, vVar_c, vC_c, vIm_c, vNil_c, vCons_c, vBin_c, vBl_c, vAnd_c, vOr_c, vNot_c, vAndV_c, vOrV_c, vNotV_c, vIfE_c, vLend_c, vLendT_c, vNext_c, vSeq_c, vDrop_c, vRet_c, vRetO_c, vIf_c, vSet_c, vSetO_c, vgName_c, vgNil_c, vgCons_c, vgTup_c, vAsg_c, vPar_c, vAug_c, vAug2_c, vFor_c, vCall_c, vCallR_c, vNeg_c, vChain_c, vPn_c, vPs_c, vSl_c, vRevS_c, vLst_c, vTup_c, vCB_c, vM0_c, vM1_c, vFld_c, vFldX_c, vFldO_c, vPutO_c, vApp_c, vPop_c, vExt_c, vPutI_c, vItL_c, vItT_c, vItS_c, vRng1_c, vRng2_c, vEnumL_c, vEnumS_c, vZip_c, vYes_c, vLc_c, vRaise_c, vMake_c, vMakeK_c, vCallN_c, vMeth_c, vMethN_c, vOwn2_c, vBlO_c, vOwnN_c, vOwn1_c, vLenO_c, vStrO_c, vItO_c, vFn_c, vRef_c, vMk_c, vMkK_c, vHeard_c, vEqA_c, vMulA_c, fzK_i, fzK_o, vFz_c, trK_b, trK_n, trK_i, trK_s, trK_l, trK_t, vTr_c, fn_r0, fn_r1, fn_r2, fn_r3, aliD_1, aliD_2, aliD_3, aliD_4, aliD_5, aliD_6, aliD_7, aliD_8, forL_0, forL_1, boolP_b, lenG_s, lenG_l, lenG_t, intG_i, intG_b, intG_s, listG_l, listG_t, tupG_l, tupG_t, gAdd_i, gAdd_s, gAdd_l, gAdd_t, gAdd_b, gInt_i, gInt0_i, gCmp_i, gCmp_s, gEq_ii, gEq_ss, gEq_bb, gEq_is, gEq_si, gEq_nn, gEq_ni, gEq_ns, gEq_nb, gEq_in, gEq_sn, gEq_bn, gEq_ll, gEq_tt, gIs_n, gIs_bb, gIs_ib, gIn_l, gIn_t, gIn_s, gIx_l, gIx_t, gIx_s, gSl_s, gSl_l, gSl_t, gMulT_c, opt_s, opt_n, go_ok, go_err, at_idx hc]
      exact ⟨hc, h⟩
    · exact h.elim
  · exact h.elim
def f__law_back (ds : List D) : Res := match ds with
  | [.str l] => if firstOdd l = none ∧ l.length ≤ 100000 then .ok (.imm (.str (back l))) else .bad
  | _ => .bad
theorem len__law_back : ∀ ds, f__law_back ds ≠ .bad → ds.length = 1 := by
  intro ds h
  unfold f__law_back at h
  split at h <;> first | rfl | exact absurd rfl h
theorem back_cons (c : Nat) (l : List Nat) : back (c :: l) = back l ++ [und c] := by unfold back; simp
theorem back_snoc (c : Nat) (l : List Nat) : back (l ++ [c]) = und c :: back l := by unfold back; simp
def t__law_back : VS := (vSeq (vSet 1 (vC (.str [])))
  (vSeq (vFor (vItS (vVar 0)) (vgName 2)
  (vSet 1 (vBin gAdd (vFz (vFn f__law_undo (vCons (vVar 2) vNil))) (vVar 1))))
  (vRet (vVar 1))))
theorem ob__law_back : Ob0 t__law_back 3 f__law_back := by
  intro ds Q E h
  unfold f__law_back at h
  split at h
  · rename_i l
    split at h
    · rename_i hl
      have hL := allL_of_none hl.1
      unfold t__law_back
      simp only [okSet_s, okSet_0, okSet_i, okSet_o, okSet_j, notRef, on1, isiG, askB, onB, tyD, isi1, isiA, btSub, absG, strG, max2G, min2G, hasO, lendAll, lendP, frz, scD, ng, isNon, swapG, indexG, joinG, splitG, imAt, atL, fldD, fldX, putD, insD, fn_run, hideO, ends0, ends1, atH, st0, st1, gEq, gNe, gSub, gMul, gFdiv, gMod, gPow, gLt, gLe, gGt, gGe, ipG_add, ipG_sub, List.getElem?_cons_zero, List.getElem?_cons_succ, List.getElem?_nil, List.set_cons_zero, List.set_cons_succ, List.map_cons, List.map_nil, List.length_cons, List.length_nil, List.replicate_zero, List.replicate_succ, List.cons_append, List.nil_append, List.append_nil, List.append_assoc, List.head?_cons, List.lookup, List.contains_cons, List.contains_nil, List.all_cons, List.all_nil, List.any_cons, List.any_nil, Bool.true_and, Bool.and_true, Bool.false_and, Bool.and_false, Bool.or_true, Bool.true_or, Bool.or_false, Bool.false_or, Bool.not_true, Bool.not_false, Bool.and_self, decide_eq_true_eq, decide_true, decide_false, Bool.false_eq_true, if_true, if_false, ite_true, ite_false, reduceIte, reduceCtorEq, Bool.not_eq_true, Bool.not_eq_true', decide_eq_false_iff_not, not_true_eq_false, not_false_eq_true, true_and, and_true, false_and, and_false, Nat.add_zero, Nat.zero_add, Nat.reduceAdd, Nat.reduceSub, Nat.reduceLT, Nat.reduceLeDiff, Nat.sub_self, beq_iff_eq, BEq.rfl, beq_self_eq_true, anc, cflds, Option.map_some, Option.map_none, lendP_j, wipeP, elemsD, prePick, postPick, nd_run, pick_run, draw_run, wd, vVar_c, vC_c, vIm_c, vNil_c, vCons_c, vBin_c, vBl_c, vAnd_c, vOr_c, vNot_c, vAndV_c, vOrV_c, vNotV_c, vIfE_c, vLend_c, vLendT_c, vNext_c, vSeq_c, vDrop_c, vRet_c, vRetO_c, vIf_c, vSet_c, vSetO_c, vgName_c, vgNil_c, vgCons_c, vgTup_c, vAsg_c, vPar_c, vAug_c, vAug2_c, vFor_c, vCall_c, vCallR_c, vNeg_c, vChain_c, vPn_c, vPs_c, vSl_c, vRevS_c, vLst_c, vTup_c, vCB_c, vM0_c, vM1_c, vFld_c, vFldX_c, vFldO_c, vPutO_c, vApp_c, vPop_c, vExt_c, vPutI_c, vItL_c, vItT_c, vItS_c, vRng1_c, vRng2_c, vEnumL_c, vEnumS_c, vZip_c, vYes_c, vLc_c, vRaise_c, vMake_c, vMakeK_c, vCallN_c, vMeth_c, vMethN_c, vOwn2_c, vBlO_c, vOwnN_c, vOwn1_c, vLenO_c, vStrO_c, vItO_c, vFn_c, vRef_c, vMk_c, vMkK_c, vHeard_c, vEqA_c, vMulA_c, fzK_i, fzK_o, vFz_c, trK_b, trK_n, trK_i, trK_s, trK_l, trK_t, vTr_c, fn_r0, fn_r1, fn_r2, fn_r3, aliD_1, aliD_2, aliD_3, aliD_4, aliD_5, aliD_6, aliD_7, aliD_8, forL_0, forL_1, boolP_b, lenG_s, lenG_l, lenG_t, intG_i, intG_b, intG_s, listG_l, listG_t, tupG_l, tupG_t, gAdd_i, gAdd_s, gAdd_l, gAdd_t, gAdd_b, gInt_i, gInt0_i, gCmp_i, gCmp_s, gEq_ii, gEq_ss, gEq_bb, gEq_is, gEq_si, gEq_nn, gEq_ni, gEq_ns, gEq_nb, gEq_in, gEq_sn, gEq_bn, gEq_ll, gEq_tt, gIs_n, gIs_bb, gIs_ib, gIn_l, gIn_t, gIn_s, gIx_l, gIx_t, gIx_s, gSl_s, gSl_l, gSl_t, gMulT_c, opt_s, opt_n, go_ok, go_err]
      refine forL_ind (st := fun (a : List Nat × Option D) => [some (.imm (.str l)), some (.imm (.str a.1)), jk a.2]) (I := fun ds a => ∃ s r, l = s ++ r ∧ ds = sgs r ∧ a.1 = back s) ?_ ?_ (sgs l) ([], none) ⟨[], l, rfl, rfl, rfl⟩
      · rintro ⟨t, u⟩ ⟨s, r, hs, hr, ht⟩
        cases r with
        | cons c r => cases hr
        | nil =>
          rw [List.append_nil] at hs
          subst hs
          subst ht
          simp only [okSet_s, okSet_0, okSet_i, okSet_o, okSet_j, notRef, on1, isiG, askB, onB, tyD, isi1, isiA, btSub, absG, strG, max2G, min2G, hasO, lendAll, lendP, frz, scD, ng, isNon, swapG, indexG, joinG, splitG, imAt, atL, fldD, fldX, putD, insD, fn_run, hideO, ends0, ends1, atH, st0, st1, gEq, gNe, gSub, gMul, gFdiv, gMod, gPow, gLt, gLe, gGt, gGe, ipG_add, ipG_sub, List.getElem?_cons_zero, List.getElem?_cons_succ, List.getElem?_nil, List.set_cons_zero, List.set_cons_succ, List.map_cons, List.map_nil, List.length_cons, List.length_nil, List.replicate_zero, List.replicate_succ, List.cons_append, List.nil_append, List.append_nil, List.append_assoc, List.head?_cons, List.lookup, List.contains_cons, List.contains_nil, List.all_cons, List.all_nil, List.any_cons, List.any_nil, Bool.true_and, Bool.and_true, Bool.false_and, Bool.and_false, Bool.or_true, Bool.true_or, Bool.or_false, Bool.false_or, Bool.not_true, Bool.not_false, Bool.and_self, decide_eq_true_eq, decide_true, decide_false, Bool.false_eq_true, if_true, if_false, ite_true, ite_false, reduceIte, reduceCtorEq, Bool.not_eq_true, Bool.not_eq_true', decide_eq_false_iff_not, not_true_eq_false, not_false_eq_true, true_and, and_true, false_and, and_false, Nat.add_zero, Nat.zero_add, Nat.reduceAdd, Nat.reduceSub, Nat.reduceLT, Nat.reduceLeDiff, Nat.sub_self, beq_iff_eq, BEq.rfl, beq_self_eq_true, anc, cflds, Option.map_some, Option.map_none, lendP_j, wipeP, elemsD, prePick, postPick, nd_run, pick_run, draw_run, wd, vVar_c, vC_c, vIm_c, vNil_c, vCons_c, vBin_c, vBl_c, vAnd_c, vOr_c, vNot_c, vAndV_c, vOrV_c, vNotV_c, vIfE_c, vLend_c, vLendT_c, vNext_c, vSeq_c, vDrop_c, vRet_c, vRetO_c, vIf_c, vSet_c, vSetO_c, vgName_c, vgNil_c, vgCons_c, vgTup_c, vAsg_c, vPar_c, vAug_c, vAug2_c, vFor_c, vCall_c, vCallR_c, vNeg_c, vChain_c, vPn_c, vPs_c, vSl_c, vRevS_c, vLst_c, vTup_c, vCB_c, vM0_c, vM1_c, vFld_c, vFldX_c, vFldO_c, vPutO_c, vApp_c, vPop_c, vExt_c, vPutI_c, vItL_c, vItT_c, vItS_c, vRng1_c, vRng2_c, vEnumL_c, vEnumS_c, vZip_c, vYes_c, vLc_c, vRaise_c, vMake_c, vMakeK_c, vCallN_c, vMeth_c, vMethN_c, vOwn2_c, vBlO_c, vOwnN_c, vOwn1_c, vLenO_c, vStrO_c, vItO_c, vFn_c, vRef_c, vMk_c, vMkK_c, vHeard_c, vEqA_c, vMulA_c, fzK_i, fzK_o, vFz_c, trK_b, trK_n, trK_i, trK_s, trK_l, trK_t, vTr_c, fn_r0, fn_r1, fn_r2, fn_r3, aliD_1, aliD_2, aliD_3, aliD_4, aliD_5, aliD_6, aliD_7, aliD_8, forL_0, forL_1, boolP_b, lenG_s, lenG_l, lenG_t, intG_i, intG_b, intG_s, listG_l, listG_t, tupG_l, tupG_t, gAdd_i, gAdd_s, gAdd_l, gAdd_t, gAdd_b, gInt_i, gInt0_i, gCmp_i, gCmp_s, gEq_ii, gEq_ss, gEq_bb, gEq_is, gEq_si, gEq_nn, gEq_ni, gEq_ns, gEq_nb, gEq_in, gEq_sn, gEq_bn, gEq_ll, gEq_tt, gIs_n, gIs_bb, gIs_ib, gIn_l, gIn_t, gIn_s, gIx_l, gIx_t, gIx_s, gSl_s, gSl_l, gSl_t, gMulT_c, opt_s, opt_n, go_ok, go_err]
          exact h
      · rintro d ds ⟨t, u⟩ ⟨s, r, hs, hr, ht⟩ K hK
        cases r with
        | nil => cases hr
        | cons c r =>
          cases hr
          have hc : isL c = true := hL c (by rw [hs]; simp)
          have hle : t.length + 1 ≤ l.length := by
            have ht : t = back s := ht
            rw [ht, back_len, hs]
            simp
          simp only [okSet_s, okSet_0, okSet_i, okSet_o, okSet_j, notRef, on1, isiG, askB, onB, tyD, isi1, isiA, btSub, absG, strG, max2G, min2G, hasO, lendAll, lendP, frz, scD, ng, isNon, swapG, indexG, joinG, splitG, imAt, atL, fldD, fldX, putD, insD, fn_run, hideO, ends0, ends1, atH, st0, st1, gEq, gNe, gSub, gMul, gFdiv, gMod, gPow, gLt, gLe, gGt, gGe, ipG_add, ipG_sub, List.getElem?_cons_zero, List.getElem?_cons_succ, List.getElem?_nil, List.set_cons_zero, List.set_cons_succ, List.map_cons, List.map_nil, List.length_cons, List.length_nil, List.replicate_zero, List.replicate_succ, List.cons_append, List.nil_append, List.append_nil, List.append_assoc, List.head?_cons, List.lookup, List.contains_cons, List.contains_nil, List.all_cons, List.all_nil, List.any_cons, List.any_nil, Bool.true_and, Bool.and_true, Bool.false_and, Bool.and_false, Bool.or_true, Bool.true_or, Bool.or_false, Bool.false_or, Bool.not_true, Bool.not_false, Bool.and_self, decide_eq_true_eq, decide_true, decide_false, Bool.false_eq_true, if_true, if_false, ite_true, ite_false, reduceIte, reduceCtorEq, Bool.not_eq_true, Bool.not_eq_true', decide_eq_false_iff_not, not_true_eq_false, not_false_eq_true, true_and, and_true, false_and, and_false, Nat.add_zero, Nat.zero_add, Nat.reduceAdd, Nat.reduceSub, Nat.reduceLT, Nat.reduceLeDiff, Nat.sub_self, beq_iff_eq, BEq.rfl, beq_self_eq_true, anc, cflds, Option.map_some, Option.map_none, lendP_j, wipeP, elemsD, prePick, postPick, nd_run, pick_run, draw_run, wd, vVar_c, vC_c, vIm_c, vNil_c, vCons_c, vBin_c, vBl_c, vAnd_c, vOr_c, vNot_c, vAndV_c, vOrV_c, vNotV_c, vIfE_c, vLend_c, vLendT_c, vNext_c, vSeq_c, vDrop_c, vRet_c, vRetO_c, vIf_c, vSet_c, vSetO_c, vgName_c, vgNil_c, vgCons_c, vgTup_c, vAsg_c, vPar_c, vAug_c, vAug2_c, vFor_c, vCall_c, vCallR_c, vNeg_c, vChain_c, vPn_c, vPs_c, vSl_c, vRevS_c, vLst_c, vTup_c, vCB_c, vM0_c, vM1_c, vFld_c, vFldX_c, vFldO_c, vPutO_c, vApp_c, vPop_c, vExt_c, vPutI_c, vItL_c, vItT_c, vItS_c, vRng1_c, vRng2_c, vEnumL_c, vEnumS_c, vZip_c, vYes_c, vLc_c, vRaise_c, vMake_c, vMakeK_c, vCallN_c, vMeth_c, vMethN_c, vOwn2_c, vBlO_c, vOwnN_c, vOwn1_c, vLenO_c, vStrO_c, vItO_c, vFn_c, vRef_c, vMk_c, vMkK_c, vHeard_c, vEqA_c, vMulA_c, fzK_i, fzK_o, vFz_c, trK_b, trK_n, trK_i, trK_s, trK_l, trK_t, vTr_c, fn_r0, fn_r1, fn_r2, fn_r3, aliD_1, aliD_2, aliD_3, aliD_4, aliD_5, aliD_6, aliD_7, aliD_8, forL_0, forL_1, boolP_b, lenG_s, lenG_l, lenG_t, intG_i, intG_b, intG_s, listG_l, listG_t, tupG_l, tupG_t, gAdd_i, gAdd_s, gAdd_l, gAdd_t, gAdd_b, gInt_i, gInt0_i, gCmp_i, gCmp_s, gEq_ii, gEq_ss, gEq_bb, gEq_is, gEq_si, gEq_nn, gEq_ni, gEq_ns, gEq_nb, gEq_in, gEq_sn, gEq_bn, gEq_ll, gEq_tt, gIs_n, gIs_bb, gIs_ib, gIn_l, gIn_t, gIn_s, gIx_l, gIx_t, gIx_s, gSl_s, gSl_l, gSl_t, gMulT_c, opt_s, opt_n, go_ok, go_err, f__law_undo, if_pos hc]
          refine ⟨by omega, ?_⟩
          exact hK (und c :: t, some _) ⟨s ++ [c], r, by rw [hs]; simp, rfl, by rw [back_snoc]; exact congrArg _ ht⟩
    · exact h.elim
  · exact h.elim
def f__law_struck (ds : List D) : Res := match ds with
  | [.str l] => if firstOdd l = none ∧ l.length ≤ 100000 then .ok (.imm (.str (red l))) else .bad
  | _ => .bad
theorem len__law_struck : ∀ ds, f__law_struck ds ≠ .bad → ds.length = 1 := by
  intro ds h
  unfold f__law_struck at h
  split at h <;> first | rfl | exact absurd rfl h
def t__law_struck : VS := (vSeq (vPar 1 2 (vCons (vVar 0) (vCons (vC (.int 0)) vNil)))
  (vSeq (vWhile (vBl (vBin gLt (vBin gAdd (vVar 2) (vC (.int 1))) (vFz (vCB (on1 lenG) (vCons (vVar 1) vNil)))))
  (vIf (vBl (vBin gEq (vBin gIx (vVar 1) (vVar 2)) (vFz (vFn f__law_undo (vCons (vBin gIx (vVar 1) (vBin gAdd (vVar 2) (vC (.int 1)))) vNil)))))
  (vPar 1 2 (vCons (vBin gAdd (vSl (vVar 1) vPn (vPs (vVar 2))) (vSl (vVar 1) (vPs (vBin gAdd (vVar 2) (vC (.int 2)))) vPn)) (vCons (vFz (vCB max2G (vCons (vC (.int 0)) (vCons (vBin gSub (vVar 2) (vC (.int 1))) vNil)))) vNil)))
  (vSet 2 (vBin gAdd (vVar 2) (vC (.int 1))))))
  (vRet (vVar 1))))
theorem ob__law_struck : Ob0 t__law_struck 3 f__law_struck := by
  intro ds Q E h
  unfold f__law_struck at h
  split at h
  · rename_i l
    split at h
    · rename_i hl
      have hL := allL_of_none hl.1
      unfold t__law_struck
      simp only [okSet_s, okSet_0, okSet_i, okSet_o, okSet_j, notRef, on1, isiG, askB, onB, tyD, isi1, isiA, btSub, absG, strG, max2G, min2G, hasO, lendAll, lendP, frz, scD, ng, isNon, swapG, indexG, joinG, splitG, imAt, atL, fldD, fldX, putD, insD, fn_run, hideO, ends0, ends1, atH, st0, st1, gEq, gNe, gSub, gMul, gFdiv, gMod, gPow, gLt, gLe, gGt, gGe, ipG_add, ipG_sub, List.getElem?_cons_zero, List.getElem?_cons_succ, List.getElem?_nil, List.set_cons_zero, List.set_cons_succ, List.map_cons, List.map_nil, List.length_cons, List.length_nil, List.replicate_zero, List.replicate_succ, List.cons_append, List.nil_append, List.append_nil, List.append_assoc, List.head?_cons, List.lookup, List.contains_cons, List.contains_nil, List.all_cons, List.all_nil, List.any_cons, List.any_nil, Bool.true_and, Bool.and_true, Bool.false_and, Bool.and_false, Bool.or_true, Bool.true_or, Bool.or_false, Bool.false_or, Bool.not_true, Bool.not_false, Bool.and_self, decide_eq_true_eq, decide_true, decide_false, Bool.false_eq_true, if_true, if_false, ite_true, ite_false, reduceIte, reduceCtorEq, Bool.not_eq_true, Bool.not_eq_true', decide_eq_false_iff_not, not_true_eq_false, not_false_eq_true, true_and, and_true, false_and, and_false, Nat.add_zero, Nat.zero_add, Nat.reduceAdd, Nat.reduceSub, Nat.reduceLT, Nat.reduceLeDiff, Nat.sub_self, beq_iff_eq, BEq.rfl, beq_self_eq_true, anc, cflds, Option.map_some, Option.map_none, lendP_j, wipeP, elemsD, prePick, postPick, nd_run, pick_run, draw_run, wd, vVar_c, vC_c, vIm_c, vNil_c, vCons_c, vBin_c, vBl_c, vAnd_c, vOr_c, vNot_c, vAndV_c, vOrV_c, vNotV_c, vIfE_c, vLend_c, vLendT_c, vNext_c, vSeq_c, vDrop_c, vRet_c, vRetO_c, vIf_c, vSet_c, vSetO_c, vgName_c, vgNil_c, vgCons_c, vgTup_c, vAsg_c, vPar_c, vAug_c, vAug2_c, vFor_c, vCall_c, vCallR_c, vNeg_c, vChain_c, vPn_c, vPs_c, vSl_c, vRevS_c, vLst_c, vTup_c, vCB_c, vM0_c, vM1_c, vFld_c, vFldX_c, vFldO_c, vPutO_c, vApp_c, vPop_c, vExt_c, vPutI_c, vItL_c, vItT_c, vItS_c, vRng1_c, vRng2_c, vEnumL_c, vEnumS_c, vZip_c, vYes_c, vLc_c, vRaise_c, vMake_c, vMakeK_c, vCallN_c, vMeth_c, vMethN_c, vOwn2_c, vBlO_c, vOwnN_c, vOwn1_c, vLenO_c, vStrO_c, vItO_c, vFn_c, vRef_c, vMk_c, vMkK_c, vHeard_c, vEqA_c, vMulA_c, fzK_i, fzK_o, vFz_c, trK_b, trK_n, trK_i, trK_s, trK_l, trK_t, vTr_c, fn_r0, fn_r1, fn_r2, fn_r3, aliD_1, aliD_2, aliD_3, aliD_4, aliD_5, aliD_6, aliD_7, aliD_8, forL_0, forL_1, boolP_b, lenG_s, lenG_l, lenG_t, intG_i, intG_b, intG_s, listG_l, listG_t, tupG_l, tupG_t, gAdd_i, gAdd_s, gAdd_l, gAdd_t, gAdd_b, gInt_i, gInt0_i, gCmp_i, gCmp_s, gEq_ii, gEq_ss, gEq_bb, gEq_is, gEq_si, gEq_nn, gEq_ni, gEq_ns, gEq_nb, gEq_in, gEq_sn, gEq_bn, gEq_ll, gEq_tt, gIs_n, gIs_bb, gIs_ib, gIn_l, gIn_t, gIn_s, gIx_l, gIx_t, gIx_s, gSl_s, gSl_l, gSl_t, gMulT_c, opt_s, opt_n, go_ok, go_err]
      refine while_ind (st := fun (a : List Nat × Nat) => [some (.imm (.str l)), some (.imm (.str a.1)), some (.imm (.int a.2))]) (I := fun n a => AllL a.1 ∧ a.1.length ≤ l.length ∧ red a.1 = red l ∧ Good (a.1.take (a.2 + 1)) ∧ a.2 ≤ a.1.length ∧ n = 2 * a.1.length - a.2) _ (l, 0) ⟨hL, Nat.le_refl _, rfl, ?_, Nat.zero_le _, rfl⟩ ?_
      · cases l with
        | nil => exact good_nil
        | cons c l =>
          have := (good_snoc (s := []) (c := c)).mpr ⟨good_nil, hL c List.mem_cons_self, fun z => nomatch z⟩
          simpa using this
      · rintro n ⟨t, i⟩ ⟨h1, h2, h3, h4, h5, h6⟩ K hK
        dsimp only at h1 h2 h3 h4 h5 h6 hK
        simp only [okSet_s, okSet_0, okSet_i, okSet_o, okSet_j, notRef, on1, isiG, askB, onB, tyD, isi1, isiA, btSub, absG, strG, max2G, min2G, hasO, lendAll, lendP, frz, scD, ng, isNon, swapG, indexG, joinG, splitG, imAt, atL, fldD, fldX, putD, insD, fn_run, hideO, ends0, ends1, atH, st0, st1, gEq, gNe, gSub, gMul, gFdiv, gMod, gPow, gLt, gLe, gGt, gGe, ipG_add, ipG_sub, List.getElem?_cons_zero, List.getElem?_cons_succ, List.getElem?_nil, List.set_cons_zero, List.set_cons_succ, List.map_cons, List.map_nil, List.length_cons, List.length_nil, List.replicate_zero, List.replicate_succ, List.cons_append, List.nil_append, List.append_nil, List.append_assoc, List.head?_cons, List.lookup, List.contains_cons, List.contains_nil, List.all_cons, List.all_nil, List.any_cons, List.any_nil, Bool.true_and, Bool.and_true, Bool.false_and, Bool.and_false, Bool.or_true, Bool.true_or, Bool.or_false, Bool.false_or, Bool.not_true, Bool.not_false, Bool.and_self, decide_eq_true_eq, decide_true, decide_false, Bool.false_eq_true, if_true, if_false, ite_true, ite_false, reduceIte, reduceCtorEq, Bool.not_eq_true, Bool.not_eq_true', decide_eq_false_iff_not, not_true_eq_false, not_false_eq_true, true_and, and_true, false_and, and_false, Nat.add_zero, Nat.zero_add, Nat.reduceAdd, Nat.reduceSub, Nat.reduceLT, Nat.reduceLeDiff, Nat.sub_self, beq_iff_eq, BEq.rfl, beq_self_eq_true, anc, cflds, Option.map_some, Option.map_none, lendP_j, wipeP, elemsD, prePick, postPick, nd_run, pick_run, draw_run, wd, vVar_c, vC_c, vIm_c, vNil_c, vCons_c, vBin_c, vBl_c, vAnd_c, vOr_c, vNot_c, vAndV_c, vOrV_c, vNotV_c, vIfE_c, vLend_c, vLendT_c, vNext_c, vSeq_c, vDrop_c, vRet_c, vRetO_c, vIf_c, vSet_c, vSetO_c, vgName_c, vgNil_c, vgCons_c, vgTup_c, vAsg_c, vPar_c, vAug_c, vAug2_c, vFor_c, vCall_c, vCallR_c, vNeg_c, vChain_c, vPn_c, vPs_c, vSl_c, vRevS_c, vLst_c, vTup_c, vCB_c, vM0_c, vM1_c, vFld_c, vFldX_c, vFldO_c, vPutO_c, vApp_c, vPop_c, vExt_c, vPutI_c, vItL_c, vItT_c, vItS_c, vRng1_c, vRng2_c, vEnumL_c, vEnumS_c, vZip_c, vYes_c, vLc_c, vRaise_c, vMake_c, vMakeK_c, vCallN_c, vMeth_c, vMethN_c, vOwn2_c, vBlO_c, vOwnN_c, vOwn1_c, vLenO_c, vStrO_c, vItO_c, vFn_c, vRef_c, vMk_c, vMkK_c, vHeard_c, vEqA_c, vMulA_c, fzK_i, fzK_o, vFz_c, trK_b, trK_n, trK_i, trK_s, trK_l, trK_t, vTr_c, fn_r0, fn_r1, fn_r2, fn_r3, aliD_1, aliD_2, aliD_3, aliD_4, aliD_5, aliD_6, aliD_7, aliD_8, forL_0, forL_1, boolP_b, lenG_s, lenG_l, lenG_t, intG_i, intG_b, intG_s, listG_l, listG_t, tupG_l, tupG_t, gAdd_i, gAdd_s, gAdd_l, gAdd_t, gAdd_b, gInt_i, gInt0_i, gCmp_i, gCmp_s, gEq_ii, gEq_ss, gEq_bb, gEq_is, gEq_si, gEq_nn, gEq_ni, gEq_ns, gEq_nb, gEq_in, gEq_sn, gEq_bn, gEq_ll, gEq_tt, gIs_n, gIs_bb, gIs_ib, gIn_l, gIn_t, gIn_s, gIx_l, gIx_t, gIx_s, gSl_s, gSl_l, gSl_t, gMulT_c, opt_s, opt_n, go_ok, go_err]
        refine ⟨by omega, ?_⟩
        split
        · rename_i c1
          have i1 : i < t.length := by omega
          have i2 : i + 1 < t.length := by omega
          have ha := h1 t[i] (List.getElem_mem i1)
          have hb := h1 t[i + 1] (List.getElem_mem i2)
          have e2 : atI t ((i : Int) + 1) = some t[i + 1] := by
            rw [show (i : Int) + 1 = ((i + 1 : Nat) : Int) by omega, atI_n, List.getElem?_eq_getElem i2]
          rw [atI_n, List.getElem?_eq_getElem i1, e2]
          simp only [okSet_s, okSet_0, okSet_i, okSet_o, okSet_j, notRef, on1, isiG, askB, onB, tyD, isi1, isiA, btSub, absG, strG, max2G, min2G, hasO, lendAll, lendP, frz, scD, ng, isNon, swapG, indexG, joinG, splitG, imAt, atL, fldD, fldX, putD, insD, fn_run, hideO, ends0, ends1, atH, st0, st1, gEq, gNe, gSub, gMul, gFdiv, gMod, gPow, gLt, gLe, gGt, gGe, ipG_add, ipG_sub, List.getElem?_cons_zero, List.getElem?_cons_succ, List.getElem?_nil, List.set_cons_zero, List.set_cons_succ, List.map_cons, List.map_nil, List.length_cons, List.length_nil, List.replicate_zero, List.replicate_succ, List.cons_append, List.nil_append, List.append_nil, List.append_assoc, List.head?_cons, List.lookup, List.contains_cons, List.contains_nil, List.all_cons, List.all_nil, List.any_cons, List.any_nil, Bool.true_and, Bool.and_true, Bool.false_and, Bool.and_false, Bool.or_true, Bool.true_or, Bool.or_false, Bool.false_or, Bool.not_true, Bool.not_false, Bool.and_self, decide_eq_true_eq, decide_true, decide_false, Bool.false_eq_true, if_true, if_false, ite_true, ite_false, reduceIte, reduceCtorEq, Bool.not_eq_true, Bool.not_eq_true', decide_eq_false_iff_not, not_true_eq_false, not_false_eq_true, true_and, and_true, false_and, and_false, Nat.add_zero, Nat.zero_add, Nat.reduceAdd, Nat.reduceSub, Nat.reduceLT, Nat.reduceLeDiff, Nat.sub_self, beq_iff_eq, BEq.rfl, beq_self_eq_true, anc, cflds, Option.map_some, Option.map_none, lendP_j, wipeP, elemsD, prePick, postPick, nd_run, pick_run, draw_run, wd, vVar_c, vC_c, vIm_c, vNil_c, vCons_c, vBin_c, vBl_c, vAnd_c, vOr_c, vNot_c, vAndV_c, vOrV_c, vNotV_c, vIfE_c, vLend_c, vLendT_c, vNext_c, vSeq_c, vDrop_c, vRet_c, vRetO_c, vIf_c, vSet_c, vSetO_c, vgName_c, vgNil_c, vgCons_c, vgTup_c, vAsg_c, vPar_c, vAug_c, vAug2_c, vFor_c, vCall_c, vCallR_c, vNeg_c, vChain_c, vPn_c, vPs_c, vSl_c, vRevS_c, vLst_c, vTup_c, vCB_c, vM0_c, vM1_c, vFld_c, vFldX_c, vFldO_c, vPutO_c, vApp_c, vPop_c, vExt_c, vPutI_c, vItL_c, vItT_c, vItS_c, vRng1_c, vRng2_c, vEnumL_c, vEnumS_c, vZip_c, vYes_c, vLc_c, vRaise_c, vMake_c, vMakeK_c, vCallN_c, vMeth_c, vMethN_c, vOwn2_c, vBlO_c, vOwnN_c, vOwn1_c, vLenO_c, vStrO_c, vItO_c, vFn_c, vRef_c, vMk_c, vMkK_c, vHeard_c, vEqA_c, vMulA_c, fzK_i, fzK_o, vFz_c, trK_b, trK_n, trK_i, trK_s, trK_l, trK_t, vTr_c, fn_r0, fn_r1, fn_r2, fn_r3, aliD_1, aliD_2, aliD_3, aliD_4, aliD_5, aliD_6, aliD_7, aliD_8, forL_0, forL_1, boolP_b, lenG_s, lenG_l, lenG_t, intG_i, intG_b, intG_s, listG_l, listG_t, tupG_l, tupG_t, gAdd_i, gAdd_s, gAdd_l, gAdd_t, gAdd_b, gInt_i, gInt0_i, gCmp_i, gCmp_s, gEq_ii, gEq_ss, gEq_bb, gEq_is, gEq_si, gEq_nn, gEq_ni, gEq_ns, gEq_nb, gEq_in, gEq_sn, gEq_bn, gEq_ll, gEq_tt, gIs_n, gIs_bb, gIs_ib, gIn_l, gIn_t, gIn_s, gIx_l, gIx_t, gIx_s, gSl_s, gSl_l, gSl_t, gMulT_c, opt_s, opt_n, go_ok, go_err, f__law_undo, if_pos hb]
          have sp : t = t.take i ++ t[i] :: t[i + 1] :: t.drop (i + 2) := by
            conv => lhs; rw [← List.take_append_drop i t, List.drop_eq_getElem_cons i1, List.drop_eq_getElem_cons i2]
          refine ⟨by omega, by omega, ?_⟩
          split
          · rename_i e
            have e : t[i] = und t[i + 1] := by simpa using e
            have hr : red (t.take i ++ t.drop (i + 2)) = red l := by
              rw [← h3]
              conv => rhs; rw [sp]
              exact (red_pair (fun x hx => h1 x (List.mem_of_mem_take hx)) ha hb e).symm
            have hlen : (t.take i ++ t.drop (i + 2)).length + 2 = t.length := by
              rw [List.length_append, List.length_take, List.length_drop]
              omega
            have hAll : AllL (t.take i ++ t.drop (i + 2)) := fun x hx => (List.mem_append.mp hx).elim (fun q => h1 x (List.mem_of_mem_take q)) (fun q => h1 x (List.mem_of_mem_drop q))
            rw [cut_to (by omega), cut_from (by omega), Int.toNat_natCast, show ((i : Int) + 2).toNat = i + 2 by omega]
            refine ⟨by omega, by omega, by rw [List.length_append] at hlen; omega, ?_⟩
            have em : (if (i : Int) - 1 > 0 then (i : Int) - 1 else 0) = ((i - 1 : Nat) : Int) := by split <;> omega
            rw [em]
            refine hK _ (t.take i ++ t.drop (i + 2), i - 1) ?_ ⟨hAll, by dsimp only; omega, hr, ?_, by dsimp only; omega, rfl⟩
            · show 2 * (t.take i ++ t.drop (i + 2)).length - (i - 1) < n
              omega
            · show Good ((t.take i ++ t.drop (i + 2)).take (i - 1 + 1))
              by_cases h0 : i = 0
              · subst h0
                simp only [List.take_zero, List.nil_append]
                cases hd : t.drop (0 + 2) with
                | nil => exact good_nil
                | cons c r =>
                  have := (good_snoc (s := []) (c := c)).mpr ⟨good_nil, h1 c (List.mem_of_mem_drop (i := 0 + 2) (by rw [hd]; exact List.mem_cons_self)), fun z => nomatch z⟩
                  simpa using this
              · rw [show i - 1 + 1 = i by omega, List.take_append_of_le_length (by rw [List.length_take]; omega), List.take_take, Nat.min_self]
                have := good_take h4 i
                rwa [List.take_take, Nat.min_eq_left (by omega)] at this
          · rename_i e
            refine hK _ (t, i + 1) ?_ ⟨h1, h2, h3, ?_, by show i + 1 ≤ t.length; omega, rfl⟩
            · show 2 * t.length - (i + 1) < n
              omega
            · show Good (t.take (i + 1 + 1))
              rw [List.take_succ_eq_append_getElem i2]
              refine good_snoc.mpr ⟨h4, hb, ?_⟩
              intro z
              rw [List.take_succ_eq_append_getElem i1, List.getLast?_concat] at z
              exact e (by simpa using z)
        · rename_i c1
          have : t.take (i + 1) = t := List.take_of_length_le (by omega)
          rw [this] at h4
          have := red_of_good h4
          rw [h3] at this
          rw [← this]
          exact h
    · exact h.elim
  · exact h.elim
def f__law_told (ds : List D) : Res := match ds with
  | [.bl t, .bl d] => .ok (.imm (.bl (decide (t = d))))
  | _ => .bad
theorem len__law_told : ∀ ds, f__law_told ds ≠ .bad → ds.length = 2 := by
  intro ds h
  unfold f__law_told at h
  split at h <;> first | rfl | exact absurd rfl h
def t__law_told : VS := (vRet (vIfE (vTr (vVar 1)) (vBin (gIs false) (vVar 0) (vC (.bl true))) (vBin (gIs false) (vVar 0) (vC (.bl false)))))
theorem ob__law_told : Ob0 t__law_told 2 f__law_told := by
  intro ds Q E h
  unfold f__law_told at h
  split at h
  · rename_i t d
    unfold t__law_told
    simp only [okSet_s, okSet_0, okSet_i, okSet_o, okSet_j, notRef, on1, isiG, askB, onB, tyD, isi1, isiA, btSub, absG, strG, max2G, min2G, hasO, lendAll, lendP, frz, scD, ng, isNon, swapG, indexG, joinG, splitG, imAt, atL, fldD, fldX, putD, insD, fn_run, hideO, ends0, ends1, atH, st0, st1, gEq, gNe, gSub, gMul, gFdiv, gMod, gPow, gLt, gLe, gGt, gGe, ipG_add, ipG_sub, List.getElem?_cons_zero, List.getElem?_cons_succ, List.getElem?_nil, List.set_cons_zero, List.set_cons_succ, List.map_cons, List.map_nil, List.length_cons, List.length_nil, List.replicate_zero, List.replicate_succ, List.cons_append, List.nil_append, List.append_nil, List.append_assoc, List.head?_cons, List.lookup, List.contains_cons, List.contains_nil, List.all_cons, List.all_nil, List.any_cons, List.any_nil, Bool.true_and, Bool.and_true, Bool.false_and, Bool.and_false, Bool.or_true, Bool.true_or, Bool.or_false, Bool.false_or, Bool.not_true, Bool.not_false, Bool.and_self, decide_eq_true_eq, decide_true, decide_false, Bool.false_eq_true, if_true, if_false, ite_true, ite_false, reduceIte, reduceCtorEq, Bool.not_eq_true, Bool.not_eq_true', decide_eq_false_iff_not, not_true_eq_false, not_false_eq_true, true_and, and_true, false_and, and_false, Nat.add_zero, Nat.zero_add, Nat.reduceAdd, Nat.reduceSub, Nat.reduceLT, Nat.reduceLeDiff, Nat.sub_self, beq_iff_eq, BEq.rfl, beq_self_eq_true, anc, cflds, Option.map_some, Option.map_none, lendP_j, wipeP, elemsD, prePick, postPick, nd_run, pick_run, draw_run, wd, vVar_c, vC_c, vIm_c, vNil_c, vCons_c, vBin_c, vBl_c, vAnd_c, vOr_c, vNot_c, vAndV_c, vOrV_c, vNotV_c, vIfE_c, vLend_c, vLendT_c, vNext_c, vSeq_c, vDrop_c, vRet_c, vRetO_c, vIf_c, vSet_c, vSetO_c, vgName_c, vgNil_c, vgCons_c, vgTup_c, vAsg_c, vPar_c, vAug_c, vAug2_c, vFor_c, vCall_c, vCallR_c, vNeg_c, vChain_c, vPn_c, vPs_c, vSl_c, vRevS_c, vLst_c, vTup_c, vCB_c, vM0_c, vM1_c, vFld_c, vFldX_c, vFldO_c, vPutO_c, vApp_c, vPop_c, vExt_c, vPutI_c, vItL_c, vItT_c, vItS_c, vRng1_c, vRng2_c, vEnumL_c, vEnumS_c, vZip_c, vYes_c, vLc_c, vRaise_c, vMake_c, vMakeK_c, vCallN_c, vMeth_c, vMethN_c, vOwn2_c, vBlO_c, vOwnN_c, vOwn1_c, vLenO_c, vStrO_c, vItO_c, vFn_c, vRef_c, vMk_c, vMkK_c, vHeard_c, vEqA_c, vMulA_c, fzK_i, fzK_o, vFz_c, trK_b, trK_n, trK_i, trK_s, trK_l, trK_t, vTr_c, fn_r0, fn_r1, fn_r2, fn_r3, aliD_1, aliD_2, aliD_3, aliD_4, aliD_5, aliD_6, aliD_7, aliD_8, forL_0, forL_1, boolP_b, lenG_s, lenG_l, lenG_t, intG_i, intG_b, intG_s, listG_l, listG_t, tupG_l, tupG_t, gAdd_i, gAdd_s, gAdd_l, gAdd_t, gAdd_b, gInt_i, gInt0_i, gCmp_i, gCmp_s, gEq_ii, gEq_ss, gEq_bb, gEq_is, gEq_si, gEq_nn, gEq_ni, gEq_ns, gEq_nb, gEq_in, gEq_sn, gEq_bn, gEq_ll, gEq_tt, gIs_n, gIs_bb, gIs_ib, gIn_l, gIn_t, gIn_s, gIx_l, gIx_t, gIx_s, gSl_s, gSl_l, gSl_t, gMulT_c, opt_s, opt_n, go_ok, go_err]
    cases t <;> cases d <;> exact h
  · exact h.elim
end PL

end
section
set_option maxHeartbeats 1000000
/-! The law's own defs: what they do to data. -/
namespace PL
open PySem PySem.Spec PyProof.Rows L2 SBX SB LamX
def fS (q : Nat → Bool) (d : D) : Option D := match d with
  | .str [c] => if q c = true then some (.str [c]) else none
  | _ => none
theorem fm_sgs (q : Nat → Bool) : ∀ k : List Nat, (sgs k).filterMap (fS q) = sgs (k.filter q)
  | [] => rfl
  | c :: k => by
    show (D.str [c] :: sgs k).filterMap (fS q) = _
    cases e : q c with
    | true =>
      have e1 : fS q (.str [c]) = some (.str [c]) := if_pos e
      rw [List.filterMap_cons_some e1, fm_sgs q k, List.filter_cons_of_pos e]
      rfl
    | false =>
      have e1 : fS q (.str [c]) = none := if_neg (by rw [e]; decide)
      rw [List.filterMap_cons_none e1, fm_sgs q k, List.filter_cons_of_neg (by rw [e]; decide)]
/-- signs chosen from signs -/
theorem lcL_sg {g : VG} {tt : VB} {te : VT} {vs : List Nat} {k : List D → PSt → Prop} (ρ : PSt) (q : Nat → Bool) (l : List Nat)
    (hs : ∀ c ∈ l, ∀ (K1 : D → PSt → Prop) (K2 : PSt → Prop), (if q c = true then K1 (.str [c]) ρ else K2 ρ) → g (.str [c]) (wipeP ρ vs) fun ρ2 => tt noE ρ2 fun b ρ3 => if b = true then te noE ρ3 fun x ρ4 => K1 x (wipeP ρ4 vs) else K2 (wipeP ρ3 vs))
    (h : k (sgs (l.filter q)) ρ) : lcL g tt te vs (sgs l) [] ρ k := by
  refine lcL_map ρ (fS q) (sgs l) [] (fun d hd K1 K2 hK => ?_) (by rw [fm_sgs]; exact h)
  obtain ⟨c, hc, rfl⟩ := List.mem_map.mp hd
  refine hs c hc K1 K2 ?_
  have e : fS q (.str [c]) = if q c = true then some (.str [c]) else none := rfl
  rw [e] at hK
  by_cases hq : q c = true
  · rw [if_pos hq] at hK ⊢; exact hK
  · rw [if_neg hq] at hK ⊢; exact hK
def g__law_row : RSp := ndR 30 (fun ds => match ds with
  | [.int m] => 0 ≤ m ∧ m ≤ 28
  | _ => False) (fun ds d => match ds, d with
  | [.int m], .str l => Good l ∧ (l.length : Int) ≤ m
  | _, _ => False)
theorem len__law_row : ∀ o ds Q E, g__law_row.run o ds Q E → ds.length + 1 = 2 := len_nd fun ds h => by
  split at h
  · rfl
  · exact h.elim
def kindOk (k : List Nat) : Prop := AllL k ∧ ∀ c, ∃ x ∈ k, x ≠ c
def t__law_row : VS := (vSeq (vAsg (vTup (vCons (vC (.str [])) (vCons (vFz (vRef 0 g__law_pick (vCons (vFz (vLst (vCons (vC (.str [65, 66, 67, 68, 97, 98, 99, 100])) (vCons (vC (.str [65, 97, 98])) (vCons (vC (.str [65, 66, 97, 98])) (vCons (vC (.str [67, 99, 100, 66])) (vCons (vC (.str [65, 68])) vNil))))))) vNil))) vNil))) (vgTup 2 (vgCons (vgName 2) (vgCons (vgName 3) vgNil))))
  (vSeq (vFor (vRng1 (vCons (vFz (vRef 0 g__law_draw (vCons (vBin gAdd (vVar 1) (vC (.int 1))) vNil))) vNil)) (vgName 4)
  (vSeq (vSet 5 (vFz (vLc (vItS (vVar 3)) (vgName 6) (vOr (vBl (vBin gEq (vVar 2) (vC (.str [])))) (vBl (vBin gNe (vVar 6) (vFz (vFn f__law_undo (vCons (vBin gIx (vVar 2) (vNeg (vC (.int 1)))) vNil)))))) (vVar 6) [6])))
  (vSet 2 (vBin gAdd (vVar 2) (vFz (vRef 0 g__law_pick (vCons (vVar 5) vNil)))))))
  (vRet (vVar 2))))
theorem ob__law_row : Ob1 t__law_row 7 g__law_row := by
  intro o ds Q E h
  cases o with
  | pen n =>
    obtain ⟨⟨hp, hn⟩, h⟩ := h
    split at hp
    · rename_i m
      unfold t__law_row
      simp only [okSet_s, okSet_0, okSet_i, okSet_o, okSet_j, notRef, on1, isiG, askB, onB, tyD, isi1, isiA, btSub, absG, strG, max2G, min2G, hasO, lendAll, lendP, frz, scD, ng, isNon, swapG, indexG, joinG, splitG, imAt, atL, fldD, fldX, putD, insD, fn_run, hideO, ends0, ends1, atH, st0, st1, gEq, gNe, gSub, gMul, gFdiv, gMod, gPow, gLt, gLe, gGt, gGe, ipG_add, ipG_sub, List.getElem?_cons_zero, List.getElem?_cons_succ, List.getElem?_nil, List.set_cons_zero, List.set_cons_succ, List.map_cons, List.map_nil, List.length_cons, List.length_nil, List.replicate_zero, List.replicate_succ, List.cons_append, List.nil_append, List.append_nil, List.append_assoc, List.head?_cons, List.lookup, List.contains_cons, List.contains_nil, List.all_cons, List.all_nil, List.any_cons, List.any_nil, Bool.true_and, Bool.and_true, Bool.false_and, Bool.and_false, Bool.or_true, Bool.true_or, Bool.or_false, Bool.false_or, Bool.not_true, Bool.not_false, Bool.and_self, decide_eq_true_eq, decide_true, decide_false, Bool.false_eq_true, if_true, if_false, ite_true, ite_false, reduceIte, reduceCtorEq, Bool.not_eq_true, Bool.not_eq_true', decide_eq_false_iff_not, not_true_eq_false, not_false_eq_true, true_and, and_true, false_and, and_false, Nat.add_zero, Nat.zero_add, Nat.reduceAdd, Nat.reduceSub, Nat.reduceLT, Nat.reduceLeDiff, Nat.sub_self, beq_iff_eq, BEq.rfl, beq_self_eq_true, anc, cflds, Option.map_some, Option.map_none, lendP_j, wipeP, elemsD, prePick, postPick, nd_run, pick_run, draw_run, wd, vVar_c, vC_c, vIm_c, vNil_c, vCons_c, vBin_c, vBl_c, vAnd_c, vOr_c, vNot_c, vAndV_c, vOrV_c, vNotV_c, vIfE_c, vLend_c, vLendT_c, vNext_c, vSeq_c, vDrop_c, vRet_c, vRetO_c, vIf_c, vSet_c, vSetO_c, vgName_c, vgNil_c, vgCons_c, vgTup_c, vAsg_c, vPar_c, vAug_c, vAug2_c, vFor_c, vCall_c, vCallR_c, vNeg_c, vChain_c, vPn_c, vPs_c, vSl_c, vRevS_c, vLst_c, vTup_c, vCB_c, vM0_c, vM1_c, vFld_c, vFldX_c, vFldO_c, vPutO_c, vApp_c, vPop_c, vExt_c, vPutI_c, vItL_c, vItT_c, vItS_c, vRng1_c, vRng2_c, vEnumL_c, vEnumS_c, vZip_c, vYes_c, vLc_c, vRaise_c, vMake_c, vMakeK_c, vCallN_c, vMeth_c, vMethN_c, vOwn2_c, vBlO_c, vOwnN_c, vOwn1_c, vLenO_c, vStrO_c, vItO_c, vFn_c, vRef_c, vMk_c, vMkK_c, vHeard_c, vEqA_c, vMulA_c, fzK_i, fzK_o, vFz_c, trK_b, trK_n, trK_i, trK_s, trK_l, trK_t, vTr_c, fn_r0, fn_r1, fn_r2, fn_r3, aliD_1, aliD_2, aliD_3, aliD_4, aliD_5, aliD_6, aliD_7, aliD_8, forL_0, forL_1, boolP_b, lenG_s, lenG_l, lenG_t, intG_i, intG_b, intG_s, listG_l, listG_t, tupG_l, tupG_t, gAdd_i, gAdd_s, gAdd_l, gAdd_t, gAdd_b, gInt_i, gInt0_i, gCmp_i, gCmp_s, gEq_ii, gEq_ss, gEq_bb, gEq_is, gEq_si, gEq_nn, gEq_ni, gEq_ns, gEq_nb, gEq_in, gEq_sn, gEq_bn, gEq_ll, gEq_tt, gIs_n, gIs_bb, gIs_ib, gIn_l, gIn_t, gIn_s, gIx_l, gIx_t, gIx_s, gSl_s, gSl_l, gSl_t, gMulT_c, opt_s, opt_n, go_ok, go_err]
      refine ⟨⟨(fun z => nomatch z), by omega⟩, fun d n1 hd h1 => ?_⟩
      have hk : ∃ k, d = .str k ∧ kindOk k := by
        simp only [List.mem_cons, List.not_mem_nil, or_false] at hd
        rcases hd with rfl | rfl | rfl | rfl | rfl
        all_goals
          refine ⟨_, rfl, allL_of_none (by decide +kernel), fun c => ?_⟩
        · by_cases hc : c = 65
          · exact ⟨66, by decide, by omega⟩
          · exact ⟨65, by decide, by omega⟩
        · by_cases hc : c = 65
          · exact ⟨97, by decide, by omega⟩
          · exact ⟨65, by decide, by omega⟩
        · by_cases hc : c = 65
          · exact ⟨66, by decide, by omega⟩
          · exact ⟨65, by decide, by omega⟩
        · by_cases hc : c = 67
          · exact ⟨99, by decide, by omega⟩
          · exact ⟨67, by decide, by omega⟩
        · by_cases hc : c = 65
          · exact ⟨68, by decide, by omega⟩
          · exact ⟨65, by decide, by omega⟩
      obtain ⟨k, rfl, hk1, hk2⟩ := hk
      have hkl : k.length ≤ 1000 := by
        simp only [List.mem_cons, List.not_mem_nil, or_false, D.str.injEq] at hd
        rcases hd with e | e | e | e | e <;> rw [e] <;> decide
      refine ⟨⟨by omega, by omega, by omega⟩, fun r h0 hr => ⟨⟨by omega, by omega⟩, ?_⟩⟩
      refine forL_ind (st := fun (a : Nat × List Nat × Option D × Option D) => [some (.own true (.pen a.1)), some (.imm (.int m)), some (.imm (.str a.2.1)), some (.imm (.str k)), jk a.2.2.1, jk a.2.2.2, none]) (I := fun ds a => Good a.2.1 ∧ a.2.1.length + ds.length ≤ m.toNat ∧ a.1 + ds.length ≤ n + 2 + m.toNat) ?_ ?_ (rngD 0 r.toNat) (n1 + 1, [], none, none) ⟨good_nil, by rw [rngD_len]; simp; omega, by rw [rngD_len]; simp; omega⟩
      · rintro ⟨p, t, u, v⟩ ⟨g, l1, l2⟩
        dsimp only at g l1 l2
        simp only [okSet_s, okSet_0, okSet_i, okSet_o, okSet_j, notRef, on1, isiG, askB, onB, tyD, isi1, isiA, btSub, absG, strG, max2G, min2G, hasO, lendAll, lendP, frz, scD, ng, isNon, swapG, indexG, joinG, splitG, imAt, atL, fldD, fldX, putD, insD, fn_run, hideO, ends0, ends1, atH, st0, st1, gEq, gNe, gSub, gMul, gFdiv, gMod, gPow, gLt, gLe, gGt, gGe, ipG_add, ipG_sub, List.getElem?_cons_zero, List.getElem?_cons_succ, List.getElem?_nil, List.set_cons_zero, List.set_cons_succ, List.map_cons, List.map_nil, List.length_cons, List.length_nil, List.replicate_zero, List.replicate_succ, List.cons_append, List.nil_append, List.append_nil, List.append_assoc, List.head?_cons, List.lookup, List.contains_cons, List.contains_nil, List.all_cons, List.all_nil, List.any_cons, List.any_nil, Bool.true_and, Bool.and_true, Bool.false_and, Bool.and_false, Bool.or_true, Bool.true_or, Bool.or_false, Bool.false_or, Bool.not_true, Bool.not_false, Bool.and_self, decide_eq_true_eq, decide_true, decide_false, Bool.false_eq_true, if_true, if_false, ite_true, ite_false, reduceIte, reduceCtorEq, Bool.not_eq_true, Bool.not_eq_true', decide_eq_false_iff_not, not_true_eq_false, not_false_eq_true, true_and, and_true, false_and, and_false, Nat.add_zero, Nat.zero_add, Nat.reduceAdd, Nat.reduceSub, Nat.reduceLT, Nat.reduceLeDiff, Nat.sub_self, beq_iff_eq, BEq.rfl, beq_self_eq_true, anc, cflds, Option.map_some, Option.map_none, lendP_j, wipeP, elemsD, prePick, postPick, nd_run, pick_run, draw_run, wd, vVar_c, vC_c, vIm_c, vNil_c, vCons_c, vBin_c, vBl_c, vAnd_c, vOr_c, vNot_c, vAndV_c, vOrV_c, vNotV_c, vIfE_c, vLend_c, vLendT_c, vNext_c, vSeq_c, vDrop_c, vRet_c, vRetO_c, vIf_c, vSet_c, vSetO_c, vgName_c, vgNil_c, vgCons_c, vgTup_c, vAsg_c, vPar_c, vAug_c, vAug2_c, vFor_c, vCall_c, vCallR_c, vNeg_c, vChain_c, vPn_c, vPs_c, vSl_c, vRevS_c, vLst_c, vTup_c, vCB_c, vM0_c, vM1_c, vFld_c, vFldX_c, vFldO_c, vPutO_c, vApp_c, vPop_c, vExt_c, vPutI_c, vItL_c, vItT_c, vItS_c, vRng1_c, vRng2_c, vEnumL_c, vEnumS_c, vZip_c, vYes_c, vLc_c, vRaise_c, vMake_c, vMakeK_c, vCallN_c, vMeth_c, vMethN_c, vOwn2_c, vBlO_c, vOwnN_c, vOwn1_c, vLenO_c, vStrO_c, vItO_c, vFn_c, vRef_c, vMk_c, vMkK_c, vHeard_c, vEqA_c, vMulA_c, fzK_i, fzK_o, vFz_c, trK_b, trK_n, trK_i, trK_s, trK_l, trK_t, vTr_c, fn_r0, fn_r1, fn_r2, fn_r3, aliD_1, aliD_2, aliD_3, aliD_4, aliD_5, aliD_6, aliD_7, aliD_8, forL_0, forL_1, boolP_b, lenG_s, lenG_l, lenG_t, intG_i, intG_b, intG_s, listG_l, listG_t, tupG_l, tupG_t, gAdd_i, gAdd_s, gAdd_l, gAdd_t, gAdd_b, gInt_i, gInt0_i, gCmp_i, gCmp_s, gEq_ii, gEq_ss, gEq_bb, gEq_is, gEq_si, gEq_nn, gEq_ni, gEq_ns, gEq_nb, gEq_in, gEq_sn, gEq_bn, gEq_ll, gEq_tt, gIs_n, gIs_bb, gIs_ib, gIn_l, gIn_t, gIn_s, gIx_l, gIx_t, gIx_s, gSl_s, gSl_l, gSl_t, gMulT_c, opt_s, opt_n, go_ok, go_err]
        simp at l1 l2
        exact h (.str t) p ⟨g, by omega⟩ (by omega)
      · rintro d ds ⟨p, t, u, v⟩ ⟨g, l1, l2⟩ K hK
        dsimp only at g l1 l2 hK
        simp only [List.length_cons] at l1 l2
        simp only [okSet_s, okSet_0, okSet_i, okSet_o, okSet_j, notRef, on1, isiG, askB, onB, tyD, isi1, isiA, btSub, absG, strG, max2G, min2G, hasO, lendAll, lendP, frz, scD, ng, isNon, swapG, indexG, joinG, splitG, imAt, atL, fldD, fldX, putD, insD, fn_run, hideO, ends0, ends1, atH, st0, st1, gEq, gNe, gSub, gMul, gFdiv, gMod, gPow, gLt, gLe, gGt, gGe, ipG_add, ipG_sub, List.getElem?_cons_zero, List.getElem?_cons_succ, List.getElem?_nil, List.set_cons_zero, List.set_cons_succ, List.map_cons, List.map_nil, List.length_cons, List.length_nil, List.replicate_zero, List.replicate_succ, List.cons_append, List.nil_append, List.append_nil, List.append_assoc, List.head?_cons, List.lookup, List.contains_cons, List.contains_nil, List.all_cons, List.all_nil, List.any_cons, List.any_nil, Bool.true_and, Bool.and_true, Bool.false_and, Bool.and_false, Bool.or_true, Bool.true_or, Bool.or_false, Bool.false_or, Bool.not_true, Bool.not_false, Bool.and_self, decide_eq_true_eq, decide_true, decide_false, Bool.false_eq_true, if_true, if_false, ite_true, ite_false, reduceIte, reduceCtorEq, Bool.not_eq_true, Bool.not_eq_true', decide_eq_false_iff_not, not_true_eq_false, not_false_eq_true, true_and, and_true, false_and, and_false, Nat.add_zero, Nat.zero_add, Nat.reduceAdd, Nat.reduceSub, Nat.reduceLT, Nat.reduceLeDiff, Nat.sub_self, beq_iff_eq, BEq.rfl, beq_self_eq_true, anc, cflds, Option.map_some, Option.map_none, lendP_j, wipeP, elemsD, prePick, postPick, nd_run, pick_run, draw_run, wd, vVar_c, vC_c, vIm_c, vNil_c, vCons_c, vBin_c, vBl_c, vAnd_c, vOr_c, vNot_c, vAndV_c, vOrV_c, vNotV_c, vIfE_c, vLend_c, vLendT_c, vNext_c, vSeq_c, vDrop_c, vRet_c, vRetO_c, vIf_c, vSet_c, vSetO_c, vgName_c, vgNil_c, vgCons_c, vgTup_c, vAsg_c, vPar_c, vAug_c, vAug2_c, vFor_c, vCall_c, vCallR_c, vNeg_c, vChain_c, vPn_c, vPs_c, vSl_c, vRevS_c, vLst_c, vTup_c, vCB_c, vM0_c, vM1_c, vFld_c, vFldX_c, vFldO_c, vPutO_c, vApp_c, vPop_c, vExt_c, vPutI_c, vItL_c, vItT_c, vItS_c, vRng1_c, vRng2_c, vEnumL_c, vEnumS_c, vZip_c, vYes_c, vLc_c, vRaise_c, vMake_c, vMakeK_c, vCallN_c, vMeth_c, vMethN_c, vOwn2_c, vBlO_c, vOwnN_c, vOwn1_c, vLenO_c, vStrO_c, vItO_c, vFn_c, vRef_c, vMk_c, vMkK_c, vHeard_c, vEqA_c, vMulA_c, fzK_i, fzK_o, vFz_c, trK_b, trK_n, trK_i, trK_s, trK_l, trK_t, vTr_c, fn_r0, fn_r1, fn_r2, fn_r3, aliD_1, aliD_2, aliD_3, aliD_4, aliD_5, aliD_6, aliD_7, aliD_8, forL_0, forL_1, boolP_b, lenG_s, lenG_l, lenG_t, intG_i, intG_b, intG_s, listG_l, listG_t, tupG_l, tupG_t, gAdd_i, gAdd_s, gAdd_l, gAdd_t, gAdd_b, gInt_i, gInt0_i, gCmp_i, gCmp_s, gEq_ii, gEq_ss, gEq_bb, gEq_is, gEq_si, gEq_nn, gEq_ni, gEq_ns, gEq_nb, gEq_in, gEq_sn, gEq_bn, gEq_ll, gEq_tt, gIs_n, gIs_bb, gIs_ib, gIn_l, gIn_t, gIn_s, gIx_l, gIx_t, gIx_s, gSl_s, gSl_l, gSl_t, gMulT_c, opt_s, opt_n, go_ok, go_err]
        refine ⟨by simp; omega, ?_⟩
        refine lcL_sg _ (fun c => decide (t.getLast?.map und ≠ some c)) k ?_ ?_
        · intro c hc K1 K2 hK12
          have hcL : isL c = true := hk1 c hc
          cases ht : t.getLast? with
          | none =>
            have : t = [] := by simpa using ht
            subst this
            simp only [okSet_s, okSet_0, okSet_i, okSet_o, okSet_j, notRef, on1, isiG, askB, onB, tyD, isi1, isiA, btSub, absG, strG, max2G, min2G, hasO, lendAll, lendP, frz, scD, ng, isNon, swapG, indexG, joinG, splitG, imAt, atL, fldD, fldX, putD, insD, fn_run, hideO, ends0, ends1, atH, st0, st1, gEq, gNe, gSub, gMul, gFdiv, gMod, gPow, gLt, gLe, gGt, gGe, ipG_add, ipG_sub, List.getElem?_cons_zero, List.getElem?_cons_succ, List.getElem?_nil, List.set_cons_zero, List.set_cons_succ, List.map_cons, List.map_nil, List.length_cons, List.length_nil, List.replicate_zero, List.replicate_succ, List.cons_append, List.nil_append, List.append_nil, List.append_assoc, List.head?_cons, List.lookup, List.contains_cons, List.contains_nil, List.all_cons, List.all_nil, List.any_cons, List.any_nil, Bool.true_and, Bool.and_true, Bool.false_and, Bool.and_false, Bool.or_true, Bool.true_or, Bool.or_false, Bool.false_or, Bool.not_true, Bool.not_false, Bool.and_self, decide_eq_true_eq, decide_true, decide_false, Bool.false_eq_true, if_true, if_false, ite_true, ite_false, reduceIte, reduceCtorEq, Bool.not_eq_true, Bool.not_eq_true', decide_eq_false_iff_not, not_true_eq_false, not_false_eq_true, true_and, and_true, false_and, and_false, Nat.add_zero, Nat.zero_add, Nat.reduceAdd, Nat.reduceSub, Nat.reduceLT, Nat.reduceLeDiff, Nat.sub_self, beq_iff_eq, BEq.rfl, beq_self_eq_true, anc, cflds, Option.map_some, Option.map_none, lendP_j, wipeP, elemsD, prePick, postPick, nd_run, pick_run, draw_run, wd, vVar_c, vC_c, vIm_c, vNil_c, vCons_c, vBin_c, vBl_c, vAnd_c, vOr_c, vNot_c, vAndV_c, vOrV_c, vNotV_c, vIfE_c, vLend_c, vLendT_c, vNext_c, vSeq_c, vDrop_c, vRet_c, vRetO_c, vIf_c, vSet_c, vSetO_c, vgName_c, vgNil_c, vgCons_c, vgTup_c, vAsg_c, vPar_c, vAug_c, vAug2_c, vFor_c, vCall_c, vCallR_c, vNeg_c, vChain_c, vPn_c, vPs_c, vSl_c, vRevS_c, vLst_c, vTup_c, vCB_c, vM0_c, vM1_c, vFld_c, vFldX_c, vFldO_c, vPutO_c, vApp_c, vPop_c, vExt_c, vPutI_c, vItL_c, vItT_c, vItS_c, vRng1_c, vRng2_c, vEnumL_c, vEnumS_c, vZip_c, vYes_c, vLc_c, vRaise_c, vMake_c, vMakeK_c, vCallN_c, vMeth_c, vMethN_c, vOwn2_c, vBlO_c, vOwnN_c, vOwn1_c, vLenO_c, vStrO_c, vItO_c, vFn_c, vRef_c, vMk_c, vMkK_c, vHeard_c, vEqA_c, vMulA_c, fzK_i, fzK_o, vFz_c, trK_b, trK_n, trK_i, trK_s, trK_l, trK_t, vTr_c, fn_r0, fn_r1, fn_r2, fn_r3, aliD_1, aliD_2, aliD_3, aliD_4, aliD_5, aliD_6, aliD_7, aliD_8, forL_0, forL_1, boolP_b, lenG_s, lenG_l, lenG_t, intG_i, intG_b, intG_s, listG_l, listG_t, tupG_l, tupG_t, gAdd_i, gAdd_s, gAdd_l, gAdd_t, gAdd_b, gInt_i, gInt0_i, gCmp_i, gCmp_s, gEq_ii, gEq_ss, gEq_bb, gEq_is, gEq_si, gEq_nn, gEq_ni, gEq_ns, gEq_nb, gEq_in, gEq_sn, gEq_bn, gEq_ll, gEq_tt, gIs_n, gIs_bb, gIs_ib, gIn_l, gIn_t, gIn_s, gIx_l, gIx_t, gIx_s, gSl_s, gSl_l, gSl_t, gMulT_c, opt_s, opt_n, go_ok, go_err] at hK12 ⊢
            simpa using hK12
          | some e =>
            have hne : t ≠ [] := fun z => by rw [z] at ht; cases ht
            have heL : isL e = true := good_allL g e (List.mem_of_getLast? ht)
            simp only [okSet_s, okSet_0, okSet_i, okSet_o, okSet_j, notRef, on1, isiG, askB, onB, tyD, isi1, isiA, btSub, absG, strG, max2G, min2G, hasO, lendAll, lendP, frz, scD, ng, isNon, swapG, indexG, joinG, splitG, imAt, atL, fldD, fldX, putD, insD, fn_run, hideO, ends0, ends1, atH, st0, st1, gEq, gNe, gSub, gMul, gFdiv, gMod, gPow, gLt, gLe, gGt, gGe, ipG_add, ipG_sub, List.getElem?_cons_zero, List.getElem?_cons_succ, List.getElem?_nil, List.set_cons_zero, List.set_cons_succ, List.map_cons, List.map_nil, List.length_cons, List.length_nil, List.replicate_zero, List.replicate_succ, List.cons_append, List.nil_append, List.append_nil, List.append_assoc, List.head?_cons, List.lookup, List.contains_cons, List.contains_nil, List.all_cons, List.all_nil, List.any_cons, List.any_nil, Bool.true_and, Bool.and_true, Bool.false_and, Bool.and_false, Bool.or_true, Bool.true_or, Bool.or_false, Bool.false_or, Bool.not_true, Bool.not_false, Bool.and_self, decide_eq_true_eq, decide_true, decide_false, Bool.false_eq_true, if_true, if_false, ite_true, ite_false, reduceIte, reduceCtorEq, Bool.not_eq_true, Bool.not_eq_true', decide_eq_false_iff_not, not_true_eq_false, not_false_eq_true, true_and, and_true, false_and, and_false, Nat.add_zero, Nat.zero_add, Nat.reduceAdd, Nat.reduceSub, Nat.reduceLT, Nat.reduceLeDiff, Nat.sub_self, beq_iff_eq, BEq.rfl, beq_self_eq_true, anc, cflds, Option.map_some, Option.map_none, lendP_j, wipeP, elemsD, prePick, postPick, nd_run, pick_run, draw_run, wd, vVar_c, vC_c, vIm_c, vNil_c, vCons_c, vBin_c, vBl_c, vAnd_c, vOr_c, vNot_c, vAndV_c, vOrV_c, vNotV_c, vIfE_c, vLend_c, vLendT_c, vNext_c, vSeq_c, vDrop_c, vRet_c, vRetO_c, vIf_c, vSet_c, vSetO_c, vgName_c, vgNil_c, vgCons_c, vgTup_c, vAsg_c, vPar_c, vAug_c, vAug2_c, vFor_c, vCall_c, vCallR_c, vNeg_c, vChain_c, vPn_c, vPs_c, vSl_c, vRevS_c, vLst_c, vTup_c, vCB_c, vM0_c, vM1_c, vFld_c, vFldX_c, vFldO_c, vPutO_c, vApp_c, vPop_c, vExt_c, vPutI_c, vItL_c, vItT_c, vItS_c, vRng1_c, vRng2_c, vEnumL_c, vEnumS_c, vZip_c, vYes_c, vLc_c, vRaise_c, vMake_c, vMakeK_c, vCallN_c, vMeth_c, vMethN_c, vOwn2_c, vBlO_c, vOwnN_c, vOwn1_c, vLenO_c, vStrO_c, vItO_c, vFn_c, vRef_c, vMk_c, vMkK_c, vHeard_c, vEqA_c, vMulA_c, fzK_i, fzK_o, vFz_c, trK_b, trK_n, trK_i, trK_s, trK_l, trK_t, vTr_c, fn_r0, fn_r1, fn_r2, fn_r3, aliD_1, aliD_2, aliD_3, aliD_4, aliD_5, aliD_6, aliD_7, aliD_8, forL_0, forL_1, boolP_b, lenG_s, lenG_l, lenG_t, intG_i, intG_b, intG_s, listG_l, listG_t, tupG_l, tupG_t, gAdd_i, gAdd_s, gAdd_l, gAdd_t, gAdd_b, gInt_i, gInt0_i, gCmp_i, gCmp_s, gEq_ii, gEq_ss, gEq_bb, gEq_is, gEq_si, gEq_nn, gEq_ni, gEq_ns, gEq_nb, gEq_in, gEq_sn, gEq_bn, gEq_ll, gEq_tt, gIs_n, gIs_bb, gIs_ib, gIn_l, gIn_t, gIn_s, gIx_l, gIx_t, gIx_s, gSl_s, gSl_l, gSl_t, gMulT_c, opt_s, opt_n, go_ok, go_err, hne, atI_m1, ht, f__law_undo, heL] at hK12 ⊢
            refine ⟨by omega, ?_⟩
            by_cases hu : c = und e
            · subst hu
              simpa using hK12
            · have hu2 : und e ≠ c := fun z => hu z.symm
              simpa [hu, hu2] using hK12
        · obtain ⟨xs, hxs⟩ : ∃ xs, xs = k.filter fun c => decide (t.getLast?.map und ≠ some c) := ⟨_, rfl⟩
          rw [← hxs]
          have hx1 : xs ≠ [] := by
            cases ht : t.getLast? with
            | none =>
              obtain ⟨x, hx, _⟩ := hk2 0
              exact List.ne_nil_of_mem (a := x) (by rw [hxs, List.mem_filter]; exact ⟨hx, by rw [ht]; rfl⟩)
            | some e =>
              obtain ⟨x, hx, hne⟩ := hk2 (und e)
              exact List.ne_nil_of_mem (a := x) (by rw [hxs, List.mem_filter]; exact ⟨hx, by rw [ht]; simpa using fun z => hne z.symm⟩)
          have hx2 : xs.length ≤ 1000 := by
            rw [hxs]
            exact Nat.le_trans (List.length_filter_le _ _) hkl
          simp only [okSet_s, okSet_0, okSet_i, okSet_o, okSet_j, notRef, on1, isiG, askB, onB, tyD, isi1, isiA, btSub, absG, strG, max2G, min2G, hasO, lendAll, lendP, frz, scD, ng, isNon, swapG, indexG, joinG, splitG, imAt, atL, fldD, fldX, putD, insD, fn_run, hideO, ends0, ends1, atH, st0, st1, gEq, gNe, gSub, gMul, gFdiv, gMod, gPow, gLt, gLe, gGt, gGe, ipG_add, ipG_sub, List.getElem?_cons_zero, List.getElem?_cons_succ, List.getElem?_nil, List.set_cons_zero, List.set_cons_succ, List.map_cons, List.map_nil, List.length_cons, List.length_nil, List.replicate_zero, List.replicate_succ, List.cons_append, List.nil_append, List.append_nil, List.append_assoc, List.head?_cons, List.lookup, List.contains_cons, List.contains_nil, List.all_cons, List.all_nil, List.any_cons, List.any_nil, Bool.true_and, Bool.and_true, Bool.false_and, Bool.and_false, Bool.or_true, Bool.true_or, Bool.or_false, Bool.false_or, Bool.not_true, Bool.not_false, Bool.and_self, decide_eq_true_eq, decide_true, decide_false, Bool.false_eq_true, if_true, if_false, ite_true, ite_false, reduceIte, reduceCtorEq, Bool.not_eq_true, Bool.not_eq_true', decide_eq_false_iff_not, not_true_eq_false, not_false_eq_true, true_and, and_true, false_and, and_false, Nat.add_zero, Nat.zero_add, Nat.reduceAdd, Nat.reduceSub, Nat.reduceLT, Nat.reduceLeDiff, Nat.sub_self, beq_iff_eq, BEq.rfl, beq_self_eq_true, anc, cflds, Option.map_some, Option.map_none, lendP_j, wipeP, elemsD, prePick, postPick, nd_run, pick_run, draw_run, wd, vVar_c, vC_c, vIm_c, vNil_c, vCons_c, vBin_c, vBl_c, vAnd_c, vOr_c, vNot_c, vAndV_c, vOrV_c, vNotV_c, vIfE_c, vLend_c, vLendT_c, vNext_c, vSeq_c, vDrop_c, vRet_c, vRetO_c, vIf_c, vSet_c, vSetO_c, vgName_c, vgNil_c, vgCons_c, vgTup_c, vAsg_c, vPar_c, vAug_c, vAug2_c, vFor_c, vCall_c, vCallR_c, vNeg_c, vChain_c, vPn_c, vPs_c, vSl_c, vRevS_c, vLst_c, vTup_c, vCB_c, vM0_c, vM1_c, vFld_c, vFldX_c, vFldO_c, vPutO_c, vApp_c, vPop_c, vExt_c, vPutI_c, vItL_c, vItT_c, vItS_c, vRng1_c, vRng2_c, vEnumL_c, vEnumS_c, vZip_c, vYes_c, vLc_c, vRaise_c, vMake_c, vMakeK_c, vCallN_c, vMeth_c, vMethN_c, vOwn2_c, vBlO_c, vOwnN_c, vOwn1_c, vLenO_c, vStrO_c, vItO_c, vFn_c, vRef_c, vMk_c, vMkK_c, vHeard_c, vEqA_c, vMulA_c, fzK_i, fzK_o, vFz_c, trK_b, trK_n, trK_i, trK_s, trK_l, trK_t, vTr_c, fn_r0, fn_r1, fn_r2, fn_r3, aliD_1, aliD_2, aliD_3, aliD_4, aliD_5, aliD_6, aliD_7, aliD_8, forL_0, forL_1, boolP_b, lenG_s, lenG_l, lenG_t, intG_i, intG_b, intG_s, listG_l, listG_t, tupG_l, tupG_t, gAdd_i, gAdd_s, gAdd_l, gAdd_t, gAdd_b, gInt_i, gInt0_i, gCmp_i, gCmp_s, gEq_ii, gEq_ss, gEq_bb, gEq_is, gEq_si, gEq_nn, gEq_ni, gEq_ns, gEq_nb, gEq_in, gEq_sn, gEq_bn, gEq_ll, gEq_tt, gIs_n, gIs_bb, gIs_ib, gIn_l, gIn_t, gIn_s, gIx_l, gIx_t, gIx_s, gSl_s, gSl_l, gSl_t, gMulT_c, opt_s, opt_n, go_ok, go_err, sgs_len]
          refine ⟨⟨⟨fun z => hx1 (by simpa [sgs] using z), by omega⟩, by omega⟩, fun x p' hx hp' => ?_⟩
          obtain ⟨c, hc, rfl⟩ := List.mem_map.mp hx
          rw [hxs, List.mem_filter] at hc
          obtain ⟨hc1, hc2⟩ := hc
          have hgc : Good (t ++ [c]) := good_snoc.mpr ⟨g, hk1 c hc1, fun z => by
            rw [z] at hc2
            simp [und_und (hk1 c hc1)] at hc2⟩
          simp only [okSet_s, okSet_0, okSet_i, okSet_o, okSet_j, notRef, on1, isiG, askB, onB, tyD, isi1, isiA, btSub, absG, strG, max2G, min2G, hasO, lendAll, lendP, frz, scD, ng, isNon, swapG, indexG, joinG, splitG, imAt, atL, fldD, fldX, putD, insD, fn_run, hideO, ends0, ends1, atH, st0, st1, gEq, gNe, gSub, gMul, gFdiv, gMod, gPow, gLt, gLe, gGt, gGe, ipG_add, ipG_sub, List.getElem?_cons_zero, List.getElem?_cons_succ, List.getElem?_nil, List.set_cons_zero, List.set_cons_succ, List.map_cons, List.map_nil, List.length_cons, List.length_nil, List.replicate_zero, List.replicate_succ, List.cons_append, List.nil_append, List.append_nil, List.append_assoc, List.head?_cons, List.lookup, List.contains_cons, List.contains_nil, List.all_cons, List.all_nil, List.any_cons, List.any_nil, Bool.true_and, Bool.and_true, Bool.false_and, Bool.and_false, Bool.or_true, Bool.true_or, Bool.or_false, Bool.false_or, Bool.not_true, Bool.not_false, Bool.and_self, decide_eq_true_eq, decide_true, decide_false, Bool.false_eq_true, if_true, if_false, ite_true, ite_false, reduceIte, reduceCtorEq, Bool.not_eq_true, Bool.not_eq_true', decide_eq_false_iff_not, not_true_eq_false, not_false_eq_true, true_and, and_true, false_and, and_false, Nat.add_zero, Nat.zero_add, Nat.reduceAdd, Nat.reduceSub, Nat.reduceLT, Nat.reduceLeDiff, Nat.sub_self, beq_iff_eq, BEq.rfl, beq_self_eq_true, anc, cflds, Option.map_some, Option.map_none, lendP_j, wipeP, elemsD, prePick, postPick, nd_run, pick_run, draw_run, wd, vVar_c, vC_c, vIm_c, vNil_c, vCons_c, vBin_c, vBl_c, vAnd_c, vOr_c, vNot_c, vAndV_c, vOrV_c, vNotV_c, vIfE_c, vLend_c, vLendT_c, vNext_c, vSeq_c, vDrop_c, vRet_c, vRetO_c, vIf_c, vSet_c, vSetO_c, vgName_c, vgNil_c, vgCons_c, vgTup_c, vAsg_c, vPar_c, vAug_c, vAug2_c, vFor_c, vCall_c, vCallR_c, vNeg_c, vChain_c, vPn_c, vPs_c, vSl_c, vRevS_c, vLst_c, vTup_c, vCB_c, vM0_c, vM1_c, vFld_c, vFldX_c, vFldO_c, vPutO_c, vApp_c, vPop_c, vExt_c, vPutI_c, vItL_c, vItT_c, vItS_c, vRng1_c, vRng2_c, vEnumL_c, vEnumS_c, vZip_c, vYes_c, vLc_c, vRaise_c, vMake_c, vMakeK_c, vCallN_c, vMeth_c, vMethN_c, vOwn2_c, vBlO_c, vOwnN_c, vOwn1_c, vLenO_c, vStrO_c, vItO_c, vFn_c, vRef_c, vMk_c, vMkK_c, vHeard_c, vEqA_c, vMulA_c, fzK_i, fzK_o, vFz_c, trK_b, trK_n, trK_i, trK_s, trK_l, trK_t, vTr_c, fn_r0, fn_r1, fn_r2, fn_r3, aliD_1, aliD_2, aliD_3, aliD_4, aliD_5, aliD_6, aliD_7, aliD_8, forL_0, forL_1, boolP_b, lenG_s, lenG_l, lenG_t, intG_i, intG_b, intG_s, listG_l, listG_t, tupG_l, tupG_t, gAdd_i, gAdd_s, gAdd_l, gAdd_t, gAdd_b, gInt_i, gInt0_i, gCmp_i, gCmp_s, gEq_ii, gEq_ss, gEq_bb, gEq_is, gEq_si, gEq_nn, gEq_ni, gEq_ns, gEq_nb, gEq_in, gEq_sn, gEq_bn, gEq_ll, gEq_tt, gIs_n, gIs_bb, gIs_ib, gIn_l, gIn_t, gIn_s, gIx_l, gIx_t, gIx_s, gSl_s, gSl_l, gSl_t, gMulT_c, opt_s, opt_n, go_ok, go_err]
          refine ⟨by omega, ?_⟩
          exact hK (p', t ++ [c], some d, some (.lst (sgs xs))) ⟨hgc, by simp; omega, by dsimp only; omega⟩
    · exact hp.elim
  | _ => exact h.elim
/-! words by their letters -/
theorem iW {l : List Nat} (h : Good l) (h2 : l.length ≤ 4000) : i_Word [.str l] = .ok (.own false (.obj 20 [.str l, .int (l.length : Nat)])) := by
  show (if l.length ≤ 100000 then _ else _) = _
  rw [if_pos (by omega), firstBad_good h]
  exact if_pos h2
theorem mulW {l m : List Nat} (h : Good l) (h2 : l.length ≤ 4000) (g : Good m) (g2 : m.length ≤ 4000) (hr : (red (l ++ m)).length ≤ 4000) : f_Word___mul__ [.ins 20 [.str l, .int (l.length : Nat)], .ins 20 [.str m, .int (m.length : Nat)]] = .ok (.imm (wd (red (l ++ m)))) := by
  show (if okW l l.length = true ∧ okW m m.length = true then _ else _) = _
  rw [if_pos ⟨okW_wd h h2, okW_wd g g2⟩, if_pos hr]
theorem mulX {l m : List Nat} (h : Good l) (h2 : l.length ≤ 4000) (g : Good m) (g2 : m.length ≤ 4000) (hr : ¬ (red (l ++ m)).length ≤ 4000) : f_Word___mul__ [.ins 20 [.str l, .int (l.length : Nat)], .ins 20 [.str m, .int (m.length : Nat)]] = .err 11 [.str [108, 101, 116, 116, 101, 114, 115], .int 4000] := by
  show (if okW l l.length = true ∧ okW m m.length = true then _ else _) = _
  rw [if_pos ⟨okW_wd h h2, okW_wd g g2⟩, if_neg hr]
theorem invW {l : List Nat} (h : Good l) (h2 : l.length ≤ 4000) : f_Word___invert__ [.ins 20 [.str l, .int (l.length : Nat)]] = .ok (.imm (wd (back l))) := if_pos (okW_wd h h2)
theorem eqW {l m : List Nat} (h : Good l) (h2 : l.length ≤ 4000) (g : Good m) (g2 : m.length ≤ 4000) : f_Word___eq__ [.ins 20 [.str l, .int (l.length : Nat)], .ins 20 [.str m, .int (m.length : Nat)]] = .ok (.imm (.bl (decide (l = m)))) := if_pos ⟨okW_wd h h2, okW_wd g g2⟩
theorem fitW {l m : List Nat} (h : Good l) (h2 : l.length ≤ 4000) (g : Good m) (g2 : m.length ≤ 4000) : f_Word_fits [.ins 20 [.str l, .int (l.length : Nat)], .ins 20 [.str m, .int (m.length : Nat)]] = .ok (.imm (.bl (decide ((red (l ++ m)).length = l.length + m.length)))) := by
  have e : decide (¬ ∃ b, m.head? = some b ∧ l.getLast? = some (und b)) = decide ((red (l ++ m)).length = l.length + m.length) := decide_eq_decide.mpr (red_whole h g).symm
  rw [← e]
  exact if_pos ⟨okW_wd h h2, okW_wd g g2⟩
theorem fBack {l : List Nat} (h : Good l) (h2 : l.length ≤ 100000) : f__law_back [.str l] = .ok (.imm (.str (back l))) := if_pos ⟨firstOdd_allL (good_allL h), h2⟩
theorem fStruck {l : List Nat} (h : AllL l) (h2 : l.length ≤ 100000) : f__law_struck [.str l] = .ok (.imm (.str (red l))) := if_pos ⟨firstOdd_allL h, h2⟩
theorem good_drop {l : List Nat} (h : Good l) (n : Nat) : Good (l.drop n) := by
  have h1 := good_back h
  have h2 := good_take h1 (l.length - n)
  have h3 := good_back h2
  have e : back ((back l).take (l.length - n)) = l.drop n := by
    unfold back
    rw [List.map_take, List.map_reverse, List.map_map]
    have : (und ∘ und) = fun c => und (und c) := rfl
    have e2 : l.map (und ∘ und) = l := by
      conv => rhs; rw [← List.map_id l]
      exact List.map_congr_left fun c hc => und_und (good_allL h c hc)
    rw [e2, List.take_reverse, List.reverse_reverse]
    by_cases hn : n ≤ l.length
    · rw [show l.length - (l.length - n) = n by omega]
    · rw [List.drop_of_length_le (by omega), List.drop_of_length_le (by omega)]
  rwa [e] at h3
def g__law_partner : RSp := ndR 50 (fun ds => match ds with
  | [.str l] => Good l ∧ l.length ≤ 12
  | _ => False) (fun ds d => match ds, d with
  | [.str _], .str m => Good m ∧ m.length ≤ 17
  | _, _ => False)
theorem len__law_partner : ∀ o ds Q E, g__law_partner.run o ds Q E → ds.length + 1 = 2 := len_nd fun ds h => by
  split at h
  · rfl
  · exact h.elim
theorem row_run {n : Nat} {m : Int} {Q : PV → OV → Prop} {E : Nat → List D → OV → Prop} (h0 : 0 ≤ m) (h1 : m ≤ 28) (hn : n + 30 ≤ 1000000) (h : ∀ l n', Good l → (l.length : Int) ≤ m → n' ≤ n + 30 → Q (.imm (.str l)) (.pen n')) : g__law_row.run (.pen n) [.int m] Q E := by
  refine ⟨⟨⟨h0, h1⟩, hn⟩, fun d n' hd h' => ?_⟩
  cases d with
  | str l => exact h l n' hd.1 hd.2 h'
  | _ => exact hd.elim
def t__law_partner : VS := (vSeq (vPar 2 3 (vCons (vFz (vRef 0 g__law_draw (vCons (vC (.int 4)) vNil))) (vCons (vFz (vRef 0 g__law_draw (vCons (vBin gAdd (vFz (vCB (on1 lenG) (vCons (vVar 1) vNil))) (vC (.int 1))) vNil))) vNil)))
  (vSeq (vIf (vBl (vBin gEq (vVar 2) (vC (.int 0))))
  (vRet (vFz (vRef 0 g__law_row (vCons (vC (.int 12)) vNil))))
  vNext)
  (vSeq (vIf (vBl (vBin gEq (vVar 2) (vC (.int 1))))
  (vRet (vFz (vFn f__law_struck (vCons (vBin gAdd (vFz (vFn f__law_back (vCons (vSl (vVar 1) (vPs (vVar 3)) vPn) vNil))) (vFz (vRef 0 g__law_row (vCons (vC (.int 5)) vNil)))) vNil))))
  vNext)
  (vRet (vIfE (vBl (vBin gEq (vVar 2) (vC (.int 2)))) (vFz (vFn f__law_back (vCons (vVar 1) vNil))) (vFz (vFn f__law_struck (vCons (vBin gAdd (vFz (vRef 0 g__law_row (vCons (vC (.int 5)) vNil))) (vFz (vFn f__law_back (vCons (vSl (vVar 1) vPn (vPs (vVar 3))) vNil)))) vNil))))))))
theorem ob__law_partner : Ob1 t__law_partner 4 g__law_partner := by
  intro o ds Q E h
  cases o with
  | pen n =>
    obtain ⟨⟨hp, hn⟩, h⟩ := h
    split at hp
    · rename_i l
      obtain ⟨gl, hl⟩ := hp
      have ret : ∀ m n', Good m → m.length ≤ 17 → n' ≤ n + 50 → Q (.imm (.str m)) (.pen n') := fun m n' g1 g2 g3 => h (.str m) n' ⟨g1, g2⟩ g3
      unfold t__law_partner
      simp only [okSet_s, okSet_0, okSet_i, okSet_o, okSet_j, notRef, on1, isiG, askB, onB, tyD, isi1, isiA, btSub, absG, strG, max2G, min2G, hasO, lendAll, lendP, frz, scD, ng, isNon, swapG, indexG, joinG, splitG, imAt, atL, fldD, fldX, putD, insD, fn_run, hideO, ends0, ends1, atH, st0, st1, gEq, gNe, gSub, gMul, gFdiv, gMod, gPow, gLt, gLe, gGt, gGe, ipG_add, ipG_sub, List.getElem?_cons_zero, List.getElem?_cons_succ, List.getElem?_nil, List.set_cons_zero, List.set_cons_succ, List.map_cons, List.map_nil, List.length_cons, List.length_nil, List.replicate_zero, List.replicate_succ, List.cons_append, List.nil_append, List.append_nil, List.append_assoc, List.head?_cons, List.lookup, List.contains_cons, List.contains_nil, List.all_cons, List.all_nil, List.any_cons, List.any_nil, Bool.true_and, Bool.and_true, Bool.false_and, Bool.and_false, Bool.or_true, Bool.true_or, Bool.or_false, Bool.false_or, Bool.not_true, Bool.not_false, Bool.and_self, decide_eq_true_eq, decide_true, decide_false, Bool.false_eq_true, if_true, if_false, ite_true, ite_false, reduceIte, reduceCtorEq, Bool.not_eq_true, Bool.not_eq_true', decide_eq_false_iff_not, not_true_eq_false, not_false_eq_true, true_and, and_true, false_and, and_false, Nat.add_zero, Nat.zero_add, Nat.reduceAdd, Nat.reduceSub, Nat.reduceLT, Nat.reduceLeDiff, Nat.sub_self, beq_iff_eq, BEq.rfl, beq_self_eq_true, anc, cflds, Option.map_some, Option.map_none, lendP_j, wipeP, elemsD, prePick, postPick, nd_run, pick_run, draw_run, wd, vVar_c, vC_c, vIm_c, vNil_c, vCons_c, vBin_c, vBl_c, vAnd_c, vOr_c, vNot_c, vAndV_c, vOrV_c, vNotV_c, vIfE_c, vLend_c, vLendT_c, vNext_c, vSeq_c, vDrop_c, vRet_c, vRetO_c, vIf_c, vSet_c, vSetO_c, vgName_c, vgNil_c, vgCons_c, vgTup_c, vAsg_c, vPar_c, vAug_c, vAug2_c, vFor_c, vCall_c, vCallR_c, vNeg_c, vChain_c, vPn_c, vPs_c, vSl_c, vRevS_c, vLst_c, vTup_c, vCB_c, vM0_c, vM1_c, vFld_c, vFldX_c, vFldO_c, vPutO_c, vApp_c, vPop_c, vExt_c, vPutI_c, vItL_c, vItT_c, vItS_c, vRng1_c, vRng2_c, vEnumL_c, vEnumS_c, vZip_c, vYes_c, vLc_c, vRaise_c, vMake_c, vMakeK_c, vCallN_c, vMeth_c, vMethN_c, vOwn2_c, vBlO_c, vOwnN_c, vOwn1_c, vLenO_c, vStrO_c, vItO_c, vFn_c, vRef_c, vMk_c, vMkK_c, vHeard_c, vEqA_c, vMulA_c, fzK_i, fzK_o, vFz_c, trK_b, trK_n, trK_i, trK_s, trK_l, trK_t, vTr_c, fn_r0, fn_r1, fn_r2, fn_r3, aliD_1, aliD_2, aliD_3, aliD_4, aliD_5, aliD_6, aliD_7, aliD_8, forL_0, forL_1, boolP_b, lenG_s, lenG_l, lenG_t, intG_i, intG_b, intG_s, listG_l, listG_t, tupG_l, tupG_t, gAdd_i, gAdd_s, gAdd_l, gAdd_t, gAdd_b, gInt_i, gInt0_i, gCmp_i, gCmp_s, gEq_ii, gEq_ss, gEq_bb, gEq_is, gEq_si, gEq_nn, gEq_ni, gEq_ns, gEq_nb, gEq_in, gEq_sn, gEq_bn, gEq_ll, gEq_tt, gIs_n, gIs_bb, gIs_ib, gIn_l, gIn_t, gIn_s, gIx_l, gIx_t, gIx_s, gSl_s, gSl_l, gSl_t, gMulT_c, opt_s, opt_n, go_ok, go_err]
      refine ⟨⟨by omega, by omega, by omega⟩, fun w w0 w1 => ?_⟩
      try simp only [okSet_s, okSet_0, okSet_i, okSet_o, okSet_j, notRef, on1, isiG, askB, onB, tyD, isi1, isiA, btSub, absG, strG, max2G, min2G, hasO, lendAll, lendP, frz, scD, ng, isNon, swapG, indexG, joinG, splitG, imAt, atL, fldD, fldX, putD, insD, fn_run, hideO, ends0, ends1, atH, st0, st1, gEq, gNe, gSub, gMul, gFdiv, gMod, gPow, gLt, gLe, gGt, gGe, ipG_add, ipG_sub, List.getElem?_cons_zero, List.getElem?_cons_succ, List.getElem?_nil, List.set_cons_zero, List.set_cons_succ, List.map_cons, List.map_nil, List.length_cons, List.length_nil, List.replicate_zero, List.replicate_succ, List.cons_append, List.nil_append, List.append_nil, List.append_assoc, List.head?_cons, List.lookup, List.contains_cons, List.contains_nil, List.all_cons, List.all_nil, List.any_cons, List.any_nil, Bool.true_and, Bool.and_true, Bool.false_and, Bool.and_false, Bool.or_true, Bool.true_or, Bool.or_false, Bool.false_or, Bool.not_true, Bool.not_false, Bool.and_self, decide_eq_true_eq, decide_true, decide_false, Bool.false_eq_true, if_true, if_false, ite_true, ite_false, reduceIte, reduceCtorEq, Bool.not_eq_true, Bool.not_eq_true', decide_eq_false_iff_not, not_true_eq_false, not_false_eq_true, true_and, and_true, false_and, and_false, Nat.add_zero, Nat.zero_add, Nat.reduceAdd, Nat.reduceSub, Nat.reduceLT, Nat.reduceLeDiff, Nat.sub_self, beq_iff_eq, BEq.rfl, beq_self_eq_true, anc, cflds, Option.map_some, Option.map_none, lendP_j, wipeP, elemsD, prePick, postPick, nd_run, pick_run, draw_run, wd, vVar_c, vC_c, vIm_c, vNil_c, vCons_c, vBin_c, vBl_c, vAnd_c, vOr_c, vNot_c, vAndV_c, vOrV_c, vNotV_c, vIfE_c, vLend_c, vLendT_c, vNext_c, vSeq_c, vDrop_c, vRet_c, vRetO_c, vIf_c, vSet_c, vSetO_c, vgName_c, vgNil_c, vgCons_c, vgTup_c, vAsg_c, vPar_c, vAug_c, vAug2_c, vFor_c, vCall_c, vCallR_c, vNeg_c, vChain_c, vPn_c, vPs_c, vSl_c, vRevS_c, vLst_c, vTup_c, vCB_c, vM0_c, vM1_c, vFld_c, vFldX_c, vFldO_c, vPutO_c, vApp_c, vPop_c, vExt_c, vPutI_c, vItL_c, vItT_c, vItS_c, vRng1_c, vRng2_c, vEnumL_c, vEnumS_c, vZip_c, vYes_c, vLc_c, vRaise_c, vMake_c, vMakeK_c, vCallN_c, vMeth_c, vMethN_c, vOwn2_c, vBlO_c, vOwnN_c, vOwn1_c, vLenO_c, vStrO_c, vItO_c, vFn_c, vRef_c, vMk_c, vMkK_c, vHeard_c, vEqA_c, vMulA_c, fzK_i, fzK_o, vFz_c, trK_b, trK_n, trK_i, trK_s, trK_l, trK_t, vTr_c, fn_r0, fn_r1, fn_r2, fn_r3, aliD_1, aliD_2, aliD_3, aliD_4, aliD_5, aliD_6, aliD_7, aliD_8, forL_0, forL_1, boolP_b, lenG_s, lenG_l, lenG_t, intG_i, intG_b, intG_s, listG_l, listG_t, tupG_l, tupG_t, gAdd_i, gAdd_s, gAdd_l, gAdd_t, gAdd_b, gInt_i, gInt0_i, gCmp_i, gCmp_s, gEq_ii, gEq_ss, gEq_bb, gEq_is, gEq_si, gEq_nn, gEq_ni, gEq_ns, gEq_nb, gEq_in, gEq_sn, gEq_bn, gEq_ll, gEq_tt, gIs_n, gIs_bb, gIs_ib, gIn_l, gIn_t, gIn_s, gIx_l, gIx_t, gIx_s, gSl_s, gSl_l, gSl_t, gMulT_c, opt_s, opt_n, go_ok, go_err]
      refine ⟨by omega, ⟨by omega, by omega, by omega⟩, fun c c0 c1 => ?_⟩
      try simp only [okSet_s, okSet_0, okSet_i, okSet_o, okSet_j, notRef, on1, isiG, askB, onB, tyD, isi1, isiA, btSub, absG, strG, max2G, min2G, hasO, lendAll, lendP, frz, scD, ng, isNon, swapG, indexG, joinG, splitG, imAt, atL, fldD, fldX, putD, insD, fn_run, hideO, ends0, ends1, atH, st0, st1, gEq, gNe, gSub, gMul, gFdiv, gMod, gPow, gLt, gLe, gGt, gGe, ipG_add, ipG_sub, List.getElem?_cons_zero, List.getElem?_cons_succ, List.getElem?_nil, List.set_cons_zero, List.set_cons_succ, List.map_cons, List.map_nil, List.length_cons, List.length_nil, List.replicate_zero, List.replicate_succ, List.cons_append, List.nil_append, List.append_nil, List.append_assoc, List.head?_cons, List.lookup, List.contains_cons, List.contains_nil, List.all_cons, List.all_nil, List.any_cons, List.any_nil, Bool.true_and, Bool.and_true, Bool.false_and, Bool.and_false, Bool.or_true, Bool.true_or, Bool.or_false, Bool.false_or, Bool.not_true, Bool.not_false, Bool.and_self, decide_eq_true_eq, decide_true, decide_false, Bool.false_eq_true, if_true, if_false, ite_true, ite_false, reduceIte, reduceCtorEq, Bool.not_eq_true, Bool.not_eq_true', decide_eq_false_iff_not, not_true_eq_false, not_false_eq_true, true_and, and_true, false_and, and_false, Nat.add_zero, Nat.zero_add, Nat.reduceAdd, Nat.reduceSub, Nat.reduceLT, Nat.reduceLeDiff, Nat.sub_self, beq_iff_eq, BEq.rfl, beq_self_eq_true, anc, cflds, Option.map_some, Option.map_none, lendP_j, wipeP, elemsD, prePick, postPick, nd_run, pick_run, draw_run, wd, vVar_c, vC_c, vIm_c, vNil_c, vCons_c, vBin_c, vBl_c, vAnd_c, vOr_c, vNot_c, vAndV_c, vOrV_c, vNotV_c, vIfE_c, vLend_c, vLendT_c, vNext_c, vSeq_c, vDrop_c, vRet_c, vRetO_c, vIf_c, vSet_c, vSetO_c, vgName_c, vgNil_c, vgCons_c, vgTup_c, vAsg_c, vPar_c, vAug_c, vAug2_c, vFor_c, vCall_c, vCallR_c, vNeg_c, vChain_c, vPn_c, vPs_c, vSl_c, vRevS_c, vLst_c, vTup_c, vCB_c, vM0_c, vM1_c, vFld_c, vFldX_c, vFldO_c, vPutO_c, vApp_c, vPop_c, vExt_c, vPutI_c, vItL_c, vItT_c, vItS_c, vRng1_c, vRng2_c, vEnumL_c, vEnumS_c, vZip_c, vYes_c, vLc_c, vRaise_c, vMake_c, vMakeK_c, vCallN_c, vMeth_c, vMethN_c, vOwn2_c, vBlO_c, vOwnN_c, vOwn1_c, vLenO_c, vStrO_c, vItO_c, vFn_c, vRef_c, vMk_c, vMkK_c, vHeard_c, vEqA_c, vMulA_c, fzK_i, fzK_o, vFz_c, trK_b, trK_n, trK_i, trK_s, trK_l, trK_t, vTr_c, fn_r0, fn_r1, fn_r2, fn_r3, aliD_1, aliD_2, aliD_3, aliD_4, aliD_5, aliD_6, aliD_7, aliD_8, forL_0, forL_1, boolP_b, lenG_s, lenG_l, lenG_t, intG_i, intG_b, intG_s, listG_l, listG_t, tupG_l, tupG_t, gAdd_i, gAdd_s, gAdd_l, gAdd_t, gAdd_b, gInt_i, gInt0_i, gCmp_i, gCmp_s, gEq_ii, gEq_ss, gEq_bb, gEq_is, gEq_si, gEq_nn, gEq_ni, gEq_ns, gEq_nb, gEq_in, gEq_sn, gEq_bn, gEq_ll, gEq_tt, gIs_n, gIs_bb, gIs_ib, gIn_l, gIn_t, gIn_s, gIx_l, gIx_t, gIx_s, gSl_s, gSl_l, gSl_t, gMulT_c, opt_s, opt_n, go_ok, go_err]
      split
      · refine row_run (by omega) (by omega) (by omega) fun m n' g1 g2 g3 => ?_
        simp only [okSet_s, okSet_0, okSet_i, okSet_o, okSet_j, notRef, on1, isiG, askB, onB, tyD, isi1, isiA, btSub, absG, strG, max2G, min2G, hasO, lendAll, lendP, frz, scD, ng, isNon, swapG, indexG, joinG, splitG, imAt, atL, fldD, fldX, putD, insD, fn_run, hideO, ends0, ends1, atH, st0, st1, gEq, gNe, gSub, gMul, gFdiv, gMod, gPow, gLt, gLe, gGt, gGe, ipG_add, ipG_sub, List.getElem?_cons_zero, List.getElem?_cons_succ, List.getElem?_nil, List.set_cons_zero, List.set_cons_succ, List.map_cons, List.map_nil, List.length_cons, List.length_nil, List.replicate_zero, List.replicate_succ, List.cons_append, List.nil_append, List.append_nil, List.append_assoc, List.head?_cons, List.lookup, List.contains_cons, List.contains_nil, List.all_cons, List.all_nil, List.any_cons, List.any_nil, Bool.true_and, Bool.and_true, Bool.false_and, Bool.and_false, Bool.or_true, Bool.true_or, Bool.or_false, Bool.false_or, Bool.not_true, Bool.not_false, Bool.and_self, decide_eq_true_eq, decide_true, decide_false, Bool.false_eq_true, if_true, if_false, ite_true, ite_false, reduceIte, reduceCtorEq, Bool.not_eq_true, Bool.not_eq_true', decide_eq_false_iff_not, not_true_eq_false, not_false_eq_true, true_and, and_true, false_and, and_false, Nat.add_zero, Nat.zero_add, Nat.reduceAdd, Nat.reduceSub, Nat.reduceLT, Nat.reduceLeDiff, Nat.sub_self, beq_iff_eq, BEq.rfl, beq_self_eq_true, anc, cflds, Option.map_some, Option.map_none, lendP_j, wipeP, elemsD, prePick, postPick, nd_run, pick_run, draw_run, wd, vVar_c, vC_c, vIm_c, vNil_c, vCons_c, vBin_c, vBl_c, vAnd_c, vOr_c, vNot_c, vAndV_c, vOrV_c, vNotV_c, vIfE_c, vLend_c, vLendT_c, vNext_c, vSeq_c, vDrop_c, vRet_c, vRetO_c, vIf_c, vSet_c, vSetO_c, vgName_c, vgNil_c, vgCons_c, vgTup_c, vAsg_c, vPar_c, vAug_c, vAug2_c, vFor_c, vCall_c, vCallR_c, vNeg_c, vChain_c, vPn_c, vPs_c, vSl_c, vRevS_c, vLst_c, vTup_c, vCB_c, vM0_c, vM1_c, vFld_c, vFldX_c, vFldO_c, vPutO_c, vApp_c, vPop_c, vExt_c, vPutI_c, vItL_c, vItT_c, vItS_c, vRng1_c, vRng2_c, vEnumL_c, vEnumS_c, vZip_c, vYes_c, vLc_c, vRaise_c, vMake_c, vMakeK_c, vCallN_c, vMeth_c, vMethN_c, vOwn2_c, vBlO_c, vOwnN_c, vOwn1_c, vLenO_c, vStrO_c, vItO_c, vFn_c, vRef_c, vMk_c, vMkK_c, vHeard_c, vEqA_c, vMulA_c, fzK_i, fzK_o, vFz_c, trK_b, trK_n, trK_i, trK_s, trK_l, trK_t, vTr_c, fn_r0, fn_r1, fn_r2, fn_r3, aliD_1, aliD_2, aliD_3, aliD_4, aliD_5, aliD_6, aliD_7, aliD_8, forL_0, forL_1, boolP_b, lenG_s, lenG_l, lenG_t, intG_i, intG_b, intG_s, listG_l, listG_t, tupG_l, tupG_t, gAdd_i, gAdd_s, gAdd_l, gAdd_t, gAdd_b, gInt_i, gInt0_i, gCmp_i, gCmp_s, gEq_ii, gEq_ss, gEq_bb, gEq_is, gEq_si, gEq_nn, gEq_ni, gEq_ns, gEq_nb, gEq_in, gEq_sn, gEq_bn, gEq_ll, gEq_tt, gIs_n, gIs_bb, gIs_ib, gIn_l, gIn_t, gIn_s, gIx_l, gIx_t, gIx_s, gSl_s, gSl_l, gSl_t, gMulT_c, opt_s, opt_n, go_ok, go_err]
        exact ret m n' g1 (by omega) (by omega)
      · split
        · simp only [cut_from c0]
          rw [fBack (good_drop gl _) (by rw [List.length_drop]; omega)]
          simp only [okSet_s, okSet_0, okSet_i, okSet_o, okSet_j, notRef, on1, isiG, askB, onB, tyD, isi1, isiA, btSub, absG, strG, max2G, min2G, hasO, lendAll, lendP, frz, scD, ng, isNon, swapG, indexG, joinG, splitG, imAt, atL, fldD, fldX, putD, insD, fn_run, hideO, ends0, ends1, atH, st0, st1, gEq, gNe, gSub, gMul, gFdiv, gMod, gPow, gLt, gLe, gGt, gGe, ipG_add, ipG_sub, List.getElem?_cons_zero, List.getElem?_cons_succ, List.getElem?_nil, List.set_cons_zero, List.set_cons_succ, List.map_cons, List.map_nil, List.length_cons, List.length_nil, List.replicate_zero, List.replicate_succ, List.cons_append, List.nil_append, List.append_nil, List.append_assoc, List.head?_cons, List.lookup, List.contains_cons, List.contains_nil, List.all_cons, List.all_nil, List.any_cons, List.any_nil, Bool.true_and, Bool.and_true, Bool.false_and, Bool.and_false, Bool.or_true, Bool.true_or, Bool.or_false, Bool.false_or, Bool.not_true, Bool.not_false, Bool.and_self, decide_eq_true_eq, decide_true, decide_false, Bool.false_eq_true, if_true, if_false, ite_true, ite_false, reduceIte, reduceCtorEq, Bool.not_eq_true, Bool.not_eq_true', decide_eq_false_iff_not, not_true_eq_false, not_false_eq_true, true_and, and_true, false_and, and_false, Nat.add_zero, Nat.zero_add, Nat.reduceAdd, Nat.reduceSub, Nat.reduceLT, Nat.reduceLeDiff, Nat.sub_self, beq_iff_eq, BEq.rfl, beq_self_eq_true, anc, cflds, Option.map_some, Option.map_none, lendP_j, wipeP, elemsD, prePick, postPick, nd_run, pick_run, draw_run, wd, vVar_c, vC_c, vIm_c, vNil_c, vCons_c, vBin_c, vBl_c, vAnd_c, vOr_c, vNot_c, vAndV_c, vOrV_c, vNotV_c, vIfE_c, vLend_c, vLendT_c, vNext_c, vSeq_c, vDrop_c, vRet_c, vRetO_c, vIf_c, vSet_c, vSetO_c, vgName_c, vgNil_c, vgCons_c, vgTup_c, vAsg_c, vPar_c, vAug_c, vAug2_c, vFor_c, vCall_c, vCallR_c, vNeg_c, vChain_c, vPn_c, vPs_c, vSl_c, vRevS_c, vLst_c, vTup_c, vCB_c, vM0_c, vM1_c, vFld_c, vFldX_c, vFldO_c, vPutO_c, vApp_c, vPop_c, vExt_c, vPutI_c, vItL_c, vItT_c, vItS_c, vRng1_c, vRng2_c, vEnumL_c, vEnumS_c, vZip_c, vYes_c, vLc_c, vRaise_c, vMake_c, vMakeK_c, vCallN_c, vMeth_c, vMethN_c, vOwn2_c, vBlO_c, vOwnN_c, vOwn1_c, vLenO_c, vStrO_c, vItO_c, vFn_c, vRef_c, vMk_c, vMkK_c, vHeard_c, vEqA_c, vMulA_c, fzK_i, fzK_o, vFz_c, trK_b, trK_n, trK_i, trK_s, trK_l, trK_t, vTr_c, fn_r0, fn_r1, fn_r2, fn_r3, aliD_1, aliD_2, aliD_3, aliD_4, aliD_5, aliD_6, aliD_7, aliD_8, forL_0, forL_1, boolP_b, lenG_s, lenG_l, lenG_t, intG_i, intG_b, intG_s, listG_l, listG_t, tupG_l, tupG_t, gAdd_i, gAdd_s, gAdd_l, gAdd_t, gAdd_b, gInt_i, gInt0_i, gCmp_i, gCmp_s, gEq_ii, gEq_ss, gEq_bb, gEq_is, gEq_si, gEq_nn, gEq_ni, gEq_ns, gEq_nb, gEq_in, gEq_sn, gEq_bn, gEq_ll, gEq_tt, gIs_n, gIs_bb, gIs_ib, gIn_l, gIn_t, gIn_s, gIx_l, gIx_t, gIx_s, gSl_s, gSl_l, gSl_t, gMulT_c, opt_s, opt_n, go_ok, go_err]
          refine ⟨by omega, row_run (by omega) (by omega) (by omega) fun m n' g1 g2 g3 => ?_⟩
          have hb : (back (l.drop c.toNat)).length ≤ 12 := by rw [back_len, List.length_drop]; omega
          have hA : AllL (back (l.drop c.toNat) ++ m) := allL_app (back_L (good_allL (good_drop gl _))) (good_allL g1)
          try simp only [okSet_s, okSet_0, okSet_i, okSet_o, okSet_j, notRef, on1, isiG, askB, onB, tyD, isi1, isiA, btSub, absG, strG, max2G, min2G, hasO, lendAll, lendP, frz, scD, ng, isNon, swapG, indexG, joinG, splitG, imAt, atL, fldD, fldX, putD, insD, fn_run, hideO, ends0, ends1, atH, st0, st1, gEq, gNe, gSub, gMul, gFdiv, gMod, gPow, gLt, gLe, gGt, gGe, ipG_add, ipG_sub, List.getElem?_cons_zero, List.getElem?_cons_succ, List.getElem?_nil, List.set_cons_zero, List.set_cons_succ, List.map_cons, List.map_nil, List.length_cons, List.length_nil, List.replicate_zero, List.replicate_succ, List.cons_append, List.nil_append, List.append_nil, List.append_assoc, List.head?_cons, List.lookup, List.contains_cons, List.contains_nil, List.all_cons, List.all_nil, List.any_cons, List.any_nil, Bool.true_and, Bool.and_true, Bool.false_and, Bool.and_false, Bool.or_true, Bool.true_or, Bool.or_false, Bool.false_or, Bool.not_true, Bool.not_false, Bool.and_self, decide_eq_true_eq, decide_true, decide_false, Bool.false_eq_true, if_true, if_false, ite_true, ite_false, reduceIte, reduceCtorEq, Bool.not_eq_true, Bool.not_eq_true', decide_eq_false_iff_not, not_true_eq_false, not_false_eq_true, true_and, and_true, false_and, and_false, Nat.add_zero, Nat.zero_add, Nat.reduceAdd, Nat.reduceSub, Nat.reduceLT, Nat.reduceLeDiff, Nat.sub_self, beq_iff_eq, BEq.rfl, beq_self_eq_true, anc, cflds, Option.map_some, Option.map_none, lendP_j, wipeP, elemsD, prePick, postPick, nd_run, pick_run, draw_run, wd, vVar_c, vC_c, vIm_c, vNil_c, vCons_c, vBin_c, vBl_c, vAnd_c, vOr_c, vNot_c, vAndV_c, vOrV_c, vNotV_c, vIfE_c, vLend_c, vLendT_c, vNext_c, vSeq_c, vDrop_c, vRet_c, vRetO_c, vIf_c, vSet_c, vSetO_c, vgName_c, vgNil_c, vgCons_c, vgTup_c, vAsg_c, vPar_c, vAug_c, vAug2_c, vFor_c, vCall_c, vCallR_c, vNeg_c, vChain_c, vPn_c, vPs_c, vSl_c, vRevS_c, vLst_c, vTup_c, vCB_c, vM0_c, vM1_c, vFld_c, vFldX_c, vFldO_c, vPutO_c, vApp_c, vPop_c, vExt_c, vPutI_c, vItL_c, vItT_c, vItS_c, vRng1_c, vRng2_c, vEnumL_c, vEnumS_c, vZip_c, vYes_c, vLc_c, vRaise_c, vMake_c, vMakeK_c, vCallN_c, vMeth_c, vMethN_c, vOwn2_c, vBlO_c, vOwnN_c, vOwn1_c, vLenO_c, vStrO_c, vItO_c, vFn_c, vRef_c, vMk_c, vMkK_c, vHeard_c, vEqA_c, vMulA_c, fzK_i, fzK_o, vFz_c, trK_b, trK_n, trK_i, trK_s, trK_l, trK_t, vTr_c, fn_r0, fn_r1, fn_r2, fn_r3, aliD_1, aliD_2, aliD_3, aliD_4, aliD_5, aliD_6, aliD_7, aliD_8, forL_0, forL_1, boolP_b, lenG_s, lenG_l, lenG_t, intG_i, intG_b, intG_s, listG_l, listG_t, tupG_l, tupG_t, gAdd_i, gAdd_s, gAdd_l, gAdd_t, gAdd_b, gInt_i, gInt0_i, gCmp_i, gCmp_s, gEq_ii, gEq_ss, gEq_bb, gEq_is, gEq_si, gEq_nn, gEq_ni, gEq_ns, gEq_nb, gEq_in, gEq_sn, gEq_bn, gEq_ll, gEq_tt, gIs_n, gIs_bb, gIs_ib, gIn_l, gIn_t, gIn_s, gIx_l, gIx_t, gIx_s, gSl_s, gSl_l, gSl_t, gMulT_c, opt_s, opt_n, go_ok, go_err]
          rw [fStruck hA (by rw [List.length_append]; omega)]
          simp only [okSet_s, okSet_0, okSet_i, okSet_o, okSet_j, notRef, on1, isiG, askB, onB, tyD, isi1, isiA, btSub, absG, strG, max2G, min2G, hasO, lendAll, lendP, frz, scD, ng, isNon, swapG, indexG, joinG, splitG, imAt, atL, fldD, fldX, putD, insD, fn_run, hideO, ends0, ends1, atH, st0, st1, gEq, gNe, gSub, gMul, gFdiv, gMod, gPow, gLt, gLe, gGt, gGe, ipG_add, ipG_sub, List.getElem?_cons_zero, List.getElem?_cons_succ, List.getElem?_nil, List.set_cons_zero, List.set_cons_succ, List.map_cons, List.map_nil, List.length_cons, List.length_nil, List.replicate_zero, List.replicate_succ, List.cons_append, List.nil_append, List.append_nil, List.append_assoc, List.head?_cons, List.lookup, List.contains_cons, List.contains_nil, List.all_cons, List.all_nil, List.any_cons, List.any_nil, Bool.true_and, Bool.and_true, Bool.false_and, Bool.and_false, Bool.or_true, Bool.true_or, Bool.or_false, Bool.false_or, Bool.not_true, Bool.not_false, Bool.and_self, decide_eq_true_eq, decide_true, decide_false, Bool.false_eq_true, if_true, if_false, ite_true, ite_false, reduceIte, reduceCtorEq, Bool.not_eq_true, Bool.not_eq_true', decide_eq_false_iff_not, not_true_eq_false, not_false_eq_true, true_and, and_true, false_and, and_false, Nat.add_zero, Nat.zero_add, Nat.reduceAdd, Nat.reduceSub, Nat.reduceLT, Nat.reduceLeDiff, Nat.sub_self, beq_iff_eq, BEq.rfl, beq_self_eq_true, anc, cflds, Option.map_some, Option.map_none, lendP_j, wipeP, elemsD, prePick, postPick, nd_run, pick_run, draw_run, wd, vVar_c, vC_c, vIm_c, vNil_c, vCons_c, vBin_c, vBl_c, vAnd_c, vOr_c, vNot_c, vAndV_c, vOrV_c, vNotV_c, vIfE_c, vLend_c, vLendT_c, vNext_c, vSeq_c, vDrop_c, vRet_c, vRetO_c, vIf_c, vSet_c, vSetO_c, vgName_c, vgNil_c, vgCons_c, vgTup_c, vAsg_c, vPar_c, vAug_c, vAug2_c, vFor_c, vCall_c, vCallR_c, vNeg_c, vChain_c, vPn_c, vPs_c, vSl_c, vRevS_c, vLst_c, vTup_c, vCB_c, vM0_c, vM1_c, vFld_c, vFldX_c, vFldO_c, vPutO_c, vApp_c, vPop_c, vExt_c, vPutI_c, vItL_c, vItT_c, vItS_c, vRng1_c, vRng2_c, vEnumL_c, vEnumS_c, vZip_c, vYes_c, vLc_c, vRaise_c, vMake_c, vMakeK_c, vCallN_c, vMeth_c, vMethN_c, vOwn2_c, vBlO_c, vOwnN_c, vOwn1_c, vLenO_c, vStrO_c, vItO_c, vFn_c, vRef_c, vMk_c, vMkK_c, vHeard_c, vEqA_c, vMulA_c, fzK_i, fzK_o, vFz_c, trK_b, trK_n, trK_i, trK_s, trK_l, trK_t, vTr_c, fn_r0, fn_r1, fn_r2, fn_r3, aliD_1, aliD_2, aliD_3, aliD_4, aliD_5, aliD_6, aliD_7, aliD_8, forL_0, forL_1, boolP_b, lenG_s, lenG_l, lenG_t, intG_i, intG_b, intG_s, listG_l, listG_t, tupG_l, tupG_t, gAdd_i, gAdd_s, gAdd_l, gAdd_t, gAdd_b, gInt_i, gInt0_i, gCmp_i, gCmp_s, gEq_ii, gEq_ss, gEq_bb, gEq_is, gEq_si, gEq_nn, gEq_ni, gEq_ns, gEq_nb, gEq_in, gEq_sn, gEq_bn, gEq_ll, gEq_tt, gIs_n, gIs_bb, gIs_ib, gIn_l, gIn_t, gIn_s, gIx_l, gIx_t, gIx_s, gSl_s, gSl_l, gSl_t, gMulT_c, opt_s, opt_n, go_ok, go_err]
          refine ⟨by omega, ret _ n' (red_good hA) ?_ (by omega)⟩
          have := red_length (back (l.drop c.toNat) ++ m)
          rw [List.length_append] at this
          omega
        · split
          · rw [fBack gl (by omega)]
            simp only [okSet_s, okSet_0, okSet_i, okSet_o, okSet_j, notRef, on1, isiG, askB, onB, tyD, isi1, isiA, btSub, absG, strG, max2G, min2G, hasO, lendAll, lendP, frz, scD, ng, isNon, swapG, indexG, joinG, splitG, imAt, atL, fldD, fldX, putD, insD, fn_run, hideO, ends0, ends1, atH, st0, st1, gEq, gNe, gSub, gMul, gFdiv, gMod, gPow, gLt, gLe, gGt, gGe, ipG_add, ipG_sub, List.getElem?_cons_zero, List.getElem?_cons_succ, List.getElem?_nil, List.set_cons_zero, List.set_cons_succ, List.map_cons, List.map_nil, List.length_cons, List.length_nil, List.replicate_zero, List.replicate_succ, List.cons_append, List.nil_append, List.append_nil, List.append_assoc, List.head?_cons, List.lookup, List.contains_cons, List.contains_nil, List.all_cons, List.all_nil, List.any_cons, List.any_nil, Bool.true_and, Bool.and_true, Bool.false_and, Bool.and_false, Bool.or_true, Bool.true_or, Bool.or_false, Bool.false_or, Bool.not_true, Bool.not_false, Bool.and_self, decide_eq_true_eq, decide_true, decide_false, Bool.false_eq_true, if_true, if_false, ite_true, ite_false, reduceIte, reduceCtorEq, Bool.not_eq_true, Bool.not_eq_true', decide_eq_false_iff_not, not_true_eq_false, not_false_eq_true, true_and, and_true, false_and, and_false, Nat.add_zero, Nat.zero_add, Nat.reduceAdd, Nat.reduceSub, Nat.reduceLT, Nat.reduceLeDiff, Nat.sub_self, beq_iff_eq, BEq.rfl, beq_self_eq_true, anc, cflds, Option.map_some, Option.map_none, lendP_j, wipeP, elemsD, prePick, postPick, nd_run, pick_run, draw_run, wd, vVar_c, vC_c, vIm_c, vNil_c, vCons_c, vBin_c, vBl_c, vAnd_c, vOr_c, vNot_c, vAndV_c, vOrV_c, vNotV_c, vIfE_c, vLend_c, vLendT_c, vNext_c, vSeq_c, vDrop_c, vRet_c, vRetO_c, vIf_c, vSet_c, vSetO_c, vgName_c, vgNil_c, vgCons_c, vgTup_c, vAsg_c, vPar_c, vAug_c, vAug2_c, vFor_c, vCall_c, vCallR_c, vNeg_c, vChain_c, vPn_c, vPs_c, vSl_c, vRevS_c, vLst_c, vTup_c, vCB_c, vM0_c, vM1_c, vFld_c, vFldX_c, vFldO_c, vPutO_c, vApp_c, vPop_c, vExt_c, vPutI_c, vItL_c, vItT_c, vItS_c, vRng1_c, vRng2_c, vEnumL_c, vEnumS_c, vZip_c, vYes_c, vLc_c, vRaise_c, vMake_c, vMakeK_c, vCallN_c, vMeth_c, vMethN_c, vOwn2_c, vBlO_c, vOwnN_c, vOwn1_c, vLenO_c, vStrO_c, vItO_c, vFn_c, vRef_c, vMk_c, vMkK_c, vHeard_c, vEqA_c, vMulA_c, fzK_i, fzK_o, vFz_c, trK_b, trK_n, trK_i, trK_s, trK_l, trK_t, vTr_c, fn_r0, fn_r1, fn_r2, fn_r3, aliD_1, aliD_2, aliD_3, aliD_4, aliD_5, aliD_6, aliD_7, aliD_8, forL_0, forL_1, boolP_b, lenG_s, lenG_l, lenG_t, intG_i, intG_b, intG_s, listG_l, listG_t, tupG_l, tupG_t, gAdd_i, gAdd_s, gAdd_l, gAdd_t, gAdd_b, gInt_i, gInt0_i, gCmp_i, gCmp_s, gEq_ii, gEq_ss, gEq_bb, gEq_is, gEq_si, gEq_nn, gEq_ni, gEq_ns, gEq_nb, gEq_in, gEq_sn, gEq_bn, gEq_ll, gEq_tt, gIs_n, gIs_bb, gIs_ib, gIn_l, gIn_t, gIn_s, gIx_l, gIx_t, gIx_s, gSl_s, gSl_l, gSl_t, gMulT_c, opt_s, opt_n, go_ok, go_err]
            exact ret _ _ (good_back gl) (by rw [back_len]; omega) (by omega)
          · refine row_run (by omega) (by omega) (by omega) fun m n' g1 g2 g3 => ?_
            simp only [okSet_s, okSet_0, okSet_i, okSet_o, okSet_j, notRef, on1, isiG, askB, onB, tyD, isi1, isiA, btSub, absG, strG, max2G, min2G, hasO, lendAll, lendP, frz, scD, ng, isNon, swapG, indexG, joinG, splitG, imAt, atL, fldD, fldX, putD, insD, fn_run, hideO, ends0, ends1, atH, st0, st1, gEq, gNe, gSub, gMul, gFdiv, gMod, gPow, gLt, gLe, gGt, gGe, ipG_add, ipG_sub, List.getElem?_cons_zero, List.getElem?_cons_succ, List.getElem?_nil, List.set_cons_zero, List.set_cons_succ, List.map_cons, List.map_nil, List.length_cons, List.length_nil, List.replicate_zero, List.replicate_succ, List.cons_append, List.nil_append, List.append_nil, List.append_assoc, List.head?_cons, List.lookup, List.contains_cons, List.contains_nil, List.all_cons, List.all_nil, List.any_cons, List.any_nil, Bool.true_and, Bool.and_true, Bool.false_and, Bool.and_false, Bool.or_true, Bool.true_or, Bool.or_false, Bool.false_or, Bool.not_true, Bool.not_false, Bool.and_self, decide_eq_true_eq, decide_true, decide_false, Bool.false_eq_true, if_true, if_false, ite_true, ite_false, reduceIte, reduceCtorEq, Bool.not_eq_true, Bool.not_eq_true', decide_eq_false_iff_not, not_true_eq_false, not_false_eq_true, true_and, and_true, false_and, and_false, Nat.add_zero, Nat.zero_add, Nat.reduceAdd, Nat.reduceSub, Nat.reduceLT, Nat.reduceLeDiff, Nat.sub_self, beq_iff_eq, BEq.rfl, beq_self_eq_true, anc, cflds, Option.map_some, Option.map_none, lendP_j, wipeP, elemsD, prePick, postPick, nd_run, pick_run, draw_run, wd, vVar_c, vC_c, vIm_c, vNil_c, vCons_c, vBin_c, vBl_c, vAnd_c, vOr_c, vNot_c, vAndV_c, vOrV_c, vNotV_c, vIfE_c, vLend_c, vLendT_c, vNext_c, vSeq_c, vDrop_c, vRet_c, vRetO_c, vIf_c, vSet_c, vSetO_c, vgName_c, vgNil_c, vgCons_c, vgTup_c, vAsg_c, vPar_c, vAug_c, vAug2_c, vFor_c, vCall_c, vCallR_c, vNeg_c, vChain_c, vPn_c, vPs_c, vSl_c, vRevS_c, vLst_c, vTup_c, vCB_c, vM0_c, vM1_c, vFld_c, vFldX_c, vFldO_c, vPutO_c, vApp_c, vPop_c, vExt_c, vPutI_c, vItL_c, vItT_c, vItS_c, vRng1_c, vRng2_c, vEnumL_c, vEnumS_c, vZip_c, vYes_c, vLc_c, vRaise_c, vMake_c, vMakeK_c, vCallN_c, vMeth_c, vMethN_c, vOwn2_c, vBlO_c, vOwnN_c, vOwn1_c, vLenO_c, vStrO_c, vItO_c, vFn_c, vRef_c, vMk_c, vMkK_c, vHeard_c, vEqA_c, vMulA_c, fzK_i, fzK_o, vFz_c, trK_b, trK_n, trK_i, trK_s, trK_l, trK_t, vTr_c, fn_r0, fn_r1, fn_r2, fn_r3, aliD_1, aliD_2, aliD_3, aliD_4, aliD_5, aliD_6, aliD_7, aliD_8, forL_0, forL_1, boolP_b, lenG_s, lenG_l, lenG_t, intG_i, intG_b, intG_s, listG_l, listG_t, tupG_l, tupG_t, gAdd_i, gAdd_s, gAdd_l, gAdd_t, gAdd_b, gInt_i, gInt0_i, gCmp_i, gCmp_s, gEq_ii, gEq_ss, gEq_bb, gEq_is, gEq_si, gEq_nn, gEq_ni, gEq_ns, gEq_nb, gEq_in, gEq_sn, gEq_bn, gEq_ll, gEq_tt, gIs_n, gIs_bb, gIs_ib, gIn_l, gIn_t, gIn_s, gIx_l, gIx_t, gIx_s, gSl_s, gSl_l, gSl_t, gMulT_c, opt_s, opt_n, go_ok, go_err, cut_to c0]
            rw [fBack (good_take gl _) (by rw [List.length_take]; omega)]
            have hb : (back (l.take c.toNat)).length ≤ 12 := by rw [back_len, List.length_take]; omega
            have hA : AllL (m ++ back (l.take c.toNat)) := allL_app (good_allL g1) (back_L (good_allL (good_take gl _)))
            try simp only [okSet_s, okSet_0, okSet_i, okSet_o, okSet_j, notRef, on1, isiG, askB, onB, tyD, isi1, isiA, btSub, absG, strG, max2G, min2G, hasO, lendAll, lendP, frz, scD, ng, isNon, swapG, indexG, joinG, splitG, imAt, atL, fldD, fldX, putD, insD, fn_run, hideO, ends0, ends1, atH, st0, st1, gEq, gNe, gSub, gMul, gFdiv, gMod, gPow, gLt, gLe, gGt, gGe, ipG_add, ipG_sub, List.getElem?_cons_zero, List.getElem?_cons_succ, List.getElem?_nil, List.set_cons_zero, List.set_cons_succ, List.map_cons, List.map_nil, List.length_cons, List.length_nil, List.replicate_zero, List.replicate_succ, List.cons_append, List.nil_append, List.append_nil, List.append_assoc, List.head?_cons, List.lookup, List.contains_cons, List.contains_nil, List.all_cons, List.all_nil, List.any_cons, List.any_nil, Bool.true_and, Bool.and_true, Bool.false_and, Bool.and_false, Bool.or_true, Bool.true_or, Bool.or_false, Bool.false_or, Bool.not_true, Bool.not_false, Bool.and_self, decide_eq_true_eq, decide_true, decide_false, Bool.false_eq_true, if_true, if_false, ite_true, ite_false, reduceIte, reduceCtorEq, Bool.not_eq_true, Bool.not_eq_true', decide_eq_false_iff_not, not_true_eq_false, not_false_eq_true, true_and, and_true, false_and, and_false, Nat.add_zero, Nat.zero_add, Nat.reduceAdd, Nat.reduceSub, Nat.reduceLT, Nat.reduceLeDiff, Nat.sub_self, beq_iff_eq, BEq.rfl, beq_self_eq_true, anc, cflds, Option.map_some, Option.map_none, lendP_j, wipeP, elemsD, prePick, postPick, nd_run, pick_run, draw_run, wd, vVar_c, vC_c, vIm_c, vNil_c, vCons_c, vBin_c, vBl_c, vAnd_c, vOr_c, vNot_c, vAndV_c, vOrV_c, vNotV_c, vIfE_c, vLend_c, vLendT_c, vNext_c, vSeq_c, vDrop_c, vRet_c, vRetO_c, vIf_c, vSet_c, vSetO_c, vgName_c, vgNil_c, vgCons_c, vgTup_c, vAsg_c, vPar_c, vAug_c, vAug2_c, vFor_c, vCall_c, vCallR_c, vNeg_c, vChain_c, vPn_c, vPs_c, vSl_c, vRevS_c, vLst_c, vTup_c, vCB_c, vM0_c, vM1_c, vFld_c, vFldX_c, vFldO_c, vPutO_c, vApp_c, vPop_c, vExt_c, vPutI_c, vItL_c, vItT_c, vItS_c, vRng1_c, vRng2_c, vEnumL_c, vEnumS_c, vZip_c, vYes_c, vLc_c, vRaise_c, vMake_c, vMakeK_c, vCallN_c, vMeth_c, vMethN_c, vOwn2_c, vBlO_c, vOwnN_c, vOwn1_c, vLenO_c, vStrO_c, vItO_c, vFn_c, vRef_c, vMk_c, vMkK_c, vHeard_c, vEqA_c, vMulA_c, fzK_i, fzK_o, vFz_c, trK_b, trK_n, trK_i, trK_s, trK_l, trK_t, vTr_c, fn_r0, fn_r1, fn_r2, fn_r3, aliD_1, aliD_2, aliD_3, aliD_4, aliD_5, aliD_6, aliD_7, aliD_8, forL_0, forL_1, boolP_b, lenG_s, lenG_l, lenG_t, intG_i, intG_b, intG_s, listG_l, listG_t, tupG_l, tupG_t, gAdd_i, gAdd_s, gAdd_l, gAdd_t, gAdd_b, gInt_i, gInt0_i, gCmp_i, gCmp_s, gEq_ii, gEq_ss, gEq_bb, gEq_is, gEq_si, gEq_nn, gEq_ni, gEq_ns, gEq_nb, gEq_in, gEq_sn, gEq_bn, gEq_ll, gEq_tt, gIs_n, gIs_bb, gIs_ib, gIn_l, gIn_t, gIn_s, gIx_l, gIx_t, gIx_s, gSl_s, gSl_l, gSl_t, gMulT_c, opt_s, opt_n, go_ok, go_err]
            rw [fStruck hA (by rw [List.length_append]; omega)]
            simp only [okSet_s, okSet_0, okSet_i, okSet_o, okSet_j, notRef, on1, isiG, askB, onB, tyD, isi1, isiA, btSub, absG, strG, max2G, min2G, hasO, lendAll, lendP, frz, scD, ng, isNon, swapG, indexG, joinG, splitG, imAt, atL, fldD, fldX, putD, insD, fn_run, hideO, ends0, ends1, atH, st0, st1, gEq, gNe, gSub, gMul, gFdiv, gMod, gPow, gLt, gLe, gGt, gGe, ipG_add, ipG_sub, List.getElem?_cons_zero, List.getElem?_cons_succ, List.getElem?_nil, List.set_cons_zero, List.set_cons_succ, List.map_cons, List.map_nil, List.length_cons, List.length_nil, List.replicate_zero, List.replicate_succ, List.cons_append, List.nil_append, List.append_nil, List.append_assoc, List.head?_cons, List.lookup, List.contains_cons, List.contains_nil, List.all_cons, List.all_nil, List.any_cons, List.any_nil, Bool.true_and, Bool.and_true, Bool.false_and, Bool.and_false, Bool.or_true, Bool.true_or, Bool.or_false, Bool.false_or, Bool.not_true, Bool.not_false, Bool.and_self, decide_eq_true_eq, decide_true, decide_false, Bool.false_eq_true, if_true, if_false, ite_true, ite_false, reduceIte, reduceCtorEq, Bool.not_eq_true, Bool.not_eq_true', decide_eq_false_iff_not, not_true_eq_false, not_false_eq_true, true_and, and_true, false_and, and_false, Nat.add_zero, Nat.zero_add, Nat.reduceAdd, Nat.reduceSub, Nat.reduceLT, Nat.reduceLeDiff, Nat.sub_self, beq_iff_eq, BEq.rfl, beq_self_eq_true, anc, cflds, Option.map_some, Option.map_none, lendP_j, wipeP, elemsD, prePick, postPick, nd_run, pick_run, draw_run, wd, vVar_c, vC_c, vIm_c, vNil_c, vCons_c, vBin_c, vBl_c, vAnd_c, vOr_c, vNot_c, vAndV_c, vOrV_c, vNotV_c, vIfE_c, vLend_c, vLendT_c, vNext_c, vSeq_c, vDrop_c, vRet_c, vRetO_c, vIf_c, vSet_c, vSetO_c, vgName_c, vgNil_c, vgCons_c, vgTup_c, vAsg_c, vPar_c, vAug_c, vAug2_c, vFor_c, vCall_c, vCallR_c, vNeg_c, vChain_c, vPn_c, vPs_c, vSl_c, vRevS_c, vLst_c, vTup_c, vCB_c, vM0_c, vM1_c, vFld_c, vFldX_c, vFldO_c, vPutO_c, vApp_c, vPop_c, vExt_c, vPutI_c, vItL_c, vItT_c, vItS_c, vRng1_c, vRng2_c, vEnumL_c, vEnumS_c, vZip_c, vYes_c, vLc_c, vRaise_c, vMake_c, vMakeK_c, vCallN_c, vMeth_c, vMethN_c, vOwn2_c, vBlO_c, vOwnN_c, vOwn1_c, vLenO_c, vStrO_c, vItO_c, vFn_c, vRef_c, vMk_c, vMkK_c, vHeard_c, vEqA_c, vMulA_c, fzK_i, fzK_o, vFz_c, trK_b, trK_n, trK_i, trK_s, trK_l, trK_t, vTr_c, fn_r0, fn_r1, fn_r2, fn_r3, aliD_1, aliD_2, aliD_3, aliD_4, aliD_5, aliD_6, aliD_7, aliD_8, forL_0, forL_1, boolP_b, lenG_s, lenG_l, lenG_t, intG_i, intG_b, intG_s, listG_l, listG_t, tupG_l, tupG_t, gAdd_i, gAdd_s, gAdd_l, gAdd_t, gAdd_b, gInt_i, gInt0_i, gCmp_i, gCmp_s, gEq_ii, gEq_ss, gEq_bb, gEq_is, gEq_si, gEq_nn, gEq_ni, gEq_ns, gEq_nb, gEq_in, gEq_sn, gEq_bn, gEq_ll, gEq_tt, gIs_n, gIs_bb, gIs_ib, gIn_l, gIn_t, gIn_s, gIx_l, gIx_t, gIx_s, gSl_s, gSl_l, gSl_t, gMulT_c, opt_s, opt_n, go_ok, go_err]
            refine ⟨by omega, by omega, ret _ n' (red_good hA) ?_ (by omega)⟩
            have := red_length (m ++ back (l.take c.toNat))
            rw [List.length_append] at this
            omega
    · exact hp.elim
  | _ => exact h.elim
def f__law_pair_right (ds : List D) : Res := match ds with
  | [.str l, .str m] => if firstBad l = none ∧ firstBad m = none ∧ l.length ≤ 100 ∧ m.length ≤ 100 then .ok (.imm (.bl true)) else .bad
  | _ => .bad
theorem len__law_pair_right : ∀ ds, f__law_pair_right ds ≠ .bad → ds.length = 2 := by
  intro ds h
  unfold f__law_pair_right at h
  split at h <;> first | rfl | exact absurd rfl h
def t__law_pair_right : VS := (vSeq (vPar 2 3 (vCons (vFz (vMk i_Word [] (vCons (vVar 0) vNil))) (vCons (vFz (vMk i_Word [] (vCons (vVar 1) vNil))) vNil)))
  (vSeq (vPar 4 5 (vCons (vFz (vOwn2 20 (fnS f_Word___mul__) (vVar 2) (vVar 3))) (vCons (vFz (vFn f__law_struck (vCons (vBin gAdd (vVar 0) (vVar 1)) vNil))) vNil)))
  (vSeq (vIf (vOr (vNot (vTr (vFz (vCB (isiG [20] [1, 8, 11, 12] [20, 11, 8]) (vCons (vVar 4) (vCons (vC (.cls 20)) vNil)))))) (vOr (vBl (vBin gNe (vFld [(20, 0)] (vVar 4)) (vVar 5))) (vBl (vBin gNe (vFld [(20, 0)] (vFz (vOwn1 20 (fnS f_Word___invert__) (vVar 4)))) (vFz (vFn f__law_back (vCons (vVar 5) vNil)))))))
  (vRet (vC (.bl false)))
  vNext)
  (vSeq (vSet 6 (vBin gEq (vFz (vCB (on1 lenG) (vCons (vVar 5) vNil))) (vBin gAdd (vFz (vCB (on1 lenG) (vCons (vVar 0) vNil))) (vFz (vCB (on1 lenG) (vCons (vVar 1) vNil))))))
  (vSeq (vIf (vOr (vNot (vTr (vFz (vFn f__law_told (vCons (vFz (vMeth 20 (fnS f_Word_fits) (vVar 2) (vCons (vVar 3) vNil))) (vCons (vVar 6) vNil)))))) (vNot (vTr (vFz (vFn f__law_told (vCons (vFz (vMethN 20 1 (fnS f_Word_fits) (vVar 2) (vCons (vVar 3) vNil))) (vCons (vVar 6) vNil)))))))
  (vRet (vC (.bl false)))
  vNext)
  (vSeq (vIf (vOr (vBl (vBin gNe (vFld [(20, 0)] (vFz (vOwn2 20 (fnS f_Word___mul__) (vFz (vOwn1 20 (fnS f_Word___invert__) (vVar 2))) (vVar 2)))) (vC (.str [])))) (vOr (vBlO (vOwnN 20 (fnS f_Word___eq__) (vFz (vOwn1 20 (fnS f_Word___invert__) (vFz (vOwn1 20 (fnS f_Word___invert__) (vVar 2))))) (vVar 2))) (vOr (vBlO (vOwnN 20 (fnS f_Word___eq__) (vFz (vOwn2 20 (fnS f_Word___mul__) (vVar 4) (vFz (vOwn1 20 (fnS f_Word___invert__) (vVar 3))))) (vVar 2))) (vBlO (vOwnN 20 (fnS f_Word___eq__) (vFz (vOwn2 20 (fnS f_Word___mul__) (vFz (vOwn1 20 (fnS f_Word___invert__) (vVar 2))) (vVar 4))) (vVar 3))))))
  (vRet (vC (.bl false)))
  vNext)
  (vSeq (vIf (vOr (vBlO (vOwnN 20 (fnS f_Word___eq__) (vFz (vOwn2 20 (fnS f_Word___mul__) (vFz (vOwn1 20 (fnS f_Word___invert__) (vVar 3))) (vFz (vOwn1 20 (fnS f_Word___invert__) (vVar 2))))) (vFz (vOwn1 20 (fnS f_Word___invert__) (vVar 4))))) (vOr (vBlO (vOwnN 20 (fnS f_Word___eq__) (vFz (vOwn2 20 (fnS f_Word___mul__) (vVar 2) (vFz (vMk i_Word [.str []] vNil)))) (vVar 2))) (vBlO (vOwnN 20 (fnS f_Word___eq__) (vFz (vOwn2 20 (fnS f_Word___mul__) (vFz (vMk i_Word [.str []] vNil)) (vVar 3))) (vVar 3)))))
  (vRet (vC (.bl false)))
  vNext)
  (vRet (vAndV (vBin gEq (vFld [(20, 0)] (vVar 2)) (vVar 0)) (vAndV (vBin gEq (vFld [(20, 0)] (vVar 3)) (vVar 1)) (vFz (vFn f__law_told (vCons (vFz (vOwn2 20 (fnS f_Word___eq__) (vVar 4) (vVar 2))) (vCons (vBin gEq (vVar 1) (vC (.str []))) vNil))))))))))))))
theorem ob__law_pair_right : Ob0 t__law_pair_right 7 f__law_pair_right := by
  intro ds Q E h
  unfold f__law_pair_right at h
  split at h
  · rename_i l m
    split at h
    · rename_i hw
      obtain ⟨h1, h2, l1, m1⟩ := hw
      have gl := good_of_none h1
      have gm := good_of_none h2
      have al := good_allL gl
      have am := good_allL gm
      have alm := allL_app al am
      have gr := red_good alm
      have lr : (red (l ++ m)).length ≤ 200 := by
        have := red_length (l ++ m)
        rw [List.length_append] at this
        omega
      have gb := good_back gl
      have gbm := good_back gm
      have lb : (back l).length ≤ 100 := by rw [back_len]; omega
      have lbm : (back m).length ≤ 100 := by rw [back_len]; omega
      have le : ∀ a b : List Nat, a.length ≤ 1000 → b.length ≤ 1000 → (red (a ++ b)).length ≤ 4000 := fun a b ha hb => by
        have := red_length (a ++ b)
        rw [List.length_append] at this
        omega
      have e1 : red (red (l ++ m) ++ back m) = l := by
        rw [red_left alm, List.append_assoc, ← red_right al (allL_app am (back_L am)), red_inv am, List.append_nil, red_of_good gl]
      have e2 : red (back l ++ red (l ++ m)) = m := by
        rw [red_right (back_L al) alm, ← List.append_assoc, ← red_left (allL_app (back_L al) al), red_inv' al, List.nil_append, red_of_good gm]
      have e3 : red (back m ++ back l) = back (red (l ++ m)) := by
        rw [← back_app, red_back alm]
      have e4 : decide (red (l ++ m) = l) = decide (m = []) := decide_eq_decide.mpr (red_nil_iff gl gm)
      have w1 := iW gl (by omega)
      have w2 := iW gm (by omega)
      have w3 : i_Word [.str []] = .ok (.own false (.obj 20 [.str [], .int ((0 : Nat) : Int)])) := iW good_nil (by decide)
      have m1 := mulW gl (by omega) gm (by omega) (le _ _ (by omega) (by omega))
      have m2 := mulW gb (by omega) gl (by omega) (le _ _ (by omega) (by omega))
      have m3 := mulW gr (by omega) gbm (by omega) (le _ _ (by omega) (by omega))
      have m4 := mulW gb (by omega) gr (by omega) (le _ _ (by omega) (by omega))
      have m5 := mulW gbm (by omega) gb (by omega) (le _ _ (by omega) (by omega))
      have m6 : f_Word___mul__ [.ins 20 [.str l, .int (l.length : Nat)], .ins 20 [.str [], .int ((0 : Nat) : Int)]] = .ok (.imm (wd l)) := by
        have := mulW gl (by omega) good_nil (by decide) (le _ _ (by omega) (by decide))
        rw [List.append_nil, red_of_good gl] at this
        exact this
      have m7 : f_Word___mul__ [.ins 20 [.str [], .int ((0 : Nat) : Int)], .ins 20 [.str m, .int (m.length : Nat)]] = .ok (.imm (wd m)) := by
        have := mulW good_nil (by decide) gm (by omega) (le _ _ (by decide) (by omega))
        rw [List.nil_append, red_of_good gm] at this
        exact this
      rw [red_inv' al] at m2
      rw [e1] at m3
      rw [e2] at m4
      rw [e3] at m5
      have i1 := invW gl (by omega)
      have i2 := invW gm (by omega)
      have i3 := invW gr (by omega)
      have i4 := invW gb (by omega)
      rw [back_back al] at i4
      have grb := good_back gr
      have lrb : (back (red (l ++ m))).length ≤ 200 := by rw [back_len]; omega
      have q1 := eqW gl (by omega) gl (by omega)
      have q2 := eqW gm (by omega) gm (by omega)
      have q3 := eqW grb (by omega) grb (by omega)
      have q4 := eqW gr (by omega) gl (by omega)
      rw [e4] at q4
      have f1 := fitW gl (by omega) gm (by omega)
      have s1 := fStruck alm (by rw [List.length_append]; omega)
      have b1 := fBack gr (by omega)
      unfold t__law_pair_right
      simp only [okSet_s, okSet_0, okSet_i, okSet_o, okSet_j, notRef, on1, isiG, askB, onB, tyD, isi1, isiA, btSub, absG, strG, max2G, min2G, hasO, lendAll, lendP, frz, scD, ng, isNon, swapG, indexG, joinG, splitG, imAt, atL, fldD, fldX, putD, insD, fn_run, hideO, ends0, ends1, atH, st0, st1, gEq, gNe, gSub, gMul, gFdiv, gMod, gPow, gLt, gLe, gGt, gGe, ipG_add, ipG_sub, List.getElem?_cons_zero, List.getElem?_cons_succ, List.getElem?_nil, List.set_cons_zero, List.set_cons_succ, List.map_cons, List.map_nil, List.length_cons, List.length_nil, List.replicate_zero, List.replicate_succ, List.cons_append, List.nil_append, List.append_nil, List.append_assoc, List.head?_cons, List.lookup, List.contains_cons, List.contains_nil, List.all_cons, List.all_nil, List.any_cons, List.any_nil, Bool.true_and, Bool.and_true, Bool.false_and, Bool.and_false, Bool.or_true, Bool.true_or, Bool.or_false, Bool.false_or, Bool.not_true, Bool.not_false, Bool.and_self, decide_eq_true_eq, decide_true, decide_false, Bool.false_eq_true, if_true, if_false, ite_true, ite_false, reduceIte, reduceCtorEq, Bool.not_eq_true, Bool.not_eq_true', decide_eq_false_iff_not, not_true_eq_false, not_false_eq_true, true_and, and_true, false_and, and_false, Nat.add_zero, Nat.zero_add, Nat.reduceAdd, Nat.reduceSub, Nat.reduceLT, Nat.reduceLeDiff, Nat.sub_self, beq_iff_eq, BEq.rfl, beq_self_eq_true, anc, cflds, Option.map_some, Option.map_none, lendP_j, wipeP, elemsD, prePick, postPick, nd_run, pick_run, draw_run, wd, vVar_c, vC_c, vIm_c, vNil_c, vCons_c, vBin_c, vBl_c, vAnd_c, vOr_c, vNot_c, vAndV_c, vOrV_c, vNotV_c, vIfE_c, vLend_c, vLendT_c, vNext_c, vSeq_c, vDrop_c, vRet_c, vRetO_c, vIf_c, vSet_c, vSetO_c, vgName_c, vgNil_c, vgCons_c, vgTup_c, vAsg_c, vPar_c, vAug_c, vAug2_c, vFor_c, vCall_c, vCallR_c, vNeg_c, vChain_c, vPn_c, vPs_c, vSl_c, vRevS_c, vLst_c, vTup_c, vCB_c, vM0_c, vM1_c, vFld_c, vFldX_c, vFldO_c, vPutO_c, vApp_c, vPop_c, vExt_c, vPutI_c, vItL_c, vItT_c, vItS_c, vRng1_c, vRng2_c, vEnumL_c, vEnumS_c, vZip_c, vYes_c, vLc_c, vRaise_c, vMake_c, vMakeK_c, vCallN_c, vMeth_c, vMethN_c, vOwn2_c, vBlO_c, vOwnN_c, vOwn1_c, vLenO_c, vStrO_c, vItO_c, vFn_c, vRef_c, vMk_c, vMkK_c, vHeard_c, vEqA_c, vMulA_c, fzK_i, fzK_o, vFz_c, trK_b, trK_n, trK_i, trK_s, trK_l, trK_t, vTr_c, fn_r0, fn_r1, fn_r2, fn_r3, aliD_1, aliD_2, aliD_3, aliD_4, aliD_5, aliD_6, aliD_7, aliD_8, forL_0, forL_1, boolP_b, lenG_s, lenG_l, lenG_t, intG_i, intG_b, intG_s, listG_l, listG_t, tupG_l, tupG_t, gAdd_i, gAdd_s, gAdd_l, gAdd_t, gAdd_b, gInt_i, gInt0_i, gCmp_i, gCmp_s, gEq_ii, gEq_ss, gEq_bb, gEq_is, gEq_si, gEq_nn, gEq_ni, gEq_ns, gEq_nb, gEq_in, gEq_sn, gEq_bn, gEq_ll, gEq_tt, gIs_n, gIs_bb, gIs_ib, gIn_l, gIn_t, gIn_s, gIx_l, gIx_t, gIx_s, gSl_s, gSl_l, gSl_t, gMulT_c, opt_s, opt_n, go_ok, go_err, w1, w2, w3, m1, m2, m3, m4, m5, m6, m7, i1, i2, i3, i4, q1, q2, q3, q4, f1, s1, b1, f__law_told]
      have e5 : decide ((red (l ++ m)).length = l.length + m.length) = decide (((red (l ++ m)).length : Int) = (l.length : Int) + (m.length : Int)) := decide_eq_decide.mpr (by omega)
      rw [if_neg (not_not_intro e5), if_neg (not_not_intro e5)]
      exact ⟨by omega, by omega, by omega, by omega, h⟩
    · exact h.elim
  · exact h.elim
def g__law_refused_right : RSp := ndR 2 (fun ds => match ds with
  | [.str l] => Good l ∧ l.length ≤ 100
  | _ => False) (fun ds d => d = .bl true)
theorem len__law_refused_right : ∀ o ds Q E, g__law_refused_right.run o ds Q E → ds.length + 1 = 2 := len_nd fun ds h => by
  split at h
  · rfl
  · exact h.elim
theorem mulA {l : List Nat} {n : Int} {d : D} (h : aliD d = true) : f_Word___mul__ [.ins 20 [.str l, .int n], d] = .err 8 [.int 0] := by
  cases d <;> cases h <;> rfl
theorem fitA {l : List Nat} {n : Int} {d : D} (h : aliD d = true) : f_Word_fits [.ins 20 [.str l, .int n], d] = .err 8 [.int 0] := by
  cases d <;> cases h <;> rfl
def t__law_refused_right : VS := (vSeq (vAsg (vTup (vCons (vFz (vMk i_Word [] (vCons (vVar 1) vNil))) (vCons (vFz (vRef 0 g__law_pick (vCons (vFz (vLst (vCons (vC .non) (vCons (vC (.int 0)) (vCons (vC (.str [65])) (vCons (vC (.str [])) (vCons (vFz (vLst (vCons (vC (.str [65])) vNil))) (vCons (vTup (vCons (vC (.str [65])) vNil)) (vCons (vC (.bl true)) (vCons (vC (.int 2)) vNil)))))))))) vNil))) vNil))) (vgTup 2 (vgCons (vgName 2) (vgCons (vgName 3) vgNil))))
  (vSeq (vSetO 4 (vLst (vCons (vHeard [1, 8, 11, 12] (vFz (vMulA 20 (fnS f_Word___mul__) (vVar 2) (vVar 3)))) vNil)))
  (vSeq (vDrop (vApp 4 (vHeard [1, 8, 11, 12] (vFz (vMeth 20 (fnS f_Word_fits) (vVar 2) (vCons (vVar 3) vNil))))))
  (vSeq (vFor (vItL (vVar 4)) (vgName 5)
  (vIf (vOr (vNot (vTr (vFz (vCB (isiG [20] [1, 8, 11, 12] [20, 11, 8]) (vCons (vVar 5) (vCons (vC (.cls 8)) vNil)))))) (vOr (vBl (vBin gNe (vFldX [(8, 0)] (vVar 5)) (vC (.int 0)))) (vBl (vBin (gIs false) (vFldX [(8, 0)] (vVar 5)) (vC (.bl false))))))
  (vRet (vC (.bl false)))
  vNext))
  (vRet (vAndV (vBin (gIs false) (vEqA false 20 (fnS f_Word___eq__) (vVar 2) (vVar 3)) (vC (.bl false))) (vBin (gIs false) (vEqA true 20 (fnS f_Word___eq__) (vVar 2) (vVar 3)) (vC (.bl true)))))))))
theorem ob__law_refused_right : Ob1 t__law_refused_right 6 g__law_refused_right := by
  intro o ds Q E h
  cases o with
  | pen n =>
    obtain ⟨⟨hp, hn⟩, h⟩ := h
    split at hp
    · rename_i l
      obtain ⟨gl, hl⟩ := hp
      have w1 := iW gl (by omega)
      unfold t__law_refused_right
      simp only [okSet_s, okSet_0, okSet_i, okSet_o, okSet_j, notRef, on1, isiG, askB, onB, tyD, isi1, isiA, btSub, absG, strG, max2G, min2G, hasO, lendAll, lendP, frz, scD, ng, isNon, swapG, indexG, joinG, splitG, imAt, atL, fldD, fldX, putD, insD, fn_run, hideO, ends0, ends1, atH, st0, st1, gEq, gNe, gSub, gMul, gFdiv, gMod, gPow, gLt, gLe, gGt, gGe, ipG_add, ipG_sub, List.getElem?_cons_zero, List.getElem?_cons_succ, List.getElem?_nil, List.set_cons_zero, List.set_cons_succ, List.map_cons, List.map_nil, List.length_cons, List.length_nil, List.replicate_zero, List.replicate_succ, List.cons_append, List.nil_append, List.append_nil, List.append_assoc, List.head?_cons, List.lookup, List.contains_cons, List.contains_nil, List.all_cons, List.all_nil, List.any_cons, List.any_nil, Bool.true_and, Bool.and_true, Bool.false_and, Bool.and_false, Bool.or_true, Bool.true_or, Bool.or_false, Bool.false_or, Bool.not_true, Bool.not_false, Bool.and_self, decide_eq_true_eq, decide_true, decide_false, Bool.false_eq_true, if_true, if_false, ite_true, ite_false, reduceIte, reduceCtorEq, Bool.not_eq_true, Bool.not_eq_true', decide_eq_false_iff_not, not_true_eq_false, not_false_eq_true, true_and, and_true, false_and, and_false, Nat.add_zero, Nat.zero_add, Nat.reduceAdd, Nat.reduceSub, Nat.reduceLT, Nat.reduceLeDiff, Nat.sub_self, beq_iff_eq, BEq.rfl, beq_self_eq_true, anc, cflds, Option.map_some, Option.map_none, lendP_j, wipeP, elemsD, prePick, postPick, nd_run, pick_run, draw_run, wd, vVar_c, vC_c, vIm_c, vNil_c, vCons_c, vBin_c, vBl_c, vAnd_c, vOr_c, vNot_c, vAndV_c, vOrV_c, vNotV_c, vIfE_c, vLend_c, vLendT_c, vNext_c, vSeq_c, vDrop_c, vRet_c, vRetO_c, vIf_c, vSet_c, vSetO_c, vgName_c, vgNil_c, vgCons_c, vgTup_c, vAsg_c, vPar_c, vAug_c, vAug2_c, vFor_c, vCall_c, vCallR_c, vNeg_c, vChain_c, vPn_c, vPs_c, vSl_c, vRevS_c, vLst_c, vTup_c, vCB_c, vM0_c, vM1_c, vFld_c, vFldX_c, vFldO_c, vPutO_c, vApp_c, vPop_c, vExt_c, vPutI_c, vItL_c, vItT_c, vItS_c, vRng1_c, vRng2_c, vEnumL_c, vEnumS_c, vZip_c, vYes_c, vLc_c, vRaise_c, vMake_c, vMakeK_c, vCallN_c, vMeth_c, vMethN_c, vOwn2_c, vBlO_c, vOwnN_c, vOwn1_c, vLenO_c, vStrO_c, vItO_c, vFn_c, vRef_c, vMk_c, vMkK_c, vHeard_c, vEqA_c, vMulA_c, fzK_i, fzK_o, vFz_c, trK_b, trK_n, trK_i, trK_s, trK_l, trK_t, vTr_c, fn_r0, fn_r1, fn_r2, fn_r3, aliD_1, aliD_2, aliD_3, aliD_4, aliD_5, aliD_6, aliD_7, aliD_8, forL_0, forL_1, boolP_b, lenG_s, lenG_l, lenG_t, intG_i, intG_b, intG_s, listG_l, listG_t, tupG_l, tupG_t, gAdd_i, gAdd_s, gAdd_l, gAdd_t, gAdd_b, gInt_i, gInt0_i, gCmp_i, gCmp_s, gEq_ii, gEq_ss, gEq_bb, gEq_is, gEq_si, gEq_nn, gEq_ni, gEq_ns, gEq_nb, gEq_in, gEq_sn, gEq_bn, gEq_ll, gEq_tt, gIs_n, gIs_bb, gIs_ib, gIn_l, gIn_t, gIn_s, gIx_l, gIx_t, gIx_s, gSl_s, gSl_l, gSl_t, gMulT_c, opt_s, opt_n, go_ok, go_err, w1]
      refine ⟨⟨(fun z => nomatch z), by omega⟩, fun d n1 hd h1 => ?_⟩
      have hd : aliD d = true := by
        simp only [List.mem_cons, List.not_mem_nil, or_false] at hd
        rcases hd with rfl | rfl | rfl | rfl | rfl | rfl | rfl | rfl <;> rfl
      have mA := mulA (l := l) (n := (l.length : Nat)) hd
      have fA := fitA (l := l) (n := (l.length : Nat)) hd
      simp only [okSet_s, okSet_0, okSet_i, okSet_o, okSet_j, notRef, on1, isiG, askB, onB, tyD, isi1, isiA, btSub, absG, strG, max2G, min2G, hasO, lendAll, lendP, frz, scD, ng, isNon, swapG, indexG, joinG, splitG, imAt, atL, fldD, fldX, putD, insD, fn_run, hideO, ends0, ends1, atH, st0, st1, gEq, gNe, gSub, gMul, gFdiv, gMod, gPow, gLt, gLe, gGt, gGe, ipG_add, ipG_sub, List.getElem?_cons_zero, List.getElem?_cons_succ, List.getElem?_nil, List.set_cons_zero, List.set_cons_succ, List.map_cons, List.map_nil, List.length_cons, List.length_nil, List.replicate_zero, List.replicate_succ, List.cons_append, List.nil_append, List.append_nil, List.append_assoc, List.head?_cons, List.lookup, List.contains_cons, List.contains_nil, List.all_cons, List.all_nil, List.any_cons, List.any_nil, Bool.true_and, Bool.and_true, Bool.false_and, Bool.and_false, Bool.or_true, Bool.true_or, Bool.or_false, Bool.false_or, Bool.not_true, Bool.not_false, Bool.and_self, decide_eq_true_eq, decide_true, decide_false, Bool.false_eq_true, if_true, if_false, ite_true, ite_false, reduceIte, reduceCtorEq, Bool.not_eq_true, Bool.not_eq_true', decide_eq_false_iff_not, not_true_eq_false, not_false_eq_true, true_and, and_true, false_and, and_false, Nat.add_zero, Nat.zero_add, Nat.reduceAdd, Nat.reduceSub, Nat.reduceLT, Nat.reduceLeDiff, Nat.sub_self, beq_iff_eq, BEq.rfl, beq_self_eq_true, anc, cflds, Option.map_some, Option.map_none, lendP_j, wipeP, elemsD, prePick, postPick, nd_run, pick_run, draw_run, wd, vVar_c, vC_c, vIm_c, vNil_c, vCons_c, vBin_c, vBl_c, vAnd_c, vOr_c, vNot_c, vAndV_c, vOrV_c, vNotV_c, vIfE_c, vLend_c, vLendT_c, vNext_c, vSeq_c, vDrop_c, vRet_c, vRetO_c, vIf_c, vSet_c, vSetO_c, vgName_c, vgNil_c, vgCons_c, vgTup_c, vAsg_c, vPar_c, vAug_c, vAug2_c, vFor_c, vCall_c, vCallR_c, vNeg_c, vChain_c, vPn_c, vPs_c, vSl_c, vRevS_c, vLst_c, vTup_c, vCB_c, vM0_c, vM1_c, vFld_c, vFldX_c, vFldO_c, vPutO_c, vApp_c, vPop_c, vExt_c, vPutI_c, vItL_c, vItT_c, vItS_c, vRng1_c, vRng2_c, vEnumL_c, vEnumS_c, vZip_c, vYes_c, vLc_c, vRaise_c, vMake_c, vMakeK_c, vCallN_c, vMeth_c, vMethN_c, vOwn2_c, vBlO_c, vOwnN_c, vOwn1_c, vLenO_c, vStrO_c, vItO_c, vFn_c, vRef_c, vMk_c, vMkK_c, vHeard_c, vEqA_c, vMulA_c, fzK_i, fzK_o, vFz_c, trK_b, trK_n, trK_i, trK_s, trK_l, trK_t, vTr_c, fn_r0, fn_r1, fn_r2, fn_r3, aliD_1, aliD_2, aliD_3, aliD_4, aliD_5, aliD_6, aliD_7, aliD_8, forL_0, forL_1, boolP_b, lenG_s, lenG_l, lenG_t, intG_i, intG_b, intG_s, listG_l, listG_t, tupG_l, tupG_t, gAdd_i, gAdd_s, gAdd_l, gAdd_t, gAdd_b, gInt_i, gInt0_i, gCmp_i, gCmp_s, gEq_ii, gEq_ss, gEq_bb, gEq_is, gEq_si, gEq_nn, gEq_ni, gEq_ns, gEq_nb, gEq_in, gEq_sn, gEq_bn, gEq_ll, gEq_tt, gIs_n, gIs_bb, gIs_ib, gIn_l, gIn_t, gIn_s, gIx_l, gIx_t, gIx_s, gSl_s, gSl_l, gSl_t, gMulT_c, opt_s, opt_n, go_ok, go_err, hd, mA, fA]
      exact h _ _ rfl (by omega)
    · exact hp.elim
  | _ => exact h.elim
theorem rep_hd {u : List Nat} : ∀ n, (rep (n + 1) u).head? = u.head?
  | 0 => by simp [rep]
  | n + 1 => by
    have ih := rep_hd (u := u) n
    show (rep (n + 1) u ++ u).head? = _
    cases h : rep (n + 1) u with
    | nil => rw [h] at ih; simpa using ih
    | cons a r => rw [h] at ih; simpa using ih
theorem rep_lt {u : List Nat} : ∀ n, (rep (n + 1) u).getLast? = u.getLast? := fun n => by
  show (rep n u ++ u).getLast? = _
  cases u with
  | nil =>
    have : ∀ n, rep n ([] : List Nat) = [] := fun n => by
      induction n with
      | zero => rfl
      | succ n ih => show rep n [] ++ [] = []; rw [ih]; rfl
    rw [this]; rfl
  | cons a r => rw [List.getLast?_append]; simp [List.getLast?_cons]
theorem back_last (l : List Nat) : (back l).getLast? = l.head?.map und := by unfold back; rw [List.getLast?_reverse, List.head?_map]
theorem back_head (l : List Nat) : (back l).head? = l.getLast?.map und := by unfold back; rw [List.head?_reverse, List.getLast?_map]
structure Units (u v : List Nat) : Prop where
  lu : (u.length = 2 ∧ v.length = 2) ∨ (u.length = 1 ∧ v.length = 1)
  gu : ∀ n, Good (rep n u)
  gv : ∀ n, Good (rep n v)
  h1 : ∀ a b, u.head? = some a → v.head? = some b → a ≠ b ∧ isL a = true ∧ isL b = true
  h2 : ∀ a b, u.getLast? = some a → v.head? = some b → a ≠ und b
theorem units_by {u v : List Nat} (h : (u.length = 2 ∧ v.length = 2) ∨ (u.length = 1 ∧ v.length = 1)) (h1 : unitB u = true) (h2 : unitB v = true) (h3 : (match u.head?, v.head? with
    | some a, some b => decide (a ≠ b) && isL a && isL b
    | _, _ => true) = true) (h4 : (match u.getLast?, v.head? with
    | some a, some b => decide (a ≠ und b)
    | _, _ => true) = true) : Units u v := by
  refine ⟨h, (unitB_ok h1).2.2, (unitB_ok h2).2.2, fun a b e1 e2 => ?_, fun a b e1 e2 => ?_⟩
  · rw [e1, e2] at h3
    simp at h3
    exact ⟨h3.1.1, h3.1.2, h3.2⟩
  · rw [e1, e2] at h4
    simpa using h4
def g__law_long_right : RSp := ndR 5 (fun ds => ds = []) (fun _ d => d = .bl true)
theorem len__law_long_right : ∀ o ds Q E, g__law_long_right.run o ds Q E → ds.length + 1 = 1 := len_nd fun ds h => by rw [h]; rfl
def t__law_long_right : VS := (vSeq (vPar 1 2 (vCons (vFz (vRef 0 g__law_pick (vCons (vFz (vLst (vCons (vFz (vLst (vCons (vC (.str [65, 66])) (vCons (vC (.str [67, 68])) vNil)))) (vCons (vFz (vLst (vCons (vC (.str [100, 65])) (vCons (vC (.str [99, 98])) vNil)))) (vCons (vFz (vLst (vCons (vC (.str [97])) (vCons (vC (.str [66])) vNil)))) vNil))))) vNil))) (vCons (vBin gAdd (vC (.int 1001)) (vFz (vRef 0 g__law_draw (vCons (vC (.int 900)) vNil)))) vNil)))
  (vSeq (vPar 3 4 (vCons (vBin gMulT (vBin gIx (vVar 1) (vC (.int 0))) (vVar 2)) (vCons (vBin gMulT (vBin gIx (vVar 1) (vC (.int 1))) (vBin gSub (vBin gAdd (vBin gSub (vBin gFdiv (vC (.int 4000)) (vFz (vCB (on1 lenG) (vCons (vBin gIx (vVar 1) (vC (.int 1))) vNil)))) (vVar 2)) (vFz (vRef 0 g__law_draw (vCons (vC (.int 3)) vNil)))) (vC (.int 1)))) vNil)))
  (vSeq (vSet 5 (vSl (vVar 4) vPn (vPs (vBin gSub (vFz (vCB (on1 lenG) (vCons (vVar 4) vNil))) (vC (.int 4))))))
  (vSeq (vAsg (vTup (vCons (vFz (vMk i_Word [] (vCons (vVar 3) vNil))) (vCons (vFz (vMk i_Word [] (vCons (vBin gAdd (vFz (vFn f__law_back (vCons (vVar 3) vNil))) (vVar 5)) vNil))) vNil))) (vgTup 2 (vgCons (vgName 6) (vgCons (vgName 7) vgNil))))
  (vSeq (vIf (vOr (vBl (vBin gNe (vFld [(20, 0)] (vFz (vOwn2 20 (fnS f_Word___mul__) (vVar 6) (vVar 7)))) (vVar 5))) (vBl (vBin gNe (vFld [(20, 0)] (vFz (vOwn2 20 (fnS f_Word___mul__) (vFz (vOwn1 20 (fnS f_Word___invert__) (vVar 7))) (vFz (vOwn1 20 (fnS f_Word___invert__) (vVar 6)))))) (vFz (vFn f__law_back (vCons (vVar 5) vNil))))))
  (vRet (vC (.bl false)))
  vNext)
  (vSeq (vSet 8 (vFz (vMk i_Word [] (vCons (vVar 4) vNil))))
  (vSeq (vIf (vBl (vBin gLe (vBin gAdd (vFz (vCB (on1 lenG) (vCons (vVar 3) vNil))) (vFz (vCB (on1 lenG) (vCons (vVar 4) vNil)))) (vC (.int 4000))))
  (vRet (vBin gEq (vFld [(20, 0)] (vFz (vOwn2 20 (fnS f_Word___mul__) (vVar 6) (vVar 8)))) (vBin gAdd (vVar 3) (vVar 4))))
  vNext)
  (vSeq (vSet 9 (vHeard [1, 8, 11, 12] (vFz (vOwn2 20 (fnS f_Word___mul__) (vVar 6) (vVar 8)))))
  (vRet (vAndV (vFz (vCB (isiG [20] [1, 8, 11, 12] [20, 11, 8]) (vCons (vVar 9) (vCons (vC (.cls 11)) vNil)))) (vAndV (vBin gEq (vFldX [(11, 0)] (vVar 9)) (vC (.str [108, 101, 116, 116, 101, 114, 115]))) (vBin gEq (vFldX [(11, 1)] (vVar 9)) (vC (.int 4000))))))))))))))
theorem ob__law_long_right : Ob1 t__law_long_right 10 g__law_long_right := by
  intro o ds Q E h
  cases o with
  | pen n =>
    obtain ⟨⟨rfl, hn⟩, h⟩ := h
    unfold t__law_long_right
    simp only [okSet_s, okSet_0, okSet_i, okSet_o, okSet_j, notRef, on1, isiG, askB, onB, tyD, isi1, isiA, btSub, absG, strG, max2G, min2G, hasO, lendAll, lendP, frz, scD, ng, isNon, swapG, indexG, joinG, splitG, imAt, atL, fldD, fldX, putD, insD, fn_run, hideO, ends0, ends1, atH, st0, st1, gEq, gNe, gSub, gMul, gFdiv, gMod, gPow, gLt, gLe, gGt, gGe, ipG_add, ipG_sub, List.getElem?_cons_zero, List.getElem?_cons_succ, List.getElem?_nil, List.set_cons_zero, List.set_cons_succ, List.map_cons, List.map_nil, List.length_cons, List.length_nil, List.replicate_zero, List.replicate_succ, List.cons_append, List.nil_append, List.append_nil, List.append_assoc, List.head?_cons, List.lookup, List.contains_cons, List.contains_nil, List.all_cons, List.all_nil, List.any_cons, List.any_nil, Bool.true_and, Bool.and_true, Bool.false_and, Bool.and_false, Bool.or_true, Bool.true_or, Bool.or_false, Bool.false_or, Bool.not_true, Bool.not_false, Bool.and_self, decide_eq_true_eq, decide_true, decide_false, Bool.false_eq_true, if_true, if_false, ite_true, ite_false, reduceIte, reduceCtorEq, Bool.not_eq_true, Bool.not_eq_true', decide_eq_false_iff_not, not_true_eq_false, not_false_eq_true, true_and, and_true, false_and, and_false, Nat.add_zero, Nat.zero_add, Nat.reduceAdd, Nat.reduceSub, Nat.reduceLT, Nat.reduceLeDiff, Nat.sub_self, beq_iff_eq, BEq.rfl, beq_self_eq_true, anc, cflds, Option.map_some, Option.map_none, lendP_j, wipeP, elemsD, prePick, postPick, nd_run, pick_run, draw_run, wd, vVar_c, vC_c, vIm_c, vNil_c, vCons_c, vBin_c, vBl_c, vAnd_c, vOr_c, vNot_c, vAndV_c, vOrV_c, vNotV_c, vIfE_c, vLend_c, vLendT_c, vNext_c, vSeq_c, vDrop_c, vRet_c, vRetO_c, vIf_c, vSet_c, vSetO_c, vgName_c, vgNil_c, vgCons_c, vgTup_c, vAsg_c, vPar_c, vAug_c, vAug2_c, vFor_c, vCall_c, vCallR_c, vNeg_c, vChain_c, vPn_c, vPs_c, vSl_c, vRevS_c, vLst_c, vTup_c, vCB_c, vM0_c, vM1_c, vFld_c, vFldX_c, vFldO_c, vPutO_c, vApp_c, vPop_c, vExt_c, vPutI_c, vItL_c, vItT_c, vItS_c, vRng1_c, vRng2_c, vEnumL_c, vEnumS_c, vZip_c, vYes_c, vLc_c, vRaise_c, vMake_c, vMakeK_c, vCallN_c, vMeth_c, vMethN_c, vOwn2_c, vBlO_c, vOwnN_c, vOwn1_c, vLenO_c, vStrO_c, vItO_c, vFn_c, vRef_c, vMk_c, vMkK_c, vHeard_c, vEqA_c, vMulA_c, fzK_i, fzK_o, vFz_c, trK_b, trK_n, trK_i, trK_s, trK_l, trK_t, vTr_c, fn_r0, fn_r1, fn_r2, fn_r3, aliD_1, aliD_2, aliD_3, aliD_4, aliD_5, aliD_6, aliD_7, aliD_8, forL_0, forL_1, boolP_b, lenG_s, lenG_l, lenG_t, intG_i, intG_b, intG_s, listG_l, listG_t, tupG_l, tupG_t, gAdd_i, gAdd_s, gAdd_l, gAdd_t, gAdd_b, gInt_i, gInt0_i, gCmp_i, gCmp_s, gEq_ii, gEq_ss, gEq_bb, gEq_is, gEq_si, gEq_nn, gEq_ni, gEq_ns, gEq_nb, gEq_in, gEq_sn, gEq_bn, gEq_ll, gEq_tt, gIs_n, gIs_bb, gIs_ib, gIn_l, gIn_t, gIn_s, gIx_l, gIx_t, gIx_s, gSl_s, gSl_l, gSl_t, gMulT_c, opt_s, opt_n, go_ok, go_err]
    refine ⟨⟨(fun z => nomatch z), by omega⟩, fun d n1 hd h1 => ⟨⟨by decide, by decide, by omega⟩, fun r r0 r1 => ?_⟩⟩
    have hu : ∃ u v, d = .lst [.str u, .str v] ∧ Units u v := by
      simp only [List.mem_cons, List.not_mem_nil, or_false] at hd
      rcases hd with rfl | rfl | rfl
      · exact ⟨_, _, rfl, units_by (.inl ⟨rfl, rfl⟩) (by decide +kernel) (by decide +kernel) (by decide +kernel) (by decide +kernel)⟩
      · exact ⟨_, _, rfl, units_by (.inl ⟨rfl, rfl⟩) (by decide +kernel) (by decide +kernel) (by decide +kernel) (by decide +kernel)⟩
      · exact ⟨_, _, rfl, units_by (.inr ⟨rfl, rfl⟩) (by decide +kernel) (by decide +kernel) (by decide +kernel) (by decide +kernel)⟩
    obtain ⟨u, v, rfl, U⟩ := hu
    have hu0 : u ≠ [] := by rcases U.lu with ⟨e, _⟩ | ⟨e, _⟩ <;> (intro z; rw [z] at e; cases e)
    have hv0 : v ≠ [] := by rcases U.lu with ⟨_, e⟩ | ⟨_, e⟩ <;> (intro z; rw [z] at e; cases e)
    have hul : u.length ≤ 16 := by rcases U.lu with ⟨e, _⟩ | ⟨e, _⟩ <;> omega
    have hvl : v.length ≤ 16 := by rcases U.lu with ⟨_, e⟩ | ⟨_, e⟩ <;> omega
    simp only [okSet_s, okSet_0, okSet_i, okSet_o, okSet_j, notRef, on1, isiG, askB, onB, tyD, isi1, isiA, btSub, absG, strG, max2G, min2G, hasO, lendAll, lendP, frz, scD, ng, isNon, swapG, indexG, joinG, splitG, imAt, atL, fldD, fldX, putD, insD, fn_run, hideO, ends0, ends1, atH, st0, st1, gEq, gNe, gSub, gMul, gFdiv, gMod, gPow, gLt, gLe, gGt, gGe, ipG_add, ipG_sub, List.getElem?_cons_zero, List.getElem?_cons_succ, List.getElem?_nil, List.set_cons_zero, List.set_cons_succ, List.map_cons, List.map_nil, List.length_cons, List.length_nil, List.replicate_zero, List.replicate_succ, List.cons_append, List.nil_append, List.append_nil, List.append_assoc, List.head?_cons, List.lookup, List.contains_cons, List.contains_nil, List.all_cons, List.all_nil, List.any_cons, List.any_nil, Bool.true_and, Bool.and_true, Bool.false_and, Bool.and_false, Bool.or_true, Bool.true_or, Bool.or_false, Bool.false_or, Bool.not_true, Bool.not_false, Bool.and_self, decide_eq_true_eq, decide_true, decide_false, Bool.false_eq_true, if_true, if_false, ite_true, ite_false, reduceIte, reduceCtorEq, Bool.not_eq_true, Bool.not_eq_true', decide_eq_false_iff_not, not_true_eq_false, not_false_eq_true, true_and, and_true, false_and, and_false, Nat.add_zero, Nat.zero_add, Nat.reduceAdd, Nat.reduceSub, Nat.reduceLT, Nat.reduceLeDiff, Nat.sub_self, beq_iff_eq, BEq.rfl, beq_self_eq_true, anc, cflds, Option.map_some, Option.map_none, lendP_j, wipeP, elemsD, prePick, postPick, nd_run, pick_run, draw_run, wd, vVar_c, vC_c, vIm_c, vNil_c, vCons_c, vBin_c, vBl_c, vAnd_c, vOr_c, vNot_c, vAndV_c, vOrV_c, vNotV_c, vIfE_c, vLend_c, vLendT_c, vNext_c, vSeq_c, vDrop_c, vRet_c, vRetO_c, vIf_c, vSet_c, vSetO_c, vgName_c, vgNil_c, vgCons_c, vgTup_c, vAsg_c, vPar_c, vAug_c, vAug2_c, vFor_c, vCall_c, vCallR_c, vNeg_c, vChain_c, vPn_c, vPs_c, vSl_c, vRevS_c, vLst_c, vTup_c, vCB_c, vM0_c, vM1_c, vFld_c, vFldX_c, vFldO_c, vPutO_c, vApp_c, vPop_c, vExt_c, vPutI_c, vItL_c, vItT_c, vItS_c, vRng1_c, vRng2_c, vEnumL_c, vEnumS_c, vZip_c, vYes_c, vLc_c, vRaise_c, vMake_c, vMakeK_c, vCallN_c, vMeth_c, vMethN_c, vOwn2_c, vBlO_c, vOwnN_c, vOwn1_c, vLenO_c, vStrO_c, vItO_c, vFn_c, vRef_c, vMk_c, vMkK_c, vHeard_c, vEqA_c, vMulA_c, fzK_i, fzK_o, vFz_c, trK_b, trK_n, trK_i, trK_s, trK_l, trK_t, vTr_c, fn_r0, fn_r1, fn_r2, fn_r3, aliD_1, aliD_2, aliD_3, aliD_4, aliD_5, aliD_6, aliD_7, aliD_8, forL_0, forL_1, boolP_b, lenG_s, lenG_l, lenG_t, intG_i, intG_b, intG_s, listG_l, listG_t, tupG_l, tupG_t, gAdd_i, gAdd_s, gAdd_l, gAdd_t, gAdd_b, gInt_i, gInt0_i, gCmp_i, gCmp_s, gEq_ii, gEq_ss, gEq_bb, gEq_is, gEq_si, gEq_nn, gEq_ni, gEq_ns, gEq_nb, gEq_in, gEq_sn, gEq_bn, gEq_ll, gEq_tt, gIs_n, gIs_bb, gIs_ib, gIn_l, gIn_t, gIn_s, gIx_l, gIx_t, gIx_s, gSl_s, gSl_l, gSl_t, gMulT_c, opt_s, opt_n, go_ok, go_err, atI_z, show atI [D.str u, D.str v] 1 = some (.str v) from rfl]
    refine ⟨by omega, hu0, by omega, hul, by omega, ?_, ⟨by decide, by decide, by omega⟩, fun e e0 e1 => ?_⟩
    · rcases U.lu with ⟨_, q⟩ | ⟨_, q⟩ <;> rw [q] <;> exact ⟨by decide, by decide⟩
    have hc : ∃ A B : Nat, (1001 + r).toNat = A + 1 ∧ (4000 / (v.length : Int) - (1001 + r) + e - 1).toNat = B + 1 ∧ 2 ≤ 4000 / (v.length : Int) - (1001 + r) + e - 1 ∧ 4000 / (v.length : Int) - (1001 + r) + e - 1 ≤ 1000000 ∧ (A + 1) * u.length ≤ 3800 ∧ 90 ≤ (B + 1) * v.length ∧ (B + 1) * v.length ≤ 3000 ∧ (A + 1) * u.length + (B + 1) * v.length ≤ 4002 := by
      rcases U.lu with ⟨p, q⟩ | ⟨p, q⟩
      · have hq : (4000 : Int) / (v.length : Int) = 2000 := by rw [q]; rfl
        rw [hq, p, q]
        exact ⟨(1000 + r).toNat, (2000 - (1001 + r) + e - 2).toNat, by omega, by omega, by omega, by omega, by omega, by omega, by omega, by omega⟩
      · have hq : (4000 : Int) / (v.length : Int) = 4000 := by rw [q]; rfl
        rw [hq, p, q]
        exact ⟨(1000 + r).toNat, (4000 - (1001 + r) + e - 2).toNat, by omega, by omega, by omega, by omega, by omega, by omega, by omega, by omega⟩
    obtain ⟨A, B, hA, hB, c1, c2, c3, c4, c5, c6⟩ := hc
    rw [hA, hB]
    rw [← rep_length] at c3 c4 c5 c6
    rw [← rep_length] at c6
    have go1 := U.gu (A + 1)
    have goth := U.gv (B + 1)
    have hh1 : ∀ a b, (rep (A + 1) u).head? = some a → (rep (B + 1) v).head? = some b → a ≠ b ∧ isL a = true ∧ isL b = true := fun a b => by
      rw [rep_hd, rep_hd]
      exact U.h1 a b
    have hh2 : ∀ a b, (rep (A + 1) u).getLast? = some a → (rep (B + 1) v).head? = some b → a ≠ und b := fun a b => by
      rw [rep_lt, rep_hd]
      exact U.h2 a b
    obtain ⟨one, hone⟩ : ∃ x, x = rep (A + 1) u := ⟨_, rfl⟩
    obtain ⟨oth, hoth⟩ : ∃ x, x = rep (B + 1) v := ⟨_, rfl⟩
    rw [← hone] at c3 c6 go1 hh1 hh2 ⊢
    rw [← hoth] at c4 c5 c6 goth hh1 hh2 ⊢
    rw [cut_to (by omega)]
    have hsl : (oth.take ((oth.length : Int) - 4).toNat).length = oth.length - 4 := by rw [List.length_take]; omega
    have hsh : (oth.take ((oth.length : Int) - 4).toNat).head? = oth.head? := by
      obtain ⟨k, hk⟩ : ∃ k, ((oth.length : Int) - 4).toNat = k + 1 := ⟨oth.length - 5, by omega⟩
      rw [hk]
      cases oth <;> rfl
    have gsh := good_take goth ((oth.length : Int) - 4).toNat
    obtain ⟨sh, hs⟩ : ∃ x, x = oth.take ((oth.length : Int) - 4).toNat := ⟨_, rfl⟩
    rw [← hs] at hsl hsh gsh ⊢
    have a1 := good_allL go1
    have ash := good_allL gsh
    have ab := back_L a1
    have g3 : Good (back one ++ sh) := good_join (good_back go1) gsh fun a b ha hb q => by
      rw [back_last] at ha
      cases hx : one.head? with
      | none => rw [hx] at ha; cases ha
      | some x =>
        rw [hx] at ha
        cases ha
        rw [hsh] at hb
        obtain ⟨q1, q2, q3⟩ := hh1 x b hx hb
        have := congrArg und q
        rw [und_und q2, und_und q3] at this
        exact q1 this
    have g4 : Good (one ++ oth) := good_join go1 goth hh2
    have l1 : (back one).length = one.length := back_len one
    have l3 : (back one ++ sh).length ≤ 4000 := by rw [List.length_append]; omega
    have l4 : (back (back one ++ sh)).length ≤ 4000 := by rw [back_len]; exact l3
    have e1 : red (one ++ (back one ++ sh)) = sh := by
      rw [← List.append_assoc, ← red_left (allL_app a1 ab), red_inv a1, List.nil_append, red_of_good gsh]
    have e2 : red (back (back one ++ sh) ++ back one) = back sh := by
      rw [back_app, back_back a1, List.append_assoc, ← red_right (back_L ash) (allL_app a1 ab), red_inv a1, List.append_nil, red_of_good (good_back gsh)]
    have w1 := iW go1 (by omega)
    have bk := fBack go1 (by omega)
    have w2 := iW g3 l3
    have m1 := mulW go1 (by omega) g3 l3 (by rw [e1]; omega)
    have i1 := invW g3 l3
    have i2 := invW go1 (by omega)
    have m2 := mulW (good_back g3) l4 (good_back go1) (by omega) (by rw [e2, back_len]; omega)
    have fb := fBack gsh (by omega)
    have w3 := iW goth (by omega)
    rw [e1] at m1
    rw [e2] at m2
    simp only [okSet_s, okSet_0, okSet_i, okSet_o, okSet_j, notRef, on1, isiG, askB, onB, tyD, isi1, isiA, btSub, absG, strG, max2G, min2G, hasO, lendAll, lendP, frz, scD, ng, isNon, swapG, indexG, joinG, splitG, imAt, atL, fldD, fldX, putD, insD, fn_run, hideO, ends0, ends1, atH, st0, st1, gEq, gNe, gSub, gMul, gFdiv, gMod, gPow, gLt, gLe, gGt, gGe, ipG_add, ipG_sub, List.getElem?_cons_zero, List.getElem?_cons_succ, List.getElem?_nil, List.set_cons_zero, List.set_cons_succ, List.map_cons, List.map_nil, List.length_cons, List.length_nil, List.replicate_zero, List.replicate_succ, List.cons_append, List.nil_append, List.append_nil, List.append_assoc, List.head?_cons, List.lookup, List.contains_cons, List.contains_nil, List.all_cons, List.all_nil, List.any_cons, List.any_nil, Bool.true_and, Bool.and_true, Bool.false_and, Bool.and_false, Bool.or_true, Bool.true_or, Bool.or_false, Bool.false_or, Bool.not_true, Bool.not_false, Bool.and_self, decide_eq_true_eq, decide_true, decide_false, Bool.false_eq_true, if_true, if_false, ite_true, ite_false, reduceIte, reduceCtorEq, Bool.not_eq_true, Bool.not_eq_true', decide_eq_false_iff_not, not_true_eq_false, not_false_eq_true, true_and, and_true, false_and, and_false, Nat.add_zero, Nat.zero_add, Nat.reduceAdd, Nat.reduceSub, Nat.reduceLT, Nat.reduceLeDiff, Nat.sub_self, beq_iff_eq, BEq.rfl, beq_self_eq_true, anc, cflds, Option.map_some, Option.map_none, lendP_j, wipeP, elemsD, prePick, postPick, nd_run, pick_run, draw_run, wd, vVar_c, vC_c, vIm_c, vNil_c, vCons_c, vBin_c, vBl_c, vAnd_c, vOr_c, vNot_c, vAndV_c, vOrV_c, vNotV_c, vIfE_c, vLend_c, vLendT_c, vNext_c, vSeq_c, vDrop_c, vRet_c, vRetO_c, vIf_c, vSet_c, vSetO_c, vgName_c, vgNil_c, vgCons_c, vgTup_c, vAsg_c, vPar_c, vAug_c, vAug2_c, vFor_c, vCall_c, vCallR_c, vNeg_c, vChain_c, vPn_c, vPs_c, vSl_c, vRevS_c, vLst_c, vTup_c, vCB_c, vM0_c, vM1_c, vFld_c, vFldX_c, vFldO_c, vPutO_c, vApp_c, vPop_c, vExt_c, vPutI_c, vItL_c, vItT_c, vItS_c, vRng1_c, vRng2_c, vEnumL_c, vEnumS_c, vZip_c, vYes_c, vLc_c, vRaise_c, vMake_c, vMakeK_c, vCallN_c, vMeth_c, vMethN_c, vOwn2_c, vBlO_c, vOwnN_c, vOwn1_c, vLenO_c, vStrO_c, vItO_c, vFn_c, vRef_c, vMk_c, vMkK_c, vHeard_c, vEqA_c, vMulA_c, fzK_i, fzK_o, vFz_c, trK_b, trK_n, trK_i, trK_s, trK_l, trK_t, vTr_c, fn_r0, fn_r1, fn_r2, fn_r3, aliD_1, aliD_2, aliD_3, aliD_4, aliD_5, aliD_6, aliD_7, aliD_8, forL_0, forL_1, boolP_b, lenG_s, lenG_l, lenG_t, intG_i, intG_b, intG_s, listG_l, listG_t, tupG_l, tupG_t, gAdd_i, gAdd_s, gAdd_l, gAdd_t, gAdd_b, gInt_i, gInt0_i, gCmp_i, gCmp_s, gEq_ii, gEq_ss, gEq_bb, gEq_is, gEq_si, gEq_nn, gEq_ni, gEq_ns, gEq_nb, gEq_in, gEq_sn, gEq_bn, gEq_ll, gEq_tt, gIs_n, gIs_bb, gIs_ib, gIn_l, gIn_t, gIn_s, gIx_l, gIx_t, gIx_s, gSl_s, gSl_l, gSl_t, gMulT_c, opt_s, opt_n, go_ok, go_err, w1, bk, w2, m1, i1, i2, m2, fb, w3]
    have fin := h (.bl true) (n1 + 1 + 1) rfl (by omega)
    by_cases hle : one.length + oth.length ≤ 4000
    · have m3 := mulW go1 (by omega) goth (by omega) (by rw [red_of_good g4, List.length_append]; exact hle)
      rw [red_of_good g4] at m3
      simp only [okSet_s, okSet_0, okSet_i, okSet_o, okSet_j, notRef, on1, isiG, askB, onB, tyD, isi1, isiA, btSub, absG, strG, max2G, min2G, hasO, lendAll, lendP, frz, scD, ng, isNon, swapG, indexG, joinG, splitG, imAt, atL, fldD, fldX, putD, insD, fn_run, hideO, ends0, ends1, atH, st0, st1, gEq, gNe, gSub, gMul, gFdiv, gMod, gPow, gLt, gLe, gGt, gGe, ipG_add, ipG_sub, List.getElem?_cons_zero, List.getElem?_cons_succ, List.getElem?_nil, List.set_cons_zero, List.set_cons_succ, List.map_cons, List.map_nil, List.length_cons, List.length_nil, List.replicate_zero, List.replicate_succ, List.cons_append, List.nil_append, List.append_nil, List.append_assoc, List.head?_cons, List.lookup, List.contains_cons, List.contains_nil, List.all_cons, List.all_nil, List.any_cons, List.any_nil, Bool.true_and, Bool.and_true, Bool.false_and, Bool.and_false, Bool.or_true, Bool.true_or, Bool.or_false, Bool.false_or, Bool.not_true, Bool.not_false, Bool.and_self, decide_eq_true_eq, decide_true, decide_false, Bool.false_eq_true, if_true, if_false, ite_true, ite_false, reduceIte, reduceCtorEq, Bool.not_eq_true, Bool.not_eq_true', decide_eq_false_iff_not, not_true_eq_false, not_false_eq_true, true_and, and_true, false_and, and_false, Nat.add_zero, Nat.zero_add, Nat.reduceAdd, Nat.reduceSub, Nat.reduceLT, Nat.reduceLeDiff, Nat.sub_self, beq_iff_eq, BEq.rfl, beq_self_eq_true, anc, cflds, Option.map_some, Option.map_none, lendP_j, wipeP, elemsD, prePick, postPick, nd_run, pick_run, draw_run, wd, vVar_c, vC_c, vIm_c, vNil_c, vCons_c, vBin_c, vBl_c, vAnd_c, vOr_c, vNot_c, vAndV_c, vOrV_c, vNotV_c, vIfE_c, vLend_c, vLendT_c, vNext_c, vSeq_c, vDrop_c, vRet_c, vRetO_c, vIf_c, vSet_c, vSetO_c, vgName_c, vgNil_c, vgCons_c, vgTup_c, vAsg_c, vPar_c, vAug_c, vAug2_c, vFor_c, vCall_c, vCallR_c, vNeg_c, vChain_c, vPn_c, vPs_c, vSl_c, vRevS_c, vLst_c, vTup_c, vCB_c, vM0_c, vM1_c, vFld_c, vFldX_c, vFldO_c, vPutO_c, vApp_c, vPop_c, vExt_c, vPutI_c, vItL_c, vItT_c, vItS_c, vRng1_c, vRng2_c, vEnumL_c, vEnumS_c, vZip_c, vYes_c, vLc_c, vRaise_c, vMake_c, vMakeK_c, vCallN_c, vMeth_c, vMethN_c, vOwn2_c, vBlO_c, vOwnN_c, vOwn1_c, vLenO_c, vStrO_c, vItO_c, vFn_c, vRef_c, vMk_c, vMkK_c, vHeard_c, vEqA_c, vMulA_c, fzK_i, fzK_o, vFz_c, trK_b, trK_n, trK_i, trK_s, trK_l, trK_t, vTr_c, fn_r0, fn_r1, fn_r2, fn_r3, aliD_1, aliD_2, aliD_3, aliD_4, aliD_5, aliD_6, aliD_7, aliD_8, forL_0, forL_1, boolP_b, lenG_s, lenG_l, lenG_t, intG_i, intG_b, intG_s, listG_l, listG_t, tupG_l, tupG_t, gAdd_i, gAdd_s, gAdd_l, gAdd_t, gAdd_b, gInt_i, gInt0_i, gCmp_i, gCmp_s, gEq_ii, gEq_ss, gEq_bb, gEq_is, gEq_si, gEq_nn, gEq_ni, gEq_ns, gEq_nb, gEq_in, gEq_sn, gEq_bn, gEq_ll, gEq_tt, gIs_n, gIs_bb, gIs_ib, gIn_l, gIn_t, gIn_s, gIx_l, gIx_t, gIx_s, gSl_s, gSl_l, gSl_t, gMulT_c, opt_s, opt_n, go_ok, go_err, m3]
      refine ⟨c1, hv0, c2, hvl, by omega, by omega, by omega, by omega, by omega, ?_⟩
      rw [if_pos (by omega)]
      exact ⟨by omega, fin⟩
    · have m3 := mulX go1 (by omega) goth (by omega) (by rw [red_of_good g4, List.length_append]; exact hle)
      simp only [okSet_s, okSet_0, okSet_i, okSet_o, okSet_j, notRef, on1, isiG, askB, onB, tyD, isi1, isiA, btSub, absG, strG, max2G, min2G, hasO, lendAll, lendP, frz, scD, ng, isNon, swapG, indexG, joinG, splitG, imAt, atL, fldD, fldX, putD, insD, fn_run, hideO, ends0, ends1, atH, st0, st1, gEq, gNe, gSub, gMul, gFdiv, gMod, gPow, gLt, gLe, gGt, gGe, ipG_add, ipG_sub, List.getElem?_cons_zero, List.getElem?_cons_succ, List.getElem?_nil, List.set_cons_zero, List.set_cons_succ, List.map_cons, List.map_nil, List.length_cons, List.length_nil, List.replicate_zero, List.replicate_succ, List.cons_append, List.nil_append, List.append_nil, List.append_assoc, List.head?_cons, List.lookup, List.contains_cons, List.contains_nil, List.all_cons, List.all_nil, List.any_cons, List.any_nil, Bool.true_and, Bool.and_true, Bool.false_and, Bool.and_false, Bool.or_true, Bool.true_or, Bool.or_false, Bool.false_or, Bool.not_true, Bool.not_false, Bool.and_self, decide_eq_true_eq, decide_true, decide_false, Bool.false_eq_true, if_true, if_false, ite_true, ite_false, reduceIte, reduceCtorEq, Bool.not_eq_true, Bool.not_eq_true', decide_eq_false_iff_not, not_true_eq_false, not_false_eq_true, true_and, and_true, false_and, and_false, Nat.add_zero, Nat.zero_add, Nat.reduceAdd, Nat.reduceSub, Nat.reduceLT, Nat.reduceLeDiff, Nat.sub_self, beq_iff_eq, BEq.rfl, beq_self_eq_true, anc, cflds, Option.map_some, Option.map_none, lendP_j, wipeP, elemsD, prePick, postPick, nd_run, pick_run, draw_run, wd, vVar_c, vC_c, vIm_c, vNil_c, vCons_c, vBin_c, vBl_c, vAnd_c, vOr_c, vNot_c, vAndV_c, vOrV_c, vNotV_c, vIfE_c, vLend_c, vLendT_c, vNext_c, vSeq_c, vDrop_c, vRet_c, vRetO_c, vIf_c, vSet_c, vSetO_c, vgName_c, vgNil_c, vgCons_c, vgTup_c, vAsg_c, vPar_c, vAug_c, vAug2_c, vFor_c, vCall_c, vCallR_c, vNeg_c, vChain_c, vPn_c, vPs_c, vSl_c, vRevS_c, vLst_c, vTup_c, vCB_c, vM0_c, vM1_c, vFld_c, vFldX_c, vFldO_c, vPutO_c, vApp_c, vPop_c, vExt_c, vPutI_c, vItL_c, vItT_c, vItS_c, vRng1_c, vRng2_c, vEnumL_c, vEnumS_c, vZip_c, vYes_c, vLc_c, vRaise_c, vMake_c, vMakeK_c, vCallN_c, vMeth_c, vMethN_c, vOwn2_c, vBlO_c, vOwnN_c, vOwn1_c, vLenO_c, vStrO_c, vItO_c, vFn_c, vRef_c, vMk_c, vMkK_c, vHeard_c, vEqA_c, vMulA_c, fzK_i, fzK_o, vFz_c, trK_b, trK_n, trK_i, trK_s, trK_l, trK_t, vTr_c, fn_r0, fn_r1, fn_r2, fn_r3, aliD_1, aliD_2, aliD_3, aliD_4, aliD_5, aliD_6, aliD_7, aliD_8, forL_0, forL_1, boolP_b, lenG_s, lenG_l, lenG_t, intG_i, intG_b, intG_s, listG_l, listG_t, tupG_l, tupG_t, gAdd_i, gAdd_s, gAdd_l, gAdd_t, gAdd_b, gInt_i, gInt0_i, gCmp_i, gCmp_s, gEq_ii, gEq_ss, gEq_bb, gEq_is, gEq_si, gEq_nn, gEq_ni, gEq_ns, gEq_nb, gEq_in, gEq_sn, gEq_bn, gEq_ll, gEq_tt, gIs_n, gIs_bb, gIs_ib, gIn_l, gIn_t, gIn_s, gIx_l, gIx_t, gIx_s, gSl_s, gSl_l, gSl_t, gMulT_c, opt_s, opt_n, go_ok, go_err, m3]
      refine ⟨c1, hv0, c2, hvl, by omega, by omega, by omega, by omega, by omega, ?_⟩
      rw [if_neg (by omega)]
      exact fin
  | _ => exact h.elim
theorem partner_run {n : Nat} {l : List Nat} {Q : PV → OV → Prop} {E : Nat → List D → OV → Prop} (g : Good l) (h1 : l.length ≤ 12) (hn : n + 50 ≤ 1000000) (h : ∀ m n', Good m → m.length ≤ 17 → n' ≤ n + 50 → Q (.imm (.str m)) (.pen n')) : g__law_partner.run (.pen n) [.str l] Q E := by
  refine ⟨⟨⟨g, h1⟩, hn⟩, fun d n' hd h' => ?_⟩
  cases d with
  | str l => exact h l n' hd.1 hd.2 h'
  | _ => exact hd.elim
theorem refused_run {n : Nat} {l : List Nat} {Q : PV → OV → Prop} {E : Nat → List D → OV → Prop} (g : Good l) (h1 : l.length ≤ 100) (hn : n + 2 ≤ 1000000) (h : ∀ n', n' ≤ n + 2 → Q (.imm (.bl true)) (.pen n')) : g__law_refused_right.run (.pen n) [.str l] Q E := by
  refine ⟨⟨⟨g, h1⟩, hn⟩, fun d n' hd h' => ?_⟩
  have hd : d = .bl true := hd
  subst hd
  exact h n' h'
theorem long_run {n : Nat} {Q : PV → OV → Prop} {E : Nat → List D → OV → Prop} (hn : n + 5 ≤ 1000000) (h : ∀ n', n' ≤ n + 5 → Q (.imm (.bl true)) (.pen n')) : g__law_long_right.run (.pen n) [] Q E := by
  refine ⟨⟨rfl, hn⟩, fun d n' hd h' => ?_⟩
  have hd : d = .bl true := hd
  subst hd
  exact h n' h'
def t_law : VS := (vSeq (vFor (vRng1 (vCons (vC (.int 9)) vNil)) (vgName 2)
  (vSeq (vSet 3 (vFz (vRef 1 g__law_row (vCons (vC (.int 12)) vNil))))
  (vSeq (vSet 4 (vFz (vRef 1 g__law_partner (vCons (vVar 3) vNil))))
  (vSeq (vIf (vOr (vNot (vTr (vFz (vFn f__law_pair_right (vCons (vVar 3) (vCons (vVar 4) vNil)))))) (vOr (vNot (vTr (vFz (vFn f__law_pair_right (vCons (vVar 4) (vCons (vVar 3) vNil)))))) (vNot (vTr (vFz (vRef 1 g__law_refused_right (vCons (vVar 3) vNil)))))))
  (vRet (vC (.bl false)))
  vNext)
  (vSeq (vSet 5 (vFz (vMk i_Word [] (vCons (vFz (vRef 1 g__law_row (vCons (vC (.int 6)) vNil))) vNil))))
  (vSeq (vIf (vBlO (vOwnN 20 (fnS f_Word___eq__) (vFz (vOwn2 20 (fnS f_Word___mul__) (vFz (vOwn2 20 (fnS f_Word___mul__) (vFz (vMk i_Word [] (vCons (vVar 3) vNil))) (vFz (vMk i_Word [] (vCons (vVar 4) vNil))))) (vVar 5))) (vFz (vOwn2 20 (fnS f_Word___mul__) (vFz (vMk i_Word [] (vCons (vVar 3) vNil))) (vFz (vOwn2 20 (fnS f_Word___mul__) (vFz (vMk i_Word [] (vCons (vVar 4) vNil))) (vVar 5)))))))
  (vRet (vC (.bl false)))
  vNext)
  (vIf (vNot (vTr (vFz (vFn f__law_told (vCons (vFz (vOwn2 20 (fnS f_Word___eq__) (vFz (vMk i_Word [] (vCons (vVar 3) vNil))) (vFz (vMk i_Word [] (vCons (vVar 4) vNil))))) (vCons (vBin gEq (vVar 3) (vVar 4)) vNil))))))
  (vRet (vC (.bl false)))
  vNext)))))))
  (vRet (vOrV (vBin gGt (vFz (vRef 1 g__law_draw (vCons (vC (.int 9)) vNil))) (vC (.int 0))) (vFz (vRef 1 g__law_long_right vNil)))))
theorem ob_law : ObL t_law 6 := by
  unfold ObL t_law
  simp only [okSet_s, okSet_0, okSet_i, okSet_o, okSet_j, notRef, on1, isiG, askB, onB, tyD, isi1, isiA, btSub, absG, strG, max2G, min2G, hasO, lendAll, lendP, frz, scD, ng, isNon, swapG, indexG, joinG, splitG, imAt, atL, fldD, fldX, putD, insD, fn_run, hideO, ends0, ends1, atH, st0, st1, gEq, gNe, gSub, gMul, gFdiv, gMod, gPow, gLt, gLe, gGt, gGe, ipG_add, ipG_sub, List.getElem?_cons_zero, List.getElem?_cons_succ, List.getElem?_nil, List.set_cons_zero, List.set_cons_succ, List.map_cons, List.map_nil, List.length_cons, List.length_nil, List.replicate_zero, List.replicate_succ, List.cons_append, List.nil_append, List.append_nil, List.append_assoc, List.head?_cons, List.lookup, List.contains_cons, List.contains_nil, List.all_cons, List.all_nil, List.any_cons, List.any_nil, Bool.true_and, Bool.and_true, Bool.false_and, Bool.and_false, Bool.or_true, Bool.true_or, Bool.or_false, Bool.false_or, Bool.not_true, Bool.not_false, Bool.and_self, decide_eq_true_eq, decide_true, decide_false, Bool.false_eq_true, if_true, if_false, ite_true, ite_false, reduceIte, reduceCtorEq, Bool.not_eq_true, Bool.not_eq_true', decide_eq_false_iff_not, not_true_eq_false, not_false_eq_true, true_and, and_true, false_and, and_false, Nat.add_zero, Nat.zero_add, Nat.reduceAdd, Nat.reduceSub, Nat.reduceLT, Nat.reduceLeDiff, Nat.sub_self, beq_iff_eq, BEq.rfl, beq_self_eq_true, anc, cflds, Option.map_some, Option.map_none, lendP_j, wipeP, elemsD, prePick, postPick, nd_run, pick_run, draw_run, wd, vVar_c, vC_c, vIm_c, vNil_c, vCons_c, vBin_c, vBl_c, vAnd_c, vOr_c, vNot_c, vAndV_c, vOrV_c, vNotV_c, vIfE_c, vLend_c, vLendT_c, vNext_c, vSeq_c, vDrop_c, vRet_c, vRetO_c, vIf_c, vSet_c, vSetO_c, vgName_c, vgNil_c, vgCons_c, vgTup_c, vAsg_c, vPar_c, vAug_c, vAug2_c, vFor_c, vCall_c, vCallR_c, vNeg_c, vChain_c, vPn_c, vPs_c, vSl_c, vRevS_c, vLst_c, vTup_c, vCB_c, vM0_c, vM1_c, vFld_c, vFldX_c, vFldO_c, vPutO_c, vApp_c, vPop_c, vExt_c, vPutI_c, vItL_c, vItT_c, vItS_c, vRng1_c, vRng2_c, vEnumL_c, vEnumS_c, vZip_c, vYes_c, vLc_c, vRaise_c, vMake_c, vMakeK_c, vCallN_c, vMeth_c, vMethN_c, vOwn2_c, vBlO_c, vOwnN_c, vOwn1_c, vLenO_c, vStrO_c, vItO_c, vFn_c, vRef_c, vMk_c, vMkK_c, vHeard_c, vEqA_c, vMulA_c, fzK_i, fzK_o, vFz_c, trK_b, trK_n, trK_i, trK_s, trK_l, trK_t, vTr_c, fn_r0, fn_r1, fn_r2, fn_r3, aliD_1, aliD_2, aliD_3, aliD_4, aliD_5, aliD_6, aliD_7, aliD_8, forL_0, forL_1, boolP_b, lenG_s, lenG_l, lenG_t, intG_i, intG_b, intG_s, listG_l, listG_t, tupG_l, tupG_t, gAdd_i, gAdd_s, gAdd_l, gAdd_t, gAdd_b, gInt_i, gInt0_i, gCmp_i, gCmp_s, gEq_ii, gEq_ss, gEq_bb, gEq_is, gEq_si, gEq_nn, gEq_ni, gEq_ns, gEq_nb, gEq_in, gEq_sn, gEq_bn, gEq_ll, gEq_tt, gIs_n, gIs_bb, gIs_ib, gIn_l, gIn_t, gIn_s, gIx_l, gIx_t, gIx_s, gSl_s, gSl_l, gSl_t, gMulT_c, opt_s, opt_n, go_ok, go_err, stL, endsL]
  refine ⟨⟨by decide, by decide⟩, ?_⟩
  refine forL_ind (st := fun (a : Nat × Option D × Option D × Option D × Option D) => [none, some (.own false (.pen a.1)), jk a.2.1, jk a.2.2.1, jk a.2.2.2.1, jk a.2.2.2.2]) (I := fun ds a => a.1 + 200 * ds.length ≤ 2000) ?_ ?_ _ (0, none, none, none, none) ?_
  · rintro ⟨n, x1, x2, x3, x4⟩ hI
    dsimp only at hI
    simp only [okSet_s, okSet_0, okSet_i, okSet_o, okSet_j, notRef, on1, isiG, askB, onB, tyD, isi1, isiA, btSub, absG, strG, max2G, min2G, hasO, lendAll, lendP, frz, scD, ng, isNon, swapG, indexG, joinG, splitG, imAt, atL, fldD, fldX, putD, insD, fn_run, hideO, ends0, ends1, atH, st0, st1, gEq, gNe, gSub, gMul, gFdiv, gMod, gPow, gLt, gLe, gGt, gGe, ipG_add, ipG_sub, List.getElem?_cons_zero, List.getElem?_cons_succ, List.getElem?_nil, List.set_cons_zero, List.set_cons_succ, List.map_cons, List.map_nil, List.length_cons, List.length_nil, List.replicate_zero, List.replicate_succ, List.cons_append, List.nil_append, List.append_nil, List.append_assoc, List.head?_cons, List.lookup, List.contains_cons, List.contains_nil, List.all_cons, List.all_nil, List.any_cons, List.any_nil, Bool.true_and, Bool.and_true, Bool.false_and, Bool.and_false, Bool.or_true, Bool.true_or, Bool.or_false, Bool.false_or, Bool.not_true, Bool.not_false, Bool.and_self, decide_eq_true_eq, decide_true, decide_false, Bool.false_eq_true, if_true, if_false, ite_true, ite_false, reduceIte, reduceCtorEq, Bool.not_eq_true, Bool.not_eq_true', decide_eq_false_iff_not, not_true_eq_false, not_false_eq_true, true_and, and_true, false_and, and_false, Nat.add_zero, Nat.zero_add, Nat.reduceAdd, Nat.reduceSub, Nat.reduceLT, Nat.reduceLeDiff, Nat.sub_self, beq_iff_eq, BEq.rfl, beq_self_eq_true, anc, cflds, Option.map_some, Option.map_none, lendP_j, wipeP, elemsD, prePick, postPick, nd_run, pick_run, draw_run, wd, vVar_c, vC_c, vIm_c, vNil_c, vCons_c, vBin_c, vBl_c, vAnd_c, vOr_c, vNot_c, vAndV_c, vOrV_c, vNotV_c, vIfE_c, vLend_c, vLendT_c, vNext_c, vSeq_c, vDrop_c, vRet_c, vRetO_c, vIf_c, vSet_c, vSetO_c, vgName_c, vgNil_c, vgCons_c, vgTup_c, vAsg_c, vPar_c, vAug_c, vAug2_c, vFor_c, vCall_c, vCallR_c, vNeg_c, vChain_c, vPn_c, vPs_c, vSl_c, vRevS_c, vLst_c, vTup_c, vCB_c, vM0_c, vM1_c, vFld_c, vFldX_c, vFldO_c, vPutO_c, vApp_c, vPop_c, vExt_c, vPutI_c, vItL_c, vItT_c, vItS_c, vRng1_c, vRng2_c, vEnumL_c, vEnumS_c, vZip_c, vYes_c, vLc_c, vRaise_c, vMake_c, vMakeK_c, vCallN_c, vMeth_c, vMethN_c, vOwn2_c, vBlO_c, vOwnN_c, vOwn1_c, vLenO_c, vStrO_c, vItO_c, vFn_c, vRef_c, vMk_c, vMkK_c, vHeard_c, vEqA_c, vMulA_c, fzK_i, fzK_o, vFz_c, trK_b, trK_n, trK_i, trK_s, trK_l, trK_t, vTr_c, fn_r0, fn_r1, fn_r2, fn_r3, aliD_1, aliD_2, aliD_3, aliD_4, aliD_5, aliD_6, aliD_7, aliD_8, forL_0, forL_1, boolP_b, lenG_s, lenG_l, lenG_t, intG_i, intG_b, intG_s, listG_l, listG_t, tupG_l, tupG_t, gAdd_i, gAdd_s, gAdd_l, gAdd_t, gAdd_b, gInt_i, gInt0_i, gCmp_i, gCmp_s, gEq_ii, gEq_ss, gEq_bb, gEq_is, gEq_si, gEq_nn, gEq_ni, gEq_ns, gEq_nb, gEq_in, gEq_sn, gEq_bn, gEq_ll, gEq_tt, gIs_n, gIs_bb, gIs_ib, gIn_l, gIn_t, gIn_s, gIx_l, gIx_t, gIx_s, gSl_s, gSl_l, gSl_t, gMulT_c, opt_s, opt_n, go_ok, go_err]
    refine ⟨⟨by decide, by decide, by omega⟩, fun r r0 r1 => ?_⟩
    by_cases hr : 0 < r
    · simp only [okSet_s, okSet_0, okSet_i, okSet_o, okSet_j, notRef, on1, isiG, askB, onB, tyD, isi1, isiA, btSub, absG, strG, max2G, min2G, hasO, lendAll, lendP, frz, scD, ng, isNon, swapG, indexG, joinG, splitG, imAt, atL, fldD, fldX, putD, insD, fn_run, hideO, ends0, ends1, atH, st0, st1, gEq, gNe, gSub, gMul, gFdiv, gMod, gPow, gLt, gLe, gGt, gGe, ipG_add, ipG_sub, List.getElem?_cons_zero, List.getElem?_cons_succ, List.getElem?_nil, List.set_cons_zero, List.set_cons_succ, List.map_cons, List.map_nil, List.length_cons, List.length_nil, List.replicate_zero, List.replicate_succ, List.cons_append, List.nil_append, List.append_nil, List.append_assoc, List.head?_cons, List.lookup, List.contains_cons, List.contains_nil, List.all_cons, List.all_nil, List.any_cons, List.any_nil, Bool.true_and, Bool.and_true, Bool.false_and, Bool.and_false, Bool.or_true, Bool.true_or, Bool.or_false, Bool.false_or, Bool.not_true, Bool.not_false, Bool.and_self, decide_eq_true_eq, decide_true, decide_false, Bool.false_eq_true, if_true, if_false, ite_true, ite_false, reduceIte, reduceCtorEq, Bool.not_eq_true, Bool.not_eq_true', decide_eq_false_iff_not, not_true_eq_false, not_false_eq_true, true_and, and_true, false_and, and_false, Nat.add_zero, Nat.zero_add, Nat.reduceAdd, Nat.reduceSub, Nat.reduceLT, Nat.reduceLeDiff, Nat.sub_self, beq_iff_eq, BEq.rfl, beq_self_eq_true, anc, cflds, Option.map_some, Option.map_none, lendP_j, wipeP, elemsD, prePick, postPick, nd_run, pick_run, draw_run, wd, vVar_c, vC_c, vIm_c, vNil_c, vCons_c, vBin_c, vBl_c, vAnd_c, vOr_c, vNot_c, vAndV_c, vOrV_c, vNotV_c, vIfE_c, vLend_c, vLendT_c, vNext_c, vSeq_c, vDrop_c, vRet_c, vRetO_c, vIf_c, vSet_c, vSetO_c, vgName_c, vgNil_c, vgCons_c, vgTup_c, vAsg_c, vPar_c, vAug_c, vAug2_c, vFor_c, vCall_c, vCallR_c, vNeg_c, vChain_c, vPn_c, vPs_c, vSl_c, vRevS_c, vLst_c, vTup_c, vCB_c, vM0_c, vM1_c, vFld_c, vFldX_c, vFldO_c, vPutO_c, vApp_c, vPop_c, vExt_c, vPutI_c, vItL_c, vItT_c, vItS_c, vRng1_c, vRng2_c, vEnumL_c, vEnumS_c, vZip_c, vYes_c, vLc_c, vRaise_c, vMake_c, vMakeK_c, vCallN_c, vMeth_c, vMethN_c, vOwn2_c, vBlO_c, vOwnN_c, vOwn1_c, vLenO_c, vStrO_c, vItO_c, vFn_c, vRef_c, vMk_c, vMkK_c, vHeard_c, vEqA_c, vMulA_c, fzK_i, fzK_o, vFz_c, trK_b, trK_n, trK_i, trK_s, trK_l, trK_t, vTr_c, fn_r0, fn_r1, fn_r2, fn_r3, aliD_1, aliD_2, aliD_3, aliD_4, aliD_5, aliD_6, aliD_7, aliD_8, forL_0, forL_1, boolP_b, lenG_s, lenG_l, lenG_t, intG_i, intG_b, intG_s, listG_l, listG_t, tupG_l, tupG_t, gAdd_i, gAdd_s, gAdd_l, gAdd_t, gAdd_b, gInt_i, gInt0_i, gCmp_i, gCmp_s, gEq_ii, gEq_ss, gEq_bb, gEq_is, gEq_si, gEq_nn, gEq_ni, gEq_ns, gEq_nb, gEq_in, gEq_sn, gEq_bn, gEq_ll, gEq_tt, gIs_n, gIs_bb, gIs_ib, gIn_l, gIn_t, gIn_s, gIx_l, gIx_t, gIx_s, gSl_s, gSl_l, gSl_t, gMulT_c, opt_s, opt_n, go_ok, go_err, hr]
    · simp only [okSet_s, okSet_0, okSet_i, okSet_o, okSet_j, notRef, on1, isiG, askB, onB, tyD, isi1, isiA, btSub, absG, strG, max2G, min2G, hasO, lendAll, lendP, frz, scD, ng, isNon, swapG, indexG, joinG, splitG, imAt, atL, fldD, fldX, putD, insD, fn_run, hideO, ends0, ends1, atH, st0, st1, gEq, gNe, gSub, gMul, gFdiv, gMod, gPow, gLt, gLe, gGt, gGe, ipG_add, ipG_sub, List.getElem?_cons_zero, List.getElem?_cons_succ, List.getElem?_nil, List.set_cons_zero, List.set_cons_succ, List.map_cons, List.map_nil, List.length_cons, List.length_nil, List.replicate_zero, List.replicate_succ, List.cons_append, List.nil_append, List.append_nil, List.append_assoc, List.head?_cons, List.lookup, List.contains_cons, List.contains_nil, List.all_cons, List.all_nil, List.any_cons, List.any_nil, Bool.true_and, Bool.and_true, Bool.false_and, Bool.and_false, Bool.or_true, Bool.true_or, Bool.or_false, Bool.false_or, Bool.not_true, Bool.not_false, Bool.and_self, decide_eq_true_eq, decide_true, decide_false, Bool.false_eq_true, if_true, if_false, ite_true, ite_false, reduceIte, reduceCtorEq, Bool.not_eq_true, Bool.not_eq_true', decide_eq_false_iff_not, not_true_eq_false, not_false_eq_true, true_and, and_true, false_and, and_false, Nat.add_zero, Nat.zero_add, Nat.reduceAdd, Nat.reduceSub, Nat.reduceLT, Nat.reduceLeDiff, Nat.sub_self, beq_iff_eq, BEq.rfl, beq_self_eq_true, anc, cflds, Option.map_some, Option.map_none, lendP_j, wipeP, elemsD, prePick, postPick, nd_run, pick_run, draw_run, wd, vVar_c, vC_c, vIm_c, vNil_c, vCons_c, vBin_c, vBl_c, vAnd_c, vOr_c, vNot_c, vAndV_c, vOrV_c, vNotV_c, vIfE_c, vLend_c, vLendT_c, vNext_c, vSeq_c, vDrop_c, vRet_c, vRetO_c, vIf_c, vSet_c, vSetO_c, vgName_c, vgNil_c, vgCons_c, vgTup_c, vAsg_c, vPar_c, vAug_c, vAug2_c, vFor_c, vCall_c, vCallR_c, vNeg_c, vChain_c, vPn_c, vPs_c, vSl_c, vRevS_c, vLst_c, vTup_c, vCB_c, vM0_c, vM1_c, vFld_c, vFldX_c, vFldO_c, vPutO_c, vApp_c, vPop_c, vExt_c, vPutI_c, vItL_c, vItT_c, vItS_c, vRng1_c, vRng2_c, vEnumL_c, vEnumS_c, vZip_c, vYes_c, vLc_c, vRaise_c, vMake_c, vMakeK_c, vCallN_c, vMeth_c, vMethN_c, vOwn2_c, vBlO_c, vOwnN_c, vOwn1_c, vLenO_c, vStrO_c, vItO_c, vFn_c, vRef_c, vMk_c, vMkK_c, vHeard_c, vEqA_c, vMulA_c, fzK_i, fzK_o, vFz_c, trK_b, trK_n, trK_i, trK_s, trK_l, trK_t, vTr_c, fn_r0, fn_r1, fn_r2, fn_r3, aliD_1, aliD_2, aliD_3, aliD_4, aliD_5, aliD_6, aliD_7, aliD_8, forL_0, forL_1, boolP_b, lenG_s, lenG_l, lenG_t, intG_i, intG_b, intG_s, listG_l, listG_t, tupG_l, tupG_t, gAdd_i, gAdd_s, gAdd_l, gAdd_t, gAdd_b, gInt_i, gInt0_i, gCmp_i, gCmp_s, gEq_ii, gEq_ss, gEq_bb, gEq_is, gEq_si, gEq_nn, gEq_ni, gEq_ns, gEq_nb, gEq_in, gEq_sn, gEq_bn, gEq_ll, gEq_tt, gIs_n, gIs_bb, gIs_ib, gIn_l, gIn_t, gIn_s, gIx_l, gIx_t, gIx_s, gSl_s, gSl_l, gSl_t, gMulT_c, opt_s, opt_n, go_ok, go_err, hr]
      exact long_run (by omega) fun n' h' => by simp only [okSet_s, okSet_0, okSet_i, okSet_o, okSet_j, notRef, on1, isiG, askB, onB, tyD, isi1, isiA, btSub, absG, strG, max2G, min2G, hasO, lendAll, lendP, frz, scD, ng, isNon, swapG, indexG, joinG, splitG, imAt, atL, fldD, fldX, putD, insD, fn_run, hideO, ends0, ends1, atH, st0, st1, gEq, gNe, gSub, gMul, gFdiv, gMod, gPow, gLt, gLe, gGt, gGe, ipG_add, ipG_sub, List.getElem?_cons_zero, List.getElem?_cons_succ, List.getElem?_nil, List.set_cons_zero, List.set_cons_succ, List.map_cons, List.map_nil, List.length_cons, List.length_nil, List.replicate_zero, List.replicate_succ, List.cons_append, List.nil_append, List.append_nil, List.append_assoc, List.head?_cons, List.lookup, List.contains_cons, List.contains_nil, List.all_cons, List.all_nil, List.any_cons, List.any_nil, Bool.true_and, Bool.and_true, Bool.false_and, Bool.and_false, Bool.or_true, Bool.true_or, Bool.or_false, Bool.false_or, Bool.not_true, Bool.not_false, Bool.and_self, decide_eq_true_eq, decide_true, decide_false, Bool.false_eq_true, if_true, if_false, ite_true, ite_false, reduceIte, reduceCtorEq, Bool.not_eq_true, Bool.not_eq_true', decide_eq_false_iff_not, not_true_eq_false, not_false_eq_true, true_and, and_true, false_and, and_false, Nat.add_zero, Nat.zero_add, Nat.reduceAdd, Nat.reduceSub, Nat.reduceLT, Nat.reduceLeDiff, Nat.sub_self, beq_iff_eq, BEq.rfl, beq_self_eq_true, anc, cflds, Option.map_some, Option.map_none, lendP_j, wipeP, elemsD, prePick, postPick, nd_run, pick_run, draw_run, wd, vVar_c, vC_c, vIm_c, vNil_c, vCons_c, vBin_c, vBl_c, vAnd_c, vOr_c, vNot_c, vAndV_c, vOrV_c, vNotV_c, vIfE_c, vLend_c, vLendT_c, vNext_c, vSeq_c, vDrop_c, vRet_c, vRetO_c, vIf_c, vSet_c, vSetO_c, vgName_c, vgNil_c, vgCons_c, vgTup_c, vAsg_c, vPar_c, vAug_c, vAug2_c, vFor_c, vCall_c, vCallR_c, vNeg_c, vChain_c, vPn_c, vPs_c, vSl_c, vRevS_c, vLst_c, vTup_c, vCB_c, vM0_c, vM1_c, vFld_c, vFldX_c, vFldO_c, vPutO_c, vApp_c, vPop_c, vExt_c, vPutI_c, vItL_c, vItT_c, vItS_c, vRng1_c, vRng2_c, vEnumL_c, vEnumS_c, vZip_c, vYes_c, vLc_c, vRaise_c, vMake_c, vMakeK_c, vCallN_c, vMeth_c, vMethN_c, vOwn2_c, vBlO_c, vOwnN_c, vOwn1_c, vLenO_c, vStrO_c, vItO_c, vFn_c, vRef_c, vMk_c, vMkK_c, vHeard_c, vEqA_c, vMulA_c, fzK_i, fzK_o, vFz_c, trK_b, trK_n, trK_i, trK_s, trK_l, trK_t, vTr_c, fn_r0, fn_r1, fn_r2, fn_r3, aliD_1, aliD_2, aliD_3, aliD_4, aliD_5, aliD_6, aliD_7, aliD_8, forL_0, forL_1, boolP_b, lenG_s, lenG_l, lenG_t, intG_i, intG_b, intG_s, listG_l, listG_t, tupG_l, tupG_t, gAdd_i, gAdd_s, gAdd_l, gAdd_t, gAdd_b, gInt_i, gInt0_i, gCmp_i, gCmp_s, gEq_ii, gEq_ss, gEq_bb, gEq_is, gEq_si, gEq_nn, gEq_ni, gEq_ns, gEq_nb, gEq_in, gEq_sn, gEq_bn, gEq_ll, gEq_tt, gIs_n, gIs_bb, gIs_ib, gIn_l, gIn_t, gIn_s, gIx_l, gIx_t, gIx_s, gSl_s, gSl_l, gSl_t, gMulT_c, opt_s, opt_n, go_ok, go_err]
  · rintro d ds ⟨n, x1, x2, x3, x4⟩ hI K hK
    dsimp only at hI hK
    simp only [List.length_cons] at hI
    simp only [okSet_s, okSet_0, okSet_i, okSet_o, okSet_j, notRef, on1, isiG, askB, onB, tyD, isi1, isiA, btSub, absG, strG, max2G, min2G, hasO, lendAll, lendP, frz, scD, ng, isNon, swapG, indexG, joinG, splitG, imAt, atL, fldD, fldX, putD, insD, fn_run, hideO, ends0, ends1, atH, st0, st1, gEq, gNe, gSub, gMul, gFdiv, gMod, gPow, gLt, gLe, gGt, gGe, ipG_add, ipG_sub, List.getElem?_cons_zero, List.getElem?_cons_succ, List.getElem?_nil, List.set_cons_zero, List.set_cons_succ, List.map_cons, List.map_nil, List.length_cons, List.length_nil, List.replicate_zero, List.replicate_succ, List.cons_append, List.nil_append, List.append_nil, List.append_assoc, List.head?_cons, List.lookup, List.contains_cons, List.contains_nil, List.all_cons, List.all_nil, List.any_cons, List.any_nil, Bool.true_and, Bool.and_true, Bool.false_and, Bool.and_false, Bool.or_true, Bool.true_or, Bool.or_false, Bool.false_or, Bool.not_true, Bool.not_false, Bool.and_self, decide_eq_true_eq, decide_true, decide_false, Bool.false_eq_true, if_true, if_false, ite_true, ite_false, reduceIte, reduceCtorEq, Bool.not_eq_true, Bool.not_eq_true', decide_eq_false_iff_not, not_true_eq_false, not_false_eq_true, true_and, and_true, false_and, and_false, Nat.add_zero, Nat.zero_add, Nat.reduceAdd, Nat.reduceSub, Nat.reduceLT, Nat.reduceLeDiff, Nat.sub_self, beq_iff_eq, BEq.rfl, beq_self_eq_true, anc, cflds, Option.map_some, Option.map_none, lendP_j, wipeP, elemsD, prePick, postPick, nd_run, pick_run, draw_run, wd, vVar_c, vC_c, vIm_c, vNil_c, vCons_c, vBin_c, vBl_c, vAnd_c, vOr_c, vNot_c, vAndV_c, vOrV_c, vNotV_c, vIfE_c, vLend_c, vLendT_c, vNext_c, vSeq_c, vDrop_c, vRet_c, vRetO_c, vIf_c, vSet_c, vSetO_c, vgName_c, vgNil_c, vgCons_c, vgTup_c, vAsg_c, vPar_c, vAug_c, vAug2_c, vFor_c, vCall_c, vCallR_c, vNeg_c, vChain_c, vPn_c, vPs_c, vSl_c, vRevS_c, vLst_c, vTup_c, vCB_c, vM0_c, vM1_c, vFld_c, vFldX_c, vFldO_c, vPutO_c, vApp_c, vPop_c, vExt_c, vPutI_c, vItL_c, vItT_c, vItS_c, vRng1_c, vRng2_c, vEnumL_c, vEnumS_c, vZip_c, vYes_c, vLc_c, vRaise_c, vMake_c, vMakeK_c, vCallN_c, vMeth_c, vMethN_c, vOwn2_c, vBlO_c, vOwnN_c, vOwn1_c, vLenO_c, vStrO_c, vItO_c, vFn_c, vRef_c, vMk_c, vMkK_c, vHeard_c, vEqA_c, vMulA_c, fzK_i, fzK_o, vFz_c, trK_b, trK_n, trK_i, trK_s, trK_l, trK_t, vTr_c, fn_r0, fn_r1, fn_r2, fn_r3, aliD_1, aliD_2, aliD_3, aliD_4, aliD_5, aliD_6, aliD_7, aliD_8, forL_0, forL_1, boolP_b, lenG_s, lenG_l, lenG_t, intG_i, intG_b, intG_s, listG_l, listG_t, tupG_l, tupG_t, gAdd_i, gAdd_s, gAdd_l, gAdd_t, gAdd_b, gInt_i, gInt0_i, gCmp_i, gCmp_s, gEq_ii, gEq_ss, gEq_bb, gEq_is, gEq_si, gEq_nn, gEq_ni, gEq_ns, gEq_nb, gEq_in, gEq_sn, gEq_bn, gEq_ll, gEq_tt, gIs_n, gIs_bb, gIs_ib, gIn_l, gIn_t, gIn_s, gIx_l, gIx_t, gIx_s, gSl_s, gSl_l, gSl_t, gMulT_c, opt_s, opt_n, go_ok, go_err]
    refine row_run (by decide) (by decide) (by omega) fun l n1 gl ll hn1 => ?_
    simp only [okSet_s, okSet_0, okSet_i, okSet_o, okSet_j, notRef, on1, isiG, askB, onB, tyD, isi1, isiA, btSub, absG, strG, max2G, min2G, hasO, lendAll, lendP, frz, scD, ng, isNon, swapG, indexG, joinG, splitG, imAt, atL, fldD, fldX, putD, insD, fn_run, hideO, ends0, ends1, atH, st0, st1, gEq, gNe, gSub, gMul, gFdiv, gMod, gPow, gLt, gLe, gGt, gGe, ipG_add, ipG_sub, List.getElem?_cons_zero, List.getElem?_cons_succ, List.getElem?_nil, List.set_cons_zero, List.set_cons_succ, List.map_cons, List.map_nil, List.length_cons, List.length_nil, List.replicate_zero, List.replicate_succ, List.cons_append, List.nil_append, List.append_nil, List.append_assoc, List.head?_cons, List.lookup, List.contains_cons, List.contains_nil, List.all_cons, List.all_nil, List.any_cons, List.any_nil, Bool.true_and, Bool.and_true, Bool.false_and, Bool.and_false, Bool.or_true, Bool.true_or, Bool.or_false, Bool.false_or, Bool.not_true, Bool.not_false, Bool.and_self, decide_eq_true_eq, decide_true, decide_false, Bool.false_eq_true, if_true, if_false, ite_true, ite_false, reduceIte, reduceCtorEq, Bool.not_eq_true, Bool.not_eq_true', decide_eq_false_iff_not, not_true_eq_false, not_false_eq_true, true_and, and_true, false_and, and_false, Nat.add_zero, Nat.zero_add, Nat.reduceAdd, Nat.reduceSub, Nat.reduceLT, Nat.reduceLeDiff, Nat.sub_self, beq_iff_eq, BEq.rfl, beq_self_eq_true, anc, cflds, Option.map_some, Option.map_none, lendP_j, wipeP, elemsD, prePick, postPick, nd_run, pick_run, draw_run, wd, vVar_c, vC_c, vIm_c, vNil_c, vCons_c, vBin_c, vBl_c, vAnd_c, vOr_c, vNot_c, vAndV_c, vOrV_c, vNotV_c, vIfE_c, vLend_c, vLendT_c, vNext_c, vSeq_c, vDrop_c, vRet_c, vRetO_c, vIf_c, vSet_c, vSetO_c, vgName_c, vgNil_c, vgCons_c, vgTup_c, vAsg_c, vPar_c, vAug_c, vAug2_c, vFor_c, vCall_c, vCallR_c, vNeg_c, vChain_c, vPn_c, vPs_c, vSl_c, vRevS_c, vLst_c, vTup_c, vCB_c, vM0_c, vM1_c, vFld_c, vFldX_c, vFldO_c, vPutO_c, vApp_c, vPop_c, vExt_c, vPutI_c, vItL_c, vItT_c, vItS_c, vRng1_c, vRng2_c, vEnumL_c, vEnumS_c, vZip_c, vYes_c, vLc_c, vRaise_c, vMake_c, vMakeK_c, vCallN_c, vMeth_c, vMethN_c, vOwn2_c, vBlO_c, vOwnN_c, vOwn1_c, vLenO_c, vStrO_c, vItO_c, vFn_c, vRef_c, vMk_c, vMkK_c, vHeard_c, vEqA_c, vMulA_c, fzK_i, fzK_o, vFz_c, trK_b, trK_n, trK_i, trK_s, trK_l, trK_t, vTr_c, fn_r0, fn_r1, fn_r2, fn_r3, aliD_1, aliD_2, aliD_3, aliD_4, aliD_5, aliD_6, aliD_7, aliD_8, forL_0, forL_1, boolP_b, lenG_s, lenG_l, lenG_t, intG_i, intG_b, intG_s, listG_l, listG_t, tupG_l, tupG_t, gAdd_i, gAdd_s, gAdd_l, gAdd_t, gAdd_b, gInt_i, gInt0_i, gCmp_i, gCmp_s, gEq_ii, gEq_ss, gEq_bb, gEq_is, gEq_si, gEq_nn, gEq_ni, gEq_ns, gEq_nb, gEq_in, gEq_sn, gEq_bn, gEq_ll, gEq_tt, gIs_n, gIs_bb, gIs_ib, gIn_l, gIn_t, gIn_s, gIx_l, gIx_t, gIx_s, gSl_s, gSl_l, gSl_t, gMulT_c, opt_s, opt_n, go_ok, go_err]
    refine partner_run gl (by omega) (by omega) fun m n2 gm lm hn2 => ?_
    have p1 : f__law_pair_right [.str l, .str m] = .ok (.imm (.bl true)) := if_pos ⟨firstBad_good gl, firstBad_good gm, by omega, by omega⟩
    have p2 : f__law_pair_right [.str m, .str l] = .ok (.imm (.bl true)) := if_pos ⟨firstBad_good gm, firstBad_good gl, by omega, by omega⟩
    simp only [okSet_s, okSet_0, okSet_i, okSet_o, okSet_j, notRef, on1, isiG, askB, onB, tyD, isi1, isiA, btSub, absG, strG, max2G, min2G, hasO, lendAll, lendP, frz, scD, ng, isNon, swapG, indexG, joinG, splitG, imAt, atL, fldD, fldX, putD, insD, fn_run, hideO, ends0, ends1, atH, st0, st1, gEq, gNe, gSub, gMul, gFdiv, gMod, gPow, gLt, gLe, gGt, gGe, ipG_add, ipG_sub, List.getElem?_cons_zero, List.getElem?_cons_succ, List.getElem?_nil, List.set_cons_zero, List.set_cons_succ, List.map_cons, List.map_nil, List.length_cons, List.length_nil, List.replicate_zero, List.replicate_succ, List.cons_append, List.nil_append, List.append_nil, List.append_assoc, List.head?_cons, List.lookup, List.contains_cons, List.contains_nil, List.all_cons, List.all_nil, List.any_cons, List.any_nil, Bool.true_and, Bool.and_true, Bool.false_and, Bool.and_false, Bool.or_true, Bool.true_or, Bool.or_false, Bool.false_or, Bool.not_true, Bool.not_false, Bool.and_self, decide_eq_true_eq, decide_true, decide_false, Bool.false_eq_true, if_true, if_false, ite_true, ite_false, reduceIte, reduceCtorEq, Bool.not_eq_true, Bool.not_eq_true', decide_eq_false_iff_not, not_true_eq_false, not_false_eq_true, true_and, and_true, false_and, and_false, Nat.add_zero, Nat.zero_add, Nat.reduceAdd, Nat.reduceSub, Nat.reduceLT, Nat.reduceLeDiff, Nat.sub_self, beq_iff_eq, BEq.rfl, beq_self_eq_true, anc, cflds, Option.map_some, Option.map_none, lendP_j, wipeP, elemsD, prePick, postPick, nd_run, pick_run, draw_run, wd, vVar_c, vC_c, vIm_c, vNil_c, vCons_c, vBin_c, vBl_c, vAnd_c, vOr_c, vNot_c, vAndV_c, vOrV_c, vNotV_c, vIfE_c, vLend_c, vLendT_c, vNext_c, vSeq_c, vDrop_c, vRet_c, vRetO_c, vIf_c, vSet_c, vSetO_c, vgName_c, vgNil_c, vgCons_c, vgTup_c, vAsg_c, vPar_c, vAug_c, vAug2_c, vFor_c, vCall_c, vCallR_c, vNeg_c, vChain_c, vPn_c, vPs_c, vSl_c, vRevS_c, vLst_c, vTup_c, vCB_c, vM0_c, vM1_c, vFld_c, vFldX_c, vFldO_c, vPutO_c, vApp_c, vPop_c, vExt_c, vPutI_c, vItL_c, vItT_c, vItS_c, vRng1_c, vRng2_c, vEnumL_c, vEnumS_c, vZip_c, vYes_c, vLc_c, vRaise_c, vMake_c, vMakeK_c, vCallN_c, vMeth_c, vMethN_c, vOwn2_c, vBlO_c, vOwnN_c, vOwn1_c, vLenO_c, vStrO_c, vItO_c, vFn_c, vRef_c, vMk_c, vMkK_c, vHeard_c, vEqA_c, vMulA_c, fzK_i, fzK_o, vFz_c, trK_b, trK_n, trK_i, trK_s, trK_l, trK_t, vTr_c, fn_r0, fn_r1, fn_r2, fn_r3, aliD_1, aliD_2, aliD_3, aliD_4, aliD_5, aliD_6, aliD_7, aliD_8, forL_0, forL_1, boolP_b, lenG_s, lenG_l, lenG_t, intG_i, intG_b, intG_s, listG_l, listG_t, tupG_l, tupG_t, gAdd_i, gAdd_s, gAdd_l, gAdd_t, gAdd_b, gInt_i, gInt0_i, gCmp_i, gCmp_s, gEq_ii, gEq_ss, gEq_bb, gEq_is, gEq_si, gEq_nn, gEq_ni, gEq_ns, gEq_nb, gEq_in, gEq_sn, gEq_bn, gEq_ll, gEq_tt, gIs_n, gIs_bb, gIs_ib, gIn_l, gIn_t, gIn_s, gIx_l, gIx_t, gIx_s, gSl_s, gSl_l, gSl_t, gMulT_c, opt_s, opt_n, go_ok, go_err, p1, p2]
    refine refused_run gl (by omega) (by omega) fun n3 hn3 => ?_
    simp only [okSet_s, okSet_0, okSet_i, okSet_o, okSet_j, notRef, on1, isiG, askB, onB, tyD, isi1, isiA, btSub, absG, strG, max2G, min2G, hasO, lendAll, lendP, frz, scD, ng, isNon, swapG, indexG, joinG, splitG, imAt, atL, fldD, fldX, putD, insD, fn_run, hideO, ends0, ends1, atH, st0, st1, gEq, gNe, gSub, gMul, gFdiv, gMod, gPow, gLt, gLe, gGt, gGe, ipG_add, ipG_sub, List.getElem?_cons_zero, List.getElem?_cons_succ, List.getElem?_nil, List.set_cons_zero, List.set_cons_succ, List.map_cons, List.map_nil, List.length_cons, List.length_nil, List.replicate_zero, List.replicate_succ, List.cons_append, List.nil_append, List.append_nil, List.append_assoc, List.head?_cons, List.lookup, List.contains_cons, List.contains_nil, List.all_cons, List.all_nil, List.any_cons, List.any_nil, Bool.true_and, Bool.and_true, Bool.false_and, Bool.and_false, Bool.or_true, Bool.true_or, Bool.or_false, Bool.false_or, Bool.not_true, Bool.not_false, Bool.and_self, decide_eq_true_eq, decide_true, decide_false, Bool.false_eq_true, if_true, if_false, ite_true, ite_false, reduceIte, reduceCtorEq, Bool.not_eq_true, Bool.not_eq_true', decide_eq_false_iff_not, not_true_eq_false, not_false_eq_true, true_and, and_true, false_and, and_false, Nat.add_zero, Nat.zero_add, Nat.reduceAdd, Nat.reduceSub, Nat.reduceLT, Nat.reduceLeDiff, Nat.sub_self, beq_iff_eq, BEq.rfl, beq_self_eq_true, anc, cflds, Option.map_some, Option.map_none, lendP_j, wipeP, elemsD, prePick, postPick, nd_run, pick_run, draw_run, wd, vVar_c, vC_c, vIm_c, vNil_c, vCons_c, vBin_c, vBl_c, vAnd_c, vOr_c, vNot_c, vAndV_c, vOrV_c, vNotV_c, vIfE_c, vLend_c, vLendT_c, vNext_c, vSeq_c, vDrop_c, vRet_c, vRetO_c, vIf_c, vSet_c, vSetO_c, vgName_c, vgNil_c, vgCons_c, vgTup_c, vAsg_c, vPar_c, vAug_c, vAug2_c, vFor_c, vCall_c, vCallR_c, vNeg_c, vChain_c, vPn_c, vPs_c, vSl_c, vRevS_c, vLst_c, vTup_c, vCB_c, vM0_c, vM1_c, vFld_c, vFldX_c, vFldO_c, vPutO_c, vApp_c, vPop_c, vExt_c, vPutI_c, vItL_c, vItT_c, vItS_c, vRng1_c, vRng2_c, vEnumL_c, vEnumS_c, vZip_c, vYes_c, vLc_c, vRaise_c, vMake_c, vMakeK_c, vCallN_c, vMeth_c, vMethN_c, vOwn2_c, vBlO_c, vOwnN_c, vOwn1_c, vLenO_c, vStrO_c, vItO_c, vFn_c, vRef_c, vMk_c, vMkK_c, vHeard_c, vEqA_c, vMulA_c, fzK_i, fzK_o, vFz_c, trK_b, trK_n, trK_i, trK_s, trK_l, trK_t, vTr_c, fn_r0, fn_r1, fn_r2, fn_r3, aliD_1, aliD_2, aliD_3, aliD_4, aliD_5, aliD_6, aliD_7, aliD_8, forL_0, forL_1, boolP_b, lenG_s, lenG_l, lenG_t, intG_i, intG_b, intG_s, listG_l, listG_t, tupG_l, tupG_t, gAdd_i, gAdd_s, gAdd_l, gAdd_t, gAdd_b, gInt_i, gInt0_i, gCmp_i, gCmp_s, gEq_ii, gEq_ss, gEq_bb, gEq_is, gEq_si, gEq_nn, gEq_ni, gEq_ns, gEq_nb, gEq_in, gEq_sn, gEq_bn, gEq_ll, gEq_tt, gIs_n, gIs_bb, gIs_ib, gIn_l, gIn_t, gIn_s, gIx_l, gIx_t, gIx_s, gSl_s, gSl_l, gSl_t, gMulT_c, opt_s, opt_n, go_ok, go_err]
    refine row_run (by decide) (by decide) (by omega) fun t n4 gt lt hn4 => ?_
    have al := good_allL gl
    have am := good_allL gm
    have at' := good_allL gt
    have alm := allL_app al am
    have amt := allL_app am at'
    have lr1 : (red (l ++ m)).length ≤ 100 := by
      have := red_length (l ++ m)
      rw [List.length_append] at this
      omega
    have lr2 : (red (m ++ t)).length ≤ 100 := by
      have := red_length (m ++ t)
      rw [List.length_append] at this
      omega
    have lr3 : (red (l ++ red (m ++ t))).length ≤ 4000 := by
      have := red_length (l ++ red (m ++ t))
      rw [List.length_append] at this
      omega
    have e : red (red (l ++ m) ++ t) = red (l ++ red (m ++ t)) := by
      rw [red_left alm, red_right al amt, List.append_assoc]
    have m1 := mulW gl (by omega) gm (by omega) (by omega)
    have m2 := mulW (red_good alm) (by omega) gt (by omega) (by rw [e]; exact lr3)
    have m3 := mulW gm (by omega) gt (by omega) (by omega)
    have m4 := mulW gl (by omega) (red_good amt) (by omega) lr3
    rw [e] at m2
    have gr := red_good (allL_app al (red_L amt))
    have q1 := eqW gr lr3 gr lr3
    have q2 := eqW gl (by omega) gm (by omega)
    simp only [okSet_s, okSet_0, okSet_i, okSet_o, okSet_j, notRef, on1, isiG, askB, onB, tyD, isi1, isiA, btSub, absG, strG, max2G, min2G, hasO, lendAll, lendP, frz, scD, ng, isNon, swapG, indexG, joinG, splitG, imAt, atL, fldD, fldX, putD, insD, fn_run, hideO, ends0, ends1, atH, st0, st1, gEq, gNe, gSub, gMul, gFdiv, gMod, gPow, gLt, gLe, gGt, gGe, ipG_add, ipG_sub, List.getElem?_cons_zero, List.getElem?_cons_succ, List.getElem?_nil, List.set_cons_zero, List.set_cons_succ, List.map_cons, List.map_nil, List.length_cons, List.length_nil, List.replicate_zero, List.replicate_succ, List.cons_append, List.nil_append, List.append_nil, List.append_assoc, List.head?_cons, List.lookup, List.contains_cons, List.contains_nil, List.all_cons, List.all_nil, List.any_cons, List.any_nil, Bool.true_and, Bool.and_true, Bool.false_and, Bool.and_false, Bool.or_true, Bool.true_or, Bool.or_false, Bool.false_or, Bool.not_true, Bool.not_false, Bool.and_self, decide_eq_true_eq, decide_true, decide_false, Bool.false_eq_true, if_true, if_false, ite_true, ite_false, reduceIte, reduceCtorEq, Bool.not_eq_true, Bool.not_eq_true', decide_eq_false_iff_not, not_true_eq_false, not_false_eq_true, true_and, and_true, false_and, and_false, Nat.add_zero, Nat.zero_add, Nat.reduceAdd, Nat.reduceSub, Nat.reduceLT, Nat.reduceLeDiff, Nat.sub_self, beq_iff_eq, BEq.rfl, beq_self_eq_true, anc, cflds, Option.map_some, Option.map_none, lendP_j, wipeP, elemsD, prePick, postPick, nd_run, pick_run, draw_run, wd, vVar_c, vC_c, vIm_c, vNil_c, vCons_c, vBin_c, vBl_c, vAnd_c, vOr_c, vNot_c, vAndV_c, vOrV_c, vNotV_c, vIfE_c, vLend_c, vLendT_c, vNext_c, vSeq_c, vDrop_c, vRet_c, vRetO_c, vIf_c, vSet_c, vSetO_c, vgName_c, vgNil_c, vgCons_c, vgTup_c, vAsg_c, vPar_c, vAug_c, vAug2_c, vFor_c, vCall_c, vCallR_c, vNeg_c, vChain_c, vPn_c, vPs_c, vSl_c, vRevS_c, vLst_c, vTup_c, vCB_c, vM0_c, vM1_c, vFld_c, vFldX_c, vFldO_c, vPutO_c, vApp_c, vPop_c, vExt_c, vPutI_c, vItL_c, vItT_c, vItS_c, vRng1_c, vRng2_c, vEnumL_c, vEnumS_c, vZip_c, vYes_c, vLc_c, vRaise_c, vMake_c, vMakeK_c, vCallN_c, vMeth_c, vMethN_c, vOwn2_c, vBlO_c, vOwnN_c, vOwn1_c, vLenO_c, vStrO_c, vItO_c, vFn_c, vRef_c, vMk_c, vMkK_c, vHeard_c, vEqA_c, vMulA_c, fzK_i, fzK_o, vFz_c, trK_b, trK_n, trK_i, trK_s, trK_l, trK_t, vTr_c, fn_r0, fn_r1, fn_r2, fn_r3, aliD_1, aliD_2, aliD_3, aliD_4, aliD_5, aliD_6, aliD_7, aliD_8, forL_0, forL_1, boolP_b, lenG_s, lenG_l, lenG_t, intG_i, intG_b, intG_s, listG_l, listG_t, tupG_l, tupG_t, gAdd_i, gAdd_s, gAdd_l, gAdd_t, gAdd_b, gInt_i, gInt0_i, gCmp_i, gCmp_s, gEq_ii, gEq_ss, gEq_bb, gEq_is, gEq_si, gEq_nn, gEq_ni, gEq_ns, gEq_nb, gEq_in, gEq_sn, gEq_bn, gEq_ll, gEq_tt, gIs_n, gIs_bb, gIs_ib, gIn_l, gIn_t, gIn_s, gIx_l, gIx_t, gIx_s, gSl_s, gSl_l, gSl_t, gMulT_c, opt_s, opt_n, go_ok, go_err, iW gl (by omega), iW gm (by omega), iW gt (by omega), m1, m2, m3, m4, q1, q2, f__law_told]
    exact hK (n4, some _, some _, some _, some _) (by dsimp only; omega)
  · rw [rngD_len]
    decide
end PL

end
section
set_option maxHeartbeats 0
namespace K02
open PySem PySem.Spec PyProof.Rows L2 SBX SB
abbrev lw : PySem.W.OpenLaw := PySem.Challenge.rw_sevenball_k02_products_and_undoings
abbrev prg : Program := PySem.Challenge.pw_sevenball_k02_products_and_undoings
def top (i : Nat) : Stmt := prg.main.body.getD i (.Pass ⟨0, 0, 0, 0⟩)
abbrev s_is_integer : Stmt := top 9
def d_is_integer : DefG := ⟨fun K => He.ga K "is_integer", "is_integer", "is_integer", defArgs s_is_integer, defBody s_is_integer, defScope s_is_integer, [], []⟩
abbrev s_is_letter : Stmt := top 10
def d_is_letter : DefG := ⟨fun K => He.ga K "is_letter", "is_letter", "is_letter", defArgs s_is_letter, defBody s_is_letter, defScope s_is_letter, [], []⟩
abbrev s_need_letters : Stmt := top 13
def d_need_letters : DefG := ⟨fun K => He.ga K "need_letters", "need_letters", "need_letters", defArgs s_need_letters, defBody s_need_letters, defScope s_need_letters, [], []⟩
abbrev s_need_row : Stmt := top 14
def d_need_row : DefG := ⟨fun K => He.ga K "need_row", "need_row", "need_row", defArgs s_need_row, defBody s_need_row, defScope s_need_row, [], []⟩
abbrev s_undone : Stmt := top 15
def d_undone : DefG := ⟨fun K => He.ga K "undone", "undone", "undone", defArgs s_undone, defBody s_undone, defScope s_undone, [], []⟩
abbrev s_struck : Stmt := top 16
def d_struck : DefG := ⟨fun K => He.ga K "struck", "struck", "struck", defArgs s_struck, defBody s_struck, defScope s_struck, [], []⟩
abbrev s_product : Stmt := top 17
def d_product : DefG := ⟨fun K => He.ga K "product", "product", "product", defArgs s_product, defBody s_product, defScope s_product, [], []⟩
abbrev s_need_word : Stmt := top 18
def d_need_word : DefG := ⟨fun K => He.ga K "need_word", "need_word", "need_word", defArgs s_need_word, defBody s_need_word, defScope s_need_word, [], []⟩
abbrev s_is_row : Stmt := top 20
def d_is_row : DefG := ⟨fun K => He.ga K "is_row", "is_row", "is_row", defArgs s_is_row, defBody s_is_row, defScope s_is_row, [], []⟩
abbrev s_lone : Stmt := top 21
def d_lone : DefG := ⟨fun K => He.ga K "lone", "lone", "lone", defArgs s_lone, defBody s_lone, defScope s_lone, [], []⟩
abbrev s__law_pen : Stmt := top 23
def d__law_pen : DefG := ⟨fun K => He.ga K "_law_pen", "_law_pen", "_law_pen", defArgs s__law_pen, defBody s__law_pen, defScope s__law_pen, [], []⟩
abbrev s__law_draw : Stmt := top 24
def d__law_draw : DefG := ⟨fun K => He.ga K "_law_draw", "_law_draw", "_law_draw", defArgs s__law_draw, defBody s__law_draw, defScope s__law_draw, [], []⟩
abbrev s__law_pick : Stmt := top 25
def d__law_pick : DefG := ⟨fun K => He.ga K "_law_pick", "_law_pick", "_law_pick", defArgs s__law_pick, defBody s__law_pick, defScope s__law_pick, [], []⟩
abbrev s__law_heard : Stmt := top 26
def d__law_heard : DefG := ⟨fun K => He.ga K "_law_heard", "_law_heard", "_law_heard", defArgs s__law_heard, defBody s__law_heard, defScope s__law_heard, [], []⟩
abbrev s__law_undo : Stmt := top 27
def d__law_undo : DefG := ⟨fun K => He.ga K "_law_undo", "_law_undo", "_law_undo", defArgs s__law_undo, defBody s__law_undo, defScope s__law_undo, [], []⟩
abbrev s__law_row : Stmt := top 28
def d__law_row : DefG := ⟨fun K => He.ga K "_law_row", "_law_row", "_law_row", defArgs s__law_row, defBody s__law_row, defScope s__law_row, [], []⟩
abbrev s__law_back : Stmt := top 29
def d__law_back : DefG := ⟨fun K => He.ga K "_law_back", "_law_back", "_law_back", defArgs s__law_back, defBody s__law_back, defScope s__law_back, [], []⟩
abbrev s__law_struck : Stmt := top 30
def d__law_struck : DefG := ⟨fun K => He.ga K "_law_struck", "_law_struck", "_law_struck", defArgs s__law_struck, defBody s__law_struck, defScope s__law_struck, [], []⟩
abbrev s__law_partner : Stmt := top 31
def d__law_partner : DefG := ⟨fun K => He.ga K "_law_partner", "_law_partner", "_law_partner", defArgs s__law_partner, defBody s__law_partner, defScope s__law_partner, [], []⟩
abbrev s__law_told : Stmt := top 32
def d__law_told : DefG := ⟨fun K => He.ga K "_law_told", "_law_told", "_law_told", defArgs s__law_told, defBody s__law_told, defScope s__law_told, [], []⟩
abbrev s__law_pair_right : Stmt := top 33
def d__law_pair_right : DefG := ⟨fun K => He.ga K "_law_pair_right", "_law_pair_right", "_law_pair_right", defArgs s__law_pair_right, defBody s__law_pair_right, defScope s__law_pair_right, [], []⟩
abbrev s__law_refused_right : Stmt := top 34
def d__law_refused_right : DefG := ⟨fun K => He.ga K "_law_refused_right", "_law_refused_right", "_law_refused_right", defArgs s__law_refused_right, defBody s__law_refused_right, defScope s__law_refused_right, [], []⟩
abbrev s__law_long_right : Stmt := top 35
def d__law_long_right : DefG := ⟨fun K => He.ga K "_law_long_right", "_law_long_right", "_law_long_right", defArgs s__law_long_right, defBody s__law_long_right, defScope s__law_long_right, [], []⟩
abbrev s_law : Stmt := top 36
def d_law : DefG := ⟨fun K => He.ga K "law", "law", "law", defArgs s_law, defBody s_law, defScope s_law, [], []⟩
abbrev s_Word___init__ : Stmt := inClass (top 19) 0
def d_Word___init__ : DefG := ⟨fun K => He.ma K (He.ga K "Word") "__init__", "__init__", "Word.__init__", defArgs s_Word___init__, defBody s_Word___init__, defScope s_Word___init__, [.str ""], []⟩
abbrev s_Word_of : Stmt := inClass (top 19) 1
def d_Word_of : DefG := ⟨fun K => sAd K (He.ga K "Word") "of", "of", "Word.of", defArgs s_Word_of, defBody s_Word_of, defScope s_Word_of, [], []⟩
abbrev s_Word_read : Stmt := inClass (top 19) 2
def d_Word_read : DefG := ⟨fun K => sAd K (He.ga K "Word") "read", "read", "Word.read", defArgs s_Word_read, defBody s_Word_read, defScope s_Word_read, [], []⟩
abbrev s_Word_fits : Stmt := inClass (top 19) 6
def d_Word_fits : DefG := ⟨fun K => He.ma K (He.ga K "Word") "fits", "fits", "Word.fits", defArgs s_Word_fits, defBody s_Word_fits, defScope s_Word_fits, [], []⟩
abbrev s_Word___mul__ : Stmt := inClass (top 19) 10
def d_Word___mul__ : DefG := ⟨fun K => He.ma K (He.ga K "Word") "__mul__", "__mul__", "Word.__mul__", defArgs s_Word___mul__, defBody s_Word___mul__, defScope s_Word___mul__, [], []⟩
abbrev s_Word___invert__ : Stmt := inClass (top 19) 11
def d_Word___invert__ : DefG := ⟨fun K => He.ma K (He.ga K "Word") "__invert__", "__invert__", "Word.__invert__", defArgs s_Word___invert__, defBody s_Word___invert__, defScope s_Word___invert__, [], []⟩
abbrev s_Word___len__ : Stmt := inClass (top 19) 12
def d_Word___len__ : DefG := ⟨fun K => He.ma K (He.ga K "Word") "__len__", "__len__", "Word.__len__", defArgs s_Word___len__, defBody s_Word___len__, defScope s_Word___len__, [], []⟩
abbrev s_Word___iter__ : Stmt := inClass (top 19) 13
def d_Word___iter__ : DefG := ⟨fun K => He.ma K (He.ga K "Word") "__iter__", "__iter__", "Word.__iter__", defArgs s_Word___iter__, defBody s_Word___iter__, defScope s_Word___iter__, [], []⟩
abbrev s_Word___getitem__ : Stmt := inClass (top 19) 14
def d_Word___getitem__ : DefG := ⟨fun K => He.ma K (He.ga K "Word") "__getitem__", "__getitem__", "Word.__getitem__", defArgs s_Word___getitem__, defBody s_Word___getitem__, defScope s_Word___getitem__, [], []⟩
abbrev s_Word___lt__ : Stmt := inClass (top 19) 15
def d_Word___lt__ : DefG := ⟨fun K => He.ma K (He.ga K "Word") "__lt__", "__lt__", "Word.__lt__", defArgs s_Word___lt__, defBody s_Word___lt__, defScope s_Word___lt__, [], []⟩
abbrev s_Word___le__ : Stmt := inClass (top 19) 16
def d_Word___le__ : DefG := ⟨fun K => He.ma K (He.ga K "Word") "__le__", "__le__", "Word.__le__", defArgs s_Word___le__, defBody s_Word___le__, defScope s_Word___le__, [], []⟩
abbrev s_Word___gt__ : Stmt := inClass (top 19) 17
def d_Word___gt__ : DefG := ⟨fun K => He.ma K (He.ga K "Word") "__gt__", "__gt__", "Word.__gt__", defArgs s_Word___gt__, defBody s_Word___gt__, defScope s_Word___gt__, [], []⟩
abbrev s_Word___ge__ : Stmt := inClass (top 19) 18
def d_Word___ge__ : DefG := ⟨fun K => He.ma K (He.ga K "Word") "__ge__", "__ge__", "Word.__ge__", defArgs s_Word___ge__, defBody s_Word___ge__, defScope s_Word___ge__, [], []⟩
abbrev s_Word___eq__ : Stmt := inClass (top 19) 19
def d_Word___eq__ : DefG := ⟨fun K => He.ma K (He.ga K "Word") "__eq__", "__eq__", "Word.__eq__", defArgs s_Word___eq__, defBody s_Word___eq__, defScope s_Word___eq__, [], []⟩
abbrev s_Word___str__ : Stmt := inClass (top 19) 20
def d_Word___str__ : DefG := ⟨fun K => He.ma K (He.ga K "Word") "__str__", "__str__", "Word.__str__", defArgs s_Word___str__, defBody s_Word___str__, defScope s_Word___str__, [], []⟩
abbrev s_BadNumber : Stmt := inClass (top 3) 0
def d_BadNumber : DefG := ⟨fun K => He.ma K (He.ga K "BadNumber") "__init__", "__init__", "BadNumber.__init__", defArgs s_BadNumber, defBody s_BadNumber, defScope s_BadNumber, [], ["__class__"]⟩
abbrev s_BadWord : Stmt := inClass (top 4) 0
def d_BadWord : DefG := ⟨fun K => He.ma K (He.ga K "BadWord") "__init__", "__init__", "BadWord.__init__", defArgs s_BadWord, defBody s_BadWord, defScope s_BadWord, [], ["__class__"]⟩
abbrev s_TooMany : Stmt := inClass (top 5) 0
def d_TooMany : DefG := ⟨fun K => He.ma K (He.ga K "TooMany") "__init__", "__init__", "TooMany.__init__", defArgs s_TooMany, defBody s_TooMany, defScope s_TooMany, [], ["__class__"]⟩
abbrev s_BadText : Stmt := inClass (top 6) 0
def d_BadText : DefG := ⟨fun K => He.ma K (He.ga K "BadText") "__init__", "__init__", "BadText.__init__", defArgs s_BadText, defBody s_BadText, defScope s_BadText, [], ["__class__"]⟩
def tf : List He.Defn := [("_law_refused_right", none), ("_law_long_right", none)]
def fa : List He.Fa := [.glo "is_integer", .glo "is_letter", .glo "need_letters", .glo "need_row", .glo "undone", .glo "struck", .glo "product", .glo "need_word", .glo "is_row", .glo "lone", .glo "_law_pen", .glo "_law_draw", .glo "_law_pick", .glo "_law_heard", .glo "_law_undo", .glo "_law_row", .glo "_law_back", .glo "_law_struck", .glo "_law_partner", .glo "_law_told", .glo "_law_pair_right", .glo "_law_refused_right", .glo "_law_long_right", .glo "law", .glo "Word", .cls "Word", .mkr "Word", .meth "Word" "__init__", .meth "Word" "fits", .meth "Word" "__mul__", .meth "Word" "__invert__", .meth "Word" "__len__", .meth "Word" "__iter__", .meth "Word" "__getitem__", .meth "Word" "__lt__", .meth "Word" "__le__", .meth "Word" "__gt__", .meth "Word" "__ge__", .meth "Word" "__eq__", .meth "Word" "__str__", .glo "BallError", .glo "BadNumber", .glo "BadWord", .glo "TooMany", .glo "BadText", .free "ValueError", .free "staticmethod", .free "enumerate", .free "range", .free "isinstance", .free "int", .free "str", .free "len", .free "iter", .free "NotImplemented", .free "list", .free "bool", .free "abs", .free "super", .free "max", .str "LETTERS" "ABCDabcd", .int "MOST_LETTERS" 4000]
def dg : List DefG := [d_is_integer, d_is_letter, d_need_letters, d_need_row, d_undone, d_struck, d_product, d_need_word, d_is_row, d_lone, d__law_pen, d__law_draw, d__law_pick, d__law_heard, d__law_undo, d__law_row, d__law_back, d__law_struck, d__law_partner, d__law_told, d__law_pair_right, d__law_refused_right, d__law_long_right, d_law, d_Word___init__, d_Word_of, d_Word_read, d_Word_fits, d_Word___mul__, d_Word___invert__, d_Word___len__, d_Word___iter__, d_Word___getitem__, d_Word___lt__, d_Word___le__, d_Word___gt__, d_Word___ge__, d_Word___eq__, d_Word___str__, d_BadNumber, d_BadWord, d_TooMany, d_BadText]
def x_st_Word_of : PySem.W.Frag → Bool := fun K => statB K (He.ga K "Word") "of"
def x_st_Word_read : PySem.W.Frag → Bool := fun K => statB K (He.ga K "Word") "read"
def x_sup_BadNumber : PySem.W.Frag → Bool := fun K => supB prg.main.file K (He.ga K "BadNumber") (d_BadNumber.ad K) ["part"]
def x_sup_BadWord : PySem.W.Frag → Bool := fun K => supB prg.main.file K (He.ga K "BadWord") (d_BadWord.ad K) ["at"]
def x_sup_TooMany : PySem.W.Frag → Bool := fun K => supB prg.main.file K (He.ga K "TooMany") (d_TooMany.ad K) ["what", "most"]
def x_sup_BadText : PySem.W.Frag → Bool := fun K => supB prg.main.file K (He.ga K "BadText") (d_BadText.ad K) ["item"]
def x_ty_Word : PySem.W.Frag → Bool := fun K => tyB K (He.ga K "Word")
def x_ne_Word : PySem.W.Frag → Bool := fun K => eqO (PySem.W.findIn K (.ref (He.ga K "Word")) "__ne__") (some (some (.builtin "object.__ne__")))
def x_dec_Word : PySem.W.Frag → Bool := fun K => decB K (He.ga K "Word")
def x_rm_Word : PySem.W.Frag → Bool := fun K => eqO (PySem.W.findIn K (.ref (He.ga K "Word")) "__rmul__") (some none)
def x_sf_Word : PySem.W.Frag → Bool := fun K => PySem.W.selfFirst K (He.ga K "Word")
def x_fct : PySem.W.Frag → Bool := fun K => PL.fctB K [20] [1, 8, 11, 12] [20, 11, 8] [0]
def x_tabs : PySem.W.Frag → Bool := fun K => decide ((tf.map fun p => (He.cT K p).2).Nodup)
def exl : List (PySem.W.Frag → Bool) := [x_st_Word_of, x_st_Word_read, x_sup_BadNumber, x_sup_BadWord, x_sup_TooMany, x_sup_BadText, x_ty_Word, x_ne_Word, x_dec_Word, x_rm_Word, x_sf_Word, x_fct, x_tabs]
def exA (K : PySem.W.Frag) : Bool := exl.all fun f => f K
abbrev Row : PySem.W.OpenRow := PySem.W.OpenLaw.row lw
abbrev hk : PySem.W.Hook := hookS 5 fa dg [] tf exA
def ob (s : PySem.W.SharedT) : AlS := obsS 5 fa dg [] tf exA (HandSHeadRun.getT s)
theorem ob_eq (s : PySem.W.SharedT) : ob s = hk.obs s.abs := obsS_eq (HandSHeadRun.getT_eq s)
def loose : List Str := (prg.main.scope.names.map (·.1)).filter (· != "law")
def lawAt : Nat := 36
theorem run (w : World) : HandSHeadRun.RunEq Row (PySem.W.view (Row).prog [36]) hk ob 8000 loose w := by
  intro os
  kernel_rfl
/-- what is known of the top -/
structure Ctx (w : World) (K : PySem.W.Frag) (mg : Str → Option Value) : Prop where
  ex : ∃ h : Heap, K.In h ∧ h.Ns mainGlobals mg ∧ SaysS fa dg [] tf exA w h K
section
variable {w : World} {K : PySem.W.Frag} {mg : Str → Option Value}
theorem Ctx.fact (C : Ctx w K mg) (i : Nat) {f : He.Fa} (h : fa[i]? = some f) : f.ok K = true := by
  obtain ⟨h0, X, G, S⟩ := C.ex
  exact S.fa f (List.mem_of_getElem? h)
theorem Ctx.more (C : Ctx w K mg) (i : Nat) {f : PySem.W.Frag → Bool} (h : exl[i]? = some f) : f K = true := by
  obtain ⟨h0, X, G, S⟩ := C.ex
  exact List.all_eq_true.mp S.ex f (List.mem_of_getElem? h)
theorem Ctx.at_ (C : Ctx w K mg) (i : Nat) {d : DefG} (h : dg[i]? = some d) : d.At K := by
  obtain ⟨h0, X, G, S⟩ := C.ex
  exact S.dg d (List.mem_of_getElem? h)
theorem g_is_integer (C : Ctx w K mg) : mg "is_integer" = some (.ref (He.ga K "is_integer")) := by
  obtain ⟨h0, X, G, S⟩ := C.ex
  exact He.glo_ok X G (C.fact 0 (f := .glo "is_integer") rfl)
theorem g_is_letter (C : Ctx w K mg) : mg "is_letter" = some (.ref (He.ga K "is_letter")) := by
  obtain ⟨h0, X, G, S⟩ := C.ex
  exact He.glo_ok X G (C.fact 1 (f := .glo "is_letter") rfl)
theorem g_need_letters (C : Ctx w K mg) : mg "need_letters" = some (.ref (He.ga K "need_letters")) := by
  obtain ⟨h0, X, G, S⟩ := C.ex
  exact He.glo_ok X G (C.fact 2 (f := .glo "need_letters") rfl)
theorem g_need_row (C : Ctx w K mg) : mg "need_row" = some (.ref (He.ga K "need_row")) := by
  obtain ⟨h0, X, G, S⟩ := C.ex
  exact He.glo_ok X G (C.fact 3 (f := .glo "need_row") rfl)
theorem g_undone (C : Ctx w K mg) : mg "undone" = some (.ref (He.ga K "undone")) := by
  obtain ⟨h0, X, G, S⟩ := C.ex
  exact He.glo_ok X G (C.fact 4 (f := .glo "undone") rfl)
theorem g_struck (C : Ctx w K mg) : mg "struck" = some (.ref (He.ga K "struck")) := by
  obtain ⟨h0, X, G, S⟩ := C.ex
  exact He.glo_ok X G (C.fact 5 (f := .glo "struck") rfl)
theorem g_product (C : Ctx w K mg) : mg "product" = some (.ref (He.ga K "product")) := by
  obtain ⟨h0, X, G, S⟩ := C.ex
  exact He.glo_ok X G (C.fact 6 (f := .glo "product") rfl)
theorem g_need_word (C : Ctx w K mg) : mg "need_word" = some (.ref (He.ga K "need_word")) := by
  obtain ⟨h0, X, G, S⟩ := C.ex
  exact He.glo_ok X G (C.fact 7 (f := .glo "need_word") rfl)
theorem g_is_row (C : Ctx w K mg) : mg "is_row" = some (.ref (He.ga K "is_row")) := by
  obtain ⟨h0, X, G, S⟩ := C.ex
  exact He.glo_ok X G (C.fact 8 (f := .glo "is_row") rfl)
theorem g_lone (C : Ctx w K mg) : mg "lone" = some (.ref (He.ga K "lone")) := by
  obtain ⟨h0, X, G, S⟩ := C.ex
  exact He.glo_ok X G (C.fact 9 (f := .glo "lone") rfl)
theorem g__law_pen (C : Ctx w K mg) : mg "_law_pen" = some (.ref (He.ga K "_law_pen")) := by
  obtain ⟨h0, X, G, S⟩ := C.ex
  exact He.glo_ok X G (C.fact 10 (f := .glo "_law_pen") rfl)
theorem g__law_draw (C : Ctx w K mg) : mg "_law_draw" = some (.ref (He.ga K "_law_draw")) := by
  obtain ⟨h0, X, G, S⟩ := C.ex
  exact He.glo_ok X G (C.fact 11 (f := .glo "_law_draw") rfl)
theorem g__law_pick (C : Ctx w K mg) : mg "_law_pick" = some (.ref (He.ga K "_law_pick")) := by
  obtain ⟨h0, X, G, S⟩ := C.ex
  exact He.glo_ok X G (C.fact 12 (f := .glo "_law_pick") rfl)
theorem g__law_heard (C : Ctx w K mg) : mg "_law_heard" = some (.ref (He.ga K "_law_heard")) := by
  obtain ⟨h0, X, G, S⟩ := C.ex
  exact He.glo_ok X G (C.fact 13 (f := .glo "_law_heard") rfl)
theorem g__law_undo (C : Ctx w K mg) : mg "_law_undo" = some (.ref (He.ga K "_law_undo")) := by
  obtain ⟨h0, X, G, S⟩ := C.ex
  exact He.glo_ok X G (C.fact 14 (f := .glo "_law_undo") rfl)
theorem g__law_row (C : Ctx w K mg) : mg "_law_row" = some (.ref (He.ga K "_law_row")) := by
  obtain ⟨h0, X, G, S⟩ := C.ex
  exact He.glo_ok X G (C.fact 15 (f := .glo "_law_row") rfl)
theorem g__law_back (C : Ctx w K mg) : mg "_law_back" = some (.ref (He.ga K "_law_back")) := by
  obtain ⟨h0, X, G, S⟩ := C.ex
  exact He.glo_ok X G (C.fact 16 (f := .glo "_law_back") rfl)
theorem g__law_struck (C : Ctx w K mg) : mg "_law_struck" = some (.ref (He.ga K "_law_struck")) := by
  obtain ⟨h0, X, G, S⟩ := C.ex
  exact He.glo_ok X G (C.fact 17 (f := .glo "_law_struck") rfl)
theorem g__law_partner (C : Ctx w K mg) : mg "_law_partner" = some (.ref (He.ga K "_law_partner")) := by
  obtain ⟨h0, X, G, S⟩ := C.ex
  exact He.glo_ok X G (C.fact 18 (f := .glo "_law_partner") rfl)
theorem g__law_told (C : Ctx w K mg) : mg "_law_told" = some (.ref (He.ga K "_law_told")) := by
  obtain ⟨h0, X, G, S⟩ := C.ex
  exact He.glo_ok X G (C.fact 19 (f := .glo "_law_told") rfl)
theorem g__law_pair_right (C : Ctx w K mg) : mg "_law_pair_right" = some (.ref (He.ga K "_law_pair_right")) := by
  obtain ⟨h0, X, G, S⟩ := C.ex
  exact He.glo_ok X G (C.fact 20 (f := .glo "_law_pair_right") rfl)
theorem g__law_refused_right (C : Ctx w K mg) : mg "_law_refused_right" = some (.ref (He.ga K "_law_refused_right")) := by
  obtain ⟨h0, X, G, S⟩ := C.ex
  exact He.glo_ok X G (C.fact 21 (f := .glo "_law_refused_right") rfl)
theorem g__law_long_right (C : Ctx w K mg) : mg "_law_long_right" = some (.ref (He.ga K "_law_long_right")) := by
  obtain ⟨h0, X, G, S⟩ := C.ex
  exact He.glo_ok X G (C.fact 22 (f := .glo "_law_long_right") rfl)
theorem g_law (C : Ctx w K mg) : mg "law" = some (.ref (He.ga K "law")) := by
  obtain ⟨h0, X, G, S⟩ := C.ex
  exact He.glo_ok X G (C.fact 23 (f := .glo "law") rfl)
theorem g_Word (C : Ctx w K mg) : mg "Word" = some (.ref (He.ga K "Word")) := by
  obtain ⟨h0, X, G, S⟩ := C.ex
  exact He.glo_ok X G (C.fact 24 (f := .glo "Word") rfl)
theorem cl_Word (C : Ctx w K mg) : Cls K (He.ga K "Word") := He.cls_ok (C.fact 25 (f := .cls "Word") rfl)
theorem mk_Word (C : Ctx w K mg) : Mk K (He.ga K "Word") (He.ma K (He.ga K "Word") "__init__") := He.mkr_ok (C.fact 26 (f := .mkr "Word") rfl)
theorem me_Word___init__ (C : Ctx w K mg) : Meth K (He.ga K "Word") "__init__" (He.ma K (He.ga K "Word") "__init__") := He.meth_ok (C.fact 27 (f := .meth "Word" "__init__") rfl)
theorem me_Word_fits (C : Ctx w K mg) : Meth K (He.ga K "Word") "fits" (He.ma K (He.ga K "Word") "fits") := He.meth_ok (C.fact 28 (f := .meth "Word" "fits") rfl)
theorem me_Word___mul__ (C : Ctx w K mg) : Meth K (He.ga K "Word") "__mul__" (He.ma K (He.ga K "Word") "__mul__") := He.meth_ok (C.fact 29 (f := .meth "Word" "__mul__") rfl)
theorem me_Word___invert__ (C : Ctx w K mg) : Meth K (He.ga K "Word") "__invert__" (He.ma K (He.ga K "Word") "__invert__") := He.meth_ok (C.fact 30 (f := .meth "Word" "__invert__") rfl)
theorem me_Word___len__ (C : Ctx w K mg) : Meth K (He.ga K "Word") "__len__" (He.ma K (He.ga K "Word") "__len__") := He.meth_ok (C.fact 31 (f := .meth "Word" "__len__") rfl)
theorem me_Word___iter__ (C : Ctx w K mg) : Meth K (He.ga K "Word") "__iter__" (He.ma K (He.ga K "Word") "__iter__") := He.meth_ok (C.fact 32 (f := .meth "Word" "__iter__") rfl)
theorem me_Word___getitem__ (C : Ctx w K mg) : Meth K (He.ga K "Word") "__getitem__" (He.ma K (He.ga K "Word") "__getitem__") := He.meth_ok (C.fact 33 (f := .meth "Word" "__getitem__") rfl)
theorem me_Word___lt__ (C : Ctx w K mg) : Meth K (He.ga K "Word") "__lt__" (He.ma K (He.ga K "Word") "__lt__") := He.meth_ok (C.fact 34 (f := .meth "Word" "__lt__") rfl)
theorem me_Word___le__ (C : Ctx w K mg) : Meth K (He.ga K "Word") "__le__" (He.ma K (He.ga K "Word") "__le__") := He.meth_ok (C.fact 35 (f := .meth "Word" "__le__") rfl)
theorem me_Word___gt__ (C : Ctx w K mg) : Meth K (He.ga K "Word") "__gt__" (He.ma K (He.ga K "Word") "__gt__") := He.meth_ok (C.fact 36 (f := .meth "Word" "__gt__") rfl)
theorem me_Word___ge__ (C : Ctx w K mg) : Meth K (He.ga K "Word") "__ge__" (He.ma K (He.ga K "Word") "__ge__") := He.meth_ok (C.fact 37 (f := .meth "Word" "__ge__") rfl)
theorem me_Word___eq__ (C : Ctx w K mg) : Meth K (He.ga K "Word") "__eq__" (He.ma K (He.ga K "Word") "__eq__") := He.meth_ok (C.fact 38 (f := .meth "Word" "__eq__") rfl)
theorem me_Word___str__ (C : Ctx w K mg) : Meth K (He.ga K "Word") "__str__" (He.ma K (He.ga K "Word") "__str__") := He.meth_ok (C.fact 39 (f := .meth "Word" "__str__") rfl)
theorem g_BallError (C : Ctx w K mg) : mg "BallError" = some (.ref (He.ga K "BallError")) := by
  obtain ⟨h0, X, G, S⟩ := C.ex
  exact He.glo_ok X G (C.fact 40 (f := .glo "BallError") rfl)
theorem g_BadNumber (C : Ctx w K mg) : mg "BadNumber" = some (.ref (He.ga K "BadNumber")) := by
  obtain ⟨h0, X, G, S⟩ := C.ex
  exact He.glo_ok X G (C.fact 41 (f := .glo "BadNumber") rfl)
theorem g_BadWord (C : Ctx w K mg) : mg "BadWord" = some (.ref (He.ga K "BadWord")) := by
  obtain ⟨h0, X, G, S⟩ := C.ex
  exact He.glo_ok X G (C.fact 42 (f := .glo "BadWord") rfl)
theorem g_TooMany (C : Ctx w K mg) : mg "TooMany" = some (.ref (He.ga K "TooMany")) := by
  obtain ⟨h0, X, G, S⟩ := C.ex
  exact He.glo_ok X G (C.fact 43 (f := .glo "TooMany") rfl)
theorem g_BadText (C : Ctx w K mg) : mg "BadText" = some (.ref (He.ga K "BadText")) := by
  obtain ⟨h0, X, G, S⟩ := C.ex
  exact He.glo_ok X G (C.fact 44 (f := .glo "BadText") rfl)
theorem b_ValueError (C : Ctx w K mg) : mg "ValueError" = none := by
  obtain ⟨h0, X, G, S⟩ := C.ex
  exact He.free_ok X G (C.fact 45 (f := .free "ValueError") rfl)
theorem b_staticmethod (C : Ctx w K mg) : mg "staticmethod" = none := by
  obtain ⟨h0, X, G, S⟩ := C.ex
  exact He.free_ok X G (C.fact 46 (f := .free "staticmethod") rfl)
theorem b_enumerate (C : Ctx w K mg) : mg "enumerate" = none := by
  obtain ⟨h0, X, G, S⟩ := C.ex
  exact He.free_ok X G (C.fact 47 (f := .free "enumerate") rfl)
theorem b_range (C : Ctx w K mg) : mg "range" = none := by
  obtain ⟨h0, X, G, S⟩ := C.ex
  exact He.free_ok X G (C.fact 48 (f := .free "range") rfl)
theorem b_isinstance (C : Ctx w K mg) : mg "isinstance" = none := by
  obtain ⟨h0, X, G, S⟩ := C.ex
  exact He.free_ok X G (C.fact 49 (f := .free "isinstance") rfl)
theorem b_int (C : Ctx w K mg) : mg "int" = none := by
  obtain ⟨h0, X, G, S⟩ := C.ex
  exact He.free_ok X G (C.fact 50 (f := .free "int") rfl)
theorem b_str (C : Ctx w K mg) : mg "str" = none := by
  obtain ⟨h0, X, G, S⟩ := C.ex
  exact He.free_ok X G (C.fact 51 (f := .free "str") rfl)
theorem b_len (C : Ctx w K mg) : mg "len" = none := by
  obtain ⟨h0, X, G, S⟩ := C.ex
  exact He.free_ok X G (C.fact 52 (f := .free "len") rfl)
theorem b_iter (C : Ctx w K mg) : mg "iter" = none := by
  obtain ⟨h0, X, G, S⟩ := C.ex
  exact He.free_ok X G (C.fact 53 (f := .free "iter") rfl)
theorem b_NotImplemented (C : Ctx w K mg) : mg "NotImplemented" = none := by
  obtain ⟨h0, X, G, S⟩ := C.ex
  exact He.free_ok X G (C.fact 54 (f := .free "NotImplemented") rfl)
theorem b_list (C : Ctx w K mg) : mg "list" = none := by
  obtain ⟨h0, X, G, S⟩ := C.ex
  exact He.free_ok X G (C.fact 55 (f := .free "list") rfl)
theorem b_bool (C : Ctx w K mg) : mg "bool" = none := by
  obtain ⟨h0, X, G, S⟩ := C.ex
  exact He.free_ok X G (C.fact 56 (f := .free "bool") rfl)
theorem b_abs (C : Ctx w K mg) : mg "abs" = none := by
  obtain ⟨h0, X, G, S⟩ := C.ex
  exact He.free_ok X G (C.fact 57 (f := .free "abs") rfl)
theorem b_super (C : Ctx w K mg) : mg "super" = none := by
  obtain ⟨h0, X, G, S⟩ := C.ex
  exact He.free_ok X G (C.fact 58 (f := .free "super") rfl)
theorem b_max (C : Ctx w K mg) : mg "max" = none := by
  obtain ⟨h0, X, G, S⟩ := C.ex
  exact He.free_ok X G (C.fact 59 (f := .free "max") rfl)
theorem c_LETTERS (C : Ctx w K mg) : ∃ t, mg "LETTERS" = some (.str "ABCDabcd" t) := by
  obtain ⟨h0, X, G, S⟩ := C.ex
  exact He.str_ok X G (C.fact 60 (f := .str "LETTERS" "ABCDabcd") rfl)
theorem c_MOST_LETTERS (C : Ctx w K mg) : ∃ t, mg "MOST_LETTERS" = some (.int 4000 t) := by
  obtain ⟨h0, X, G, S⟩ := C.ex
  exact He.int_ok X G (C.fact 61 (f := .int "MOST_LETTERS" 4000) rfl)
theorem e_st_Word_of (C : Ctx w K mg) : x_st_Word_of K = true := C.more 0 rfl
theorem st_Word_of (C : Ctx w K mg) : SMet K (He.ga K "Word") "of" (sAd K (He.ga K "Word") "of") := statB_ok (e_st_Word_of C)
theorem e_st_Word_read (C : Ctx w K mg) : x_st_Word_read K = true := C.more 1 rfl
theorem st_Word_read (C : Ctx w K mg) : SMet K (He.ga K "Word") "read" (sAd K (He.ga K "Word") "read") := statB_ok (e_st_Word_read C)
theorem e_sup_BadNumber (C : Ctx w K mg) : x_sup_BadNumber K = true := C.more 2 rfl
theorem e_sup_BadWord (C : Ctx w K mg) : x_sup_BadWord K = true := C.more 3 rfl
theorem e_sup_TooMany (C : Ctx w K mg) : x_sup_TooMany K = true := C.more 4 rfl
theorem e_sup_BadText (C : Ctx w K mg) : x_sup_BadText K = true := C.more 5 rfl
theorem e_ty_Word (C : Ctx w K mg) : x_ty_Word K = true := C.more 6 rfl
theorem ty_Word (C : Ctx w K mg) : TyC K (He.ga K "Word") := tyB_ok (e_ty_Word C)
theorem e_ne_Word (C : Ctx w K mg) : x_ne_Word K = true := C.more 7 rfl
theorem ne_Word (C : Ctx w K mg) : PySem.W.findIn K (.ref (He.ga K "Word")) "__ne__" = some (some (.builtin "object.__ne__")) := of_decide_eq_true (e_ne_Word C)
theorem e_dec_Word (C : Ctx w K mg) : x_dec_Word K = true := C.more 8 rfl
theorem dec_Word (C : Ctx w K mg) : DecC K (He.ga K "Word") := decB_ok (e_dec_Word C)
theorem e_rm_Word (C : Ctx w K mg) : x_rm_Word K = true := C.more 9 rfl
theorem rm_Word (C : Ctx w K mg) : PySem.W.findIn K (.ref (He.ga K "Word")) "__rmul__" = some none := of_decide_eq_true (e_rm_Word C)
theorem e_sf_Word (C : Ctx w K mg) : x_sf_Word K = true := C.more 10 rfl
theorem sf_Word (C : Ctx w K mg) : PySem.W.selfFirst K (He.ga K "Word") = true := e_sf_Word C
theorem e_fct (C : Ctx w K mg) : x_fct K = true := C.more 11 rfl
theorem e_tabs (C : Ctx w K mg) : x_tabs K = true := C.more 12 rfl
theorem a_is_integer (C : Ctx w K mg) : (d_is_integer).At K := C.at_ 0 rfl
theorem a_is_letter (C : Ctx w K mg) : (d_is_letter).At K := C.at_ 1 rfl
theorem a_need_letters (C : Ctx w K mg) : (d_need_letters).At K := C.at_ 2 rfl
theorem a_need_row (C : Ctx w K mg) : (d_need_row).At K := C.at_ 3 rfl
theorem a_undone (C : Ctx w K mg) : (d_undone).At K := C.at_ 4 rfl
theorem a_struck (C : Ctx w K mg) : (d_struck).At K := C.at_ 5 rfl
theorem a_product (C : Ctx w K mg) : (d_product).At K := C.at_ 6 rfl
theorem a_need_word (C : Ctx w K mg) : (d_need_word).At K := C.at_ 7 rfl
theorem a_is_row (C : Ctx w K mg) : (d_is_row).At K := C.at_ 8 rfl
theorem a_lone (C : Ctx w K mg) : (d_lone).At K := C.at_ 9 rfl
theorem a__law_pen (C : Ctx w K mg) : (d__law_pen).At K := C.at_ 10 rfl
theorem a__law_draw (C : Ctx w K mg) : (d__law_draw).At K := C.at_ 11 rfl
theorem a__law_pick (C : Ctx w K mg) : (d__law_pick).At K := C.at_ 12 rfl
theorem a__law_heard (C : Ctx w K mg) : (d__law_heard).At K := C.at_ 13 rfl
theorem a__law_undo (C : Ctx w K mg) : (d__law_undo).At K := C.at_ 14 rfl
theorem a__law_row (C : Ctx w K mg) : (d__law_row).At K := C.at_ 15 rfl
theorem a__law_back (C : Ctx w K mg) : (d__law_back).At K := C.at_ 16 rfl
theorem a__law_struck (C : Ctx w K mg) : (d__law_struck).At K := C.at_ 17 rfl
theorem a__law_partner (C : Ctx w K mg) : (d__law_partner).At K := C.at_ 18 rfl
theorem a__law_told (C : Ctx w K mg) : (d__law_told).At K := C.at_ 19 rfl
theorem a__law_pair_right (C : Ctx w K mg) : (d__law_pair_right).At K := C.at_ 20 rfl
theorem a__law_refused_right (C : Ctx w K mg) : (d__law_refused_right).At K := C.at_ 21 rfl
theorem a__law_long_right (C : Ctx w K mg) : (d__law_long_right).At K := C.at_ 22 rfl
theorem a_law (C : Ctx w K mg) : (d_law).At K := C.at_ 23 rfl
theorem a_Word___init__ (C : Ctx w K mg) : (d_Word___init__).At K := C.at_ 24 rfl
theorem a_Word_of (C : Ctx w K mg) : (d_Word_of).At K := C.at_ 25 rfl
theorem a_Word_read (C : Ctx w K mg) : (d_Word_read).At K := C.at_ 26 rfl
theorem a_Word_fits (C : Ctx w K mg) : (d_Word_fits).At K := C.at_ 27 rfl
theorem a_Word___mul__ (C : Ctx w K mg) : (d_Word___mul__).At K := C.at_ 28 rfl
theorem a_Word___invert__ (C : Ctx w K mg) : (d_Word___invert__).At K := C.at_ 29 rfl
theorem a_Word___len__ (C : Ctx w K mg) : (d_Word___len__).At K := C.at_ 30 rfl
theorem a_Word___iter__ (C : Ctx w K mg) : (d_Word___iter__).At K := C.at_ 31 rfl
theorem a_Word___getitem__ (C : Ctx w K mg) : (d_Word___getitem__).At K := C.at_ 32 rfl
theorem a_Word___lt__ (C : Ctx w K mg) : (d_Word___lt__).At K := C.at_ 33 rfl
theorem a_Word___le__ (C : Ctx w K mg) : (d_Word___le__).At K := C.at_ 34 rfl
theorem a_Word___gt__ (C : Ctx w K mg) : (d_Word___gt__).At K := C.at_ 35 rfl
theorem a_Word___ge__ (C : Ctx w K mg) : (d_Word___ge__).At K := C.at_ 36 rfl
theorem a_Word___eq__ (C : Ctx w K mg) : (d_Word___eq__).At K := C.at_ 37 rfl
theorem a_Word___str__ (C : Ctx w K mg) : (d_Word___str__).At K := C.at_ 38 rfl
theorem a_BadNumber (C : Ctx w K mg) : (d_BadNumber).At K := C.at_ 39 rfl
theorem a_BadWord (C : Ctx w K mg) : (d_BadWord).At K := C.at_ 40 rfl
theorem a_TooMany (C : Ctx w K mg) : (d_TooMany).At K := C.at_ 41 rfl
theorem a_BadText (C : Ctx w K mg) : (d_BadText).At K := C.at_ 42 rfl
theorem f_is_integer (C : Ctx w K mg) : ∃ fd, FunD K "is_integer" "is_integer" (defArgs s_is_integer) (defBody s_is_integer) (defScope s_is_integer) (d_is_integer.dfl.map (He.Dv.v K)) [] (He.ga K "is_integer") fd := (a_is_integer C).funD rfl
theorem f_is_letter (C : Ctx w K mg) : ∃ fd, FunD K "is_letter" "is_letter" (defArgs s_is_letter) (defBody s_is_letter) (defScope s_is_letter) (d_is_letter.dfl.map (He.Dv.v K)) [] (He.ga K "is_letter") fd := (a_is_letter C).funD rfl
theorem f_need_letters (C : Ctx w K mg) : ∃ fd, FunD K "need_letters" "need_letters" (defArgs s_need_letters) (defBody s_need_letters) (defScope s_need_letters) (d_need_letters.dfl.map (He.Dv.v K)) [] (He.ga K "need_letters") fd := (a_need_letters C).funD rfl
theorem f_need_row (C : Ctx w K mg) : ∃ fd, FunD K "need_row" "need_row" (defArgs s_need_row) (defBody s_need_row) (defScope s_need_row) (d_need_row.dfl.map (He.Dv.v K)) [] (He.ga K "need_row") fd := (a_need_row C).funD rfl
theorem f_undone (C : Ctx w K mg) : ∃ fd, FunD K "undone" "undone" (defArgs s_undone) (defBody s_undone) (defScope s_undone) (d_undone.dfl.map (He.Dv.v K)) [] (He.ga K "undone") fd := (a_undone C).funD rfl
theorem f_struck (C : Ctx w K mg) : ∃ fd, FunD K "struck" "struck" (defArgs s_struck) (defBody s_struck) (defScope s_struck) (d_struck.dfl.map (He.Dv.v K)) [] (He.ga K "struck") fd := (a_struck C).funD rfl
theorem f_product (C : Ctx w K mg) : ∃ fd, FunD K "product" "product" (defArgs s_product) (defBody s_product) (defScope s_product) (d_product.dfl.map (He.Dv.v K)) [] (He.ga K "product") fd := (a_product C).funD rfl
theorem f_need_word (C : Ctx w K mg) : ∃ fd, FunD K "need_word" "need_word" (defArgs s_need_word) (defBody s_need_word) (defScope s_need_word) (d_need_word.dfl.map (He.Dv.v K)) [] (He.ga K "need_word") fd := (a_need_word C).funD rfl
theorem f_is_row (C : Ctx w K mg) : ∃ fd, FunD K "is_row" "is_row" (defArgs s_is_row) (defBody s_is_row) (defScope s_is_row) (d_is_row.dfl.map (He.Dv.v K)) [] (He.ga K "is_row") fd := (a_is_row C).funD rfl
theorem f_lone (C : Ctx w K mg) : ∃ fd, FunD K "lone" "lone" (defArgs s_lone) (defBody s_lone) (defScope s_lone) (d_lone.dfl.map (He.Dv.v K)) [] (He.ga K "lone") fd := (a_lone C).funD rfl
theorem f__law_pen (C : Ctx w K mg) : ∃ fd, FunD K "_law_pen" "_law_pen" (defArgs s__law_pen) (defBody s__law_pen) (defScope s__law_pen) (d__law_pen.dfl.map (He.Dv.v K)) [] (He.ga K "_law_pen") fd := (a__law_pen C).funD rfl
theorem f__law_draw (C : Ctx w K mg) : ∃ fd, FunD K "_law_draw" "_law_draw" (defArgs s__law_draw) (defBody s__law_draw) (defScope s__law_draw) (d__law_draw.dfl.map (He.Dv.v K)) [] (He.ga K "_law_draw") fd := (a__law_draw C).funD rfl
theorem f__law_pick (C : Ctx w K mg) : ∃ fd, FunD K "_law_pick" "_law_pick" (defArgs s__law_pick) (defBody s__law_pick) (defScope s__law_pick) (d__law_pick.dfl.map (He.Dv.v K)) [] (He.ga K "_law_pick") fd := (a__law_pick C).funD rfl
theorem f__law_heard (C : Ctx w K mg) : ∃ fd, FunD K "_law_heard" "_law_heard" (defArgs s__law_heard) (defBody s__law_heard) (defScope s__law_heard) (d__law_heard.dfl.map (He.Dv.v K)) [] (He.ga K "_law_heard") fd := (a__law_heard C).funD rfl
theorem f__law_undo (C : Ctx w K mg) : ∃ fd, FunD K "_law_undo" "_law_undo" (defArgs s__law_undo) (defBody s__law_undo) (defScope s__law_undo) (d__law_undo.dfl.map (He.Dv.v K)) [] (He.ga K "_law_undo") fd := (a__law_undo C).funD rfl
theorem f__law_row (C : Ctx w K mg) : ∃ fd, FunD K "_law_row" "_law_row" (defArgs s__law_row) (defBody s__law_row) (defScope s__law_row) (d__law_row.dfl.map (He.Dv.v K)) [] (He.ga K "_law_row") fd := (a__law_row C).funD rfl
theorem f__law_back (C : Ctx w K mg) : ∃ fd, FunD K "_law_back" "_law_back" (defArgs s__law_back) (defBody s__law_back) (defScope s__law_back) (d__law_back.dfl.map (He.Dv.v K)) [] (He.ga K "_law_back") fd := (a__law_back C).funD rfl
theorem f__law_struck (C : Ctx w K mg) : ∃ fd, FunD K "_law_struck" "_law_struck" (defArgs s__law_struck) (defBody s__law_struck) (defScope s__law_struck) (d__law_struck.dfl.map (He.Dv.v K)) [] (He.ga K "_law_struck") fd := (a__law_struck C).funD rfl
theorem f__law_partner (C : Ctx w K mg) : ∃ fd, FunD K "_law_partner" "_law_partner" (defArgs s__law_partner) (defBody s__law_partner) (defScope s__law_partner) (d__law_partner.dfl.map (He.Dv.v K)) [] (He.ga K "_law_partner") fd := (a__law_partner C).funD rfl
theorem f__law_told (C : Ctx w K mg) : ∃ fd, FunD K "_law_told" "_law_told" (defArgs s__law_told) (defBody s__law_told) (defScope s__law_told) (d__law_told.dfl.map (He.Dv.v K)) [] (He.ga K "_law_told") fd := (a__law_told C).funD rfl
theorem f__law_pair_right (C : Ctx w K mg) : ∃ fd, FunD K "_law_pair_right" "_law_pair_right" (defArgs s__law_pair_right) (defBody s__law_pair_right) (defScope s__law_pair_right) (d__law_pair_right.dfl.map (He.Dv.v K)) [] (He.ga K "_law_pair_right") fd := (a__law_pair_right C).funD rfl
theorem f__law_refused_right (C : Ctx w K mg) : ∃ fd, FunD K "_law_refused_right" "_law_refused_right" (defArgs s__law_refused_right) (defBody s__law_refused_right) (defScope s__law_refused_right) (d__law_refused_right.dfl.map (He.Dv.v K)) [] (He.ga K "_law_refused_right") fd := (a__law_refused_right C).funD rfl
theorem f__law_long_right (C : Ctx w K mg) : ∃ fd, FunD K "_law_long_right" "_law_long_right" (defArgs s__law_long_right) (defBody s__law_long_right) (defScope s__law_long_right) (d__law_long_right.dfl.map (He.Dv.v K)) [] (He.ga K "_law_long_right") fd := (a__law_long_right C).funD rfl
theorem f_law (C : Ctx w K mg) : ∃ fd, FunD K "law" "law" (defArgs s_law) (defBody s_law) (defScope s_law) (d_law.dfl.map (He.Dv.v K)) [] (He.ga K "law") fd := (a_law C).funD rfl
theorem f_Word___init__ (C : Ctx w K mg) : ∃ fd, FunD K "__init__" "Word.__init__" (defArgs s_Word___init__) (defBody s_Word___init__) (defScope s_Word___init__) (d_Word___init__.dfl.map (He.Dv.v K)) [] (d_Word___init__.ad K) fd := (a_Word___init__ C).funD rfl
theorem f_Word_of (C : Ctx w K mg) : ∃ fd, FunD K "of" "Word.of" (defArgs s_Word_of) (defBody s_Word_of) (defScope s_Word_of) (d_Word_of.dfl.map (He.Dv.v K)) [] (d_Word_of.ad K) fd := (a_Word_of C).funD rfl
theorem f_Word_read (C : Ctx w K mg) : ∃ fd, FunD K "read" "Word.read" (defArgs s_Word_read) (defBody s_Word_read) (defScope s_Word_read) (d_Word_read.dfl.map (He.Dv.v K)) [] (d_Word_read.ad K) fd := (a_Word_read C).funD rfl
theorem f_Word_fits (C : Ctx w K mg) : ∃ fd, FunD K "fits" "Word.fits" (defArgs s_Word_fits) (defBody s_Word_fits) (defScope s_Word_fits) (d_Word_fits.dfl.map (He.Dv.v K)) [] (d_Word_fits.ad K) fd := (a_Word_fits C).funD rfl
theorem f_Word___mul__ (C : Ctx w K mg) : ∃ fd, FunD K "__mul__" "Word.__mul__" (defArgs s_Word___mul__) (defBody s_Word___mul__) (defScope s_Word___mul__) (d_Word___mul__.dfl.map (He.Dv.v K)) [] (d_Word___mul__.ad K) fd := (a_Word___mul__ C).funD rfl
theorem f_Word___invert__ (C : Ctx w K mg) : ∃ fd, FunD K "__invert__" "Word.__invert__" (defArgs s_Word___invert__) (defBody s_Word___invert__) (defScope s_Word___invert__) (d_Word___invert__.dfl.map (He.Dv.v K)) [] (d_Word___invert__.ad K) fd := (a_Word___invert__ C).funD rfl
theorem f_Word___len__ (C : Ctx w K mg) : ∃ fd, FunD K "__len__" "Word.__len__" (defArgs s_Word___len__) (defBody s_Word___len__) (defScope s_Word___len__) (d_Word___len__.dfl.map (He.Dv.v K)) [] (d_Word___len__.ad K) fd := (a_Word___len__ C).funD rfl
theorem f_Word___iter__ (C : Ctx w K mg) : ∃ fd, FunD K "__iter__" "Word.__iter__" (defArgs s_Word___iter__) (defBody s_Word___iter__) (defScope s_Word___iter__) (d_Word___iter__.dfl.map (He.Dv.v K)) [] (d_Word___iter__.ad K) fd := (a_Word___iter__ C).funD rfl
theorem f_Word___getitem__ (C : Ctx w K mg) : ∃ fd, FunD K "__getitem__" "Word.__getitem__" (defArgs s_Word___getitem__) (defBody s_Word___getitem__) (defScope s_Word___getitem__) (d_Word___getitem__.dfl.map (He.Dv.v K)) [] (d_Word___getitem__.ad K) fd := (a_Word___getitem__ C).funD rfl
theorem f_Word___lt__ (C : Ctx w K mg) : ∃ fd, FunD K "__lt__" "Word.__lt__" (defArgs s_Word___lt__) (defBody s_Word___lt__) (defScope s_Word___lt__) (d_Word___lt__.dfl.map (He.Dv.v K)) [] (d_Word___lt__.ad K) fd := (a_Word___lt__ C).funD rfl
theorem f_Word___le__ (C : Ctx w K mg) : ∃ fd, FunD K "__le__" "Word.__le__" (defArgs s_Word___le__) (defBody s_Word___le__) (defScope s_Word___le__) (d_Word___le__.dfl.map (He.Dv.v K)) [] (d_Word___le__.ad K) fd := (a_Word___le__ C).funD rfl
theorem f_Word___gt__ (C : Ctx w K mg) : ∃ fd, FunD K "__gt__" "Word.__gt__" (defArgs s_Word___gt__) (defBody s_Word___gt__) (defScope s_Word___gt__) (d_Word___gt__.dfl.map (He.Dv.v K)) [] (d_Word___gt__.ad K) fd := (a_Word___gt__ C).funD rfl
theorem f_Word___ge__ (C : Ctx w K mg) : ∃ fd, FunD K "__ge__" "Word.__ge__" (defArgs s_Word___ge__) (defBody s_Word___ge__) (defScope s_Word___ge__) (d_Word___ge__.dfl.map (He.Dv.v K)) [] (d_Word___ge__.ad K) fd := (a_Word___ge__ C).funD rfl
theorem f_Word___eq__ (C : Ctx w K mg) : ∃ fd, FunD K "__eq__" "Word.__eq__" (defArgs s_Word___eq__) (defBody s_Word___eq__) (defScope s_Word___eq__) (d_Word___eq__.dfl.map (He.Dv.v K)) [] (d_Word___eq__.ad K) fd := (a_Word___eq__ C).funD rfl
theorem f_Word___str__ (C : Ctx w K mg) : ∃ fd, FunD K "__str__" "Word.__str__" (defArgs s_Word___str__) (defBody s_Word___str__) (defScope s_Word___str__) (d_Word___str__.dfl.map (He.Dv.v K)) [] (d_Word___str__.ad K) fd := (a_Word___str__ C).funD rfl
theorem sh_BadNumber : Shape s_BadNumber ["part"] := shape1 rfl rfl ⟨_, rfl, rfl⟩ (by decide +kernel)
theorem t_BadNumber (C : Ctx w K mg) : SupTxt prg K (He.ga K "BadNumber") (He.ma K (He.ga K "BadNumber") "__init__") s_BadNumber ["part"] := supB_ok (d := d_BadNumber) (e_sup_BadNumber C) (a_BadNumber C) rfl rfl rfl rfl rfl rfl sh_BadNumber (by decide +kernel)
theorem o_BadNumber (C : Ctx w K mg) : SupOk prg w K (He.ga K "BadNumber") (He.ma K (He.ga K "BadNumber") "__init__") s_BadNumber ["part"] := supOk1 (t_BadNumber C) (by decide +kernel) (fun _ _ _ _ _ _ _ _ _ _ => rfl)
theorem sh_BadWord : Shape s_BadWord ["at"] := shape1 rfl rfl ⟨_, rfl, rfl⟩ (by decide +kernel)
theorem t_BadWord (C : Ctx w K mg) : SupTxt prg K (He.ga K "BadWord") (He.ma K (He.ga K "BadWord") "__init__") s_BadWord ["at"] := supB_ok (d := d_BadWord) (e_sup_BadWord C) (a_BadWord C) rfl rfl rfl rfl rfl rfl sh_BadWord (by decide +kernel)
theorem o_BadWord (C : Ctx w K mg) : SupOk prg w K (He.ga K "BadWord") (He.ma K (He.ga K "BadWord") "__init__") s_BadWord ["at"] := supOk1 (t_BadWord C) (by decide +kernel) (fun _ _ _ _ _ _ _ _ _ _ => rfl)
theorem sh_TooMany : Shape s_TooMany ["what", "most"] := shape2 rfl rfl ⟨_, rfl, rfl⟩ (by decide +kernel)
theorem t_TooMany (C : Ctx w K mg) : SupTxt prg K (He.ga K "TooMany") (He.ma K (He.ga K "TooMany") "__init__") s_TooMany ["what", "most"] := supB_ok (d := d_TooMany) (e_sup_TooMany C) (a_TooMany C) rfl rfl rfl rfl rfl rfl sh_TooMany (by decide +kernel)
theorem o_TooMany (C : Ctx w K mg) : SupOk prg w K (He.ga K "TooMany") (He.ma K (He.ga K "TooMany") "__init__") s_TooMany ["what", "most"] := supOk2 (t_TooMany C) (by decide +kernel) (by decide +kernel) (by decide +kernel) (fun _ _ _ _ _ _ _ _ _ _ _ => rfl)
theorem sh_BadText : Shape s_BadText ["item"] := shape1 rfl rfl ⟨_, rfl, rfl⟩ (by decide +kernel)
theorem t_BadText (C : Ctx w K mg) : SupTxt prg K (He.ga K "BadText") (He.ma K (He.ga K "BadText") "__init__") s_BadText ["item"] := supB_ok (d := d_BadText) (e_sup_BadText C) (a_BadText C) rfl rfl rfl rfl rfl rfl sh_BadText (by decide +kernel)
theorem o_BadText (C : Ctx w K mg) : SupOk prg w K (He.ga K "BadText") (He.ma K (He.ga K "BadText") "__init__") s_BadText ["item"] := supOk1 (t_BadText C) (by decide +kernel) (fun _ _ _ _ _ _ _ _ _ _ => rfl)
theorem fc (C : Ctx w K mg) : PL.Fct K [20] [1, 8, 11, 12] [20, 11, 8] [0] := PL.fctB_ok (e_fct C)
end
end K02

end
section
set_option maxHeartbeats 1000000
namespace K02
open PySem PySem.Spec PyProof.Rows L2 SBX SB
section
variable {w : World} {K : PySem.W.Frag} {mg : Str → Option Value} {base : Heap}
def N__law_draw : List Str := ["pen", "many", "digit", "spot", "cell", "great", "mixed"]
theorem sc__law_draw : FnScope N__law_draw ["pen", "many"] (defScope s__law_draw) := ⟨rfl, rfl, rfl, by decide +kernel, rfl, by decide +kernel, by decide +kernel⟩
def spDraw : Sp := fun vs H Q _ => ∃ F p c many n, vs = [.ref p, .int many] ∧ 0 < many ∧ many < 1073741824 ∧ n ≤ 1000000 ∧ Pen F H p c n ∧ ∀ r H', 0 ≤ r → r < many → Pen F H' p c (n + 1) → Q (.int r) H'
theorem k0__law_draw (C : Ctx w K mg) : CallOk prg w K mg base 1 "_law_draw" ["pen", "many"] spDraw := by
  refine callOk (g__law_draw C) (f__law_draw C) sc__law_draw (fun _ _ _ _ _ _ us hl => match us, hl with | [_, _], _ => rfl) (fun vs H Q E h => ?_) (fun cdv A outer s H vs Q E hr h => ?_)
  · obtain ⟨F, p, c, many, n, rfl, _⟩ := h
    rfl
  · obtain ⟨F, p, c, many, n, rfl, m0, m1, hn, hP, k⟩ := h
    obtain ⟨⟨xs, spot, rest, hp, hc, hlen, h0, h1, h2⟩, hs, off⟩ := hP
    refine ⟨_, (pss_cons (ps_if (pt_cmpR op_gt (pe_ix ix_list (pv 0) pe_int (fun _ _ => rfl)) pe_int (nomark _))
  (pss_cons (ps_set (i := 2) sc__law_draw.nd rfl (Or.inl rfl) (pe_op op_mod (pe_callTy call_int1 (by rfl) (b_int C) (by decide +kernel) (pa_cons (pe_ix ix_list (pv 0) pe_int (fun _ _ => rfl)) pa_nil)) (pv 1)))
  (pss_cons (ps_asg (pe_op op_fdiv (pe_callTy call_int1 (by rfl) (b_int C) (by decide +kernel) (pa_cons (pe_ix ix_list (pv 0) pe_int (fun _ _ => rfl)) pa_nil)) (pv 1)) (pg_sub (pv 0) pe_int set_listV))
  (pss_one (ps_ret (pv 2)))))
  pss_nil)
  (pss_cons (ps_set (i := 3) sc__law_draw.nd rfl (Or.inl rfl) (pe_ix ix_list (pv 0) pe_int (fun _ _ => rfl)))
  (pss_cons (ps_asg (pe_op op_add (pv 3) pe_int) (pg_sub (pv 0) pe_int set_listV))
  (pss_cons (ps_set (i := 4) sc__law_draw.nd rfl (Or.inl rfl) (pe_op op_add (pe_op op_mul pe_int (pv 3)) pe_int))
  (pss_cons (ps_if (pt_cmpR (op_neD (hr.units)) (pe_ix ix_list (pv 0) pe_int (fun _ _ => rfl)) (pe_lstV pa_nil) (nomark _))
  (pss_one (ps_set (i := 4) sc__law_draw.nd rfl (Or.inl rfl) (pe_ix ix_list (pe_ix ix_list (pv 0) pe_int (fun _ _ => rfl)) (pe_op op_mod (pe_callTy call_int1 (by rfl) (b_int C) (by decide +kernel) (pa_cons (pv 3) pa_nil)) (pe_callB call_len (by rfl) (b_len C) PySem.boot_len (pa_cons (pe_ix ix_list (pv 0) pe_int (fun _ _ => rfl)) pa_nil))) (fun _ _ => rfl))))
  pss_nil)
  (pss_cons (ps_if (PW.pt (pw_and (pt_cmpR op_lt (pv 3) (pe_callB call_len (by rfl) (b_len C) PySem.boot_len (pa_cons (pe_ix ix_list (pv 0) pe_int (fun _ _ => rfl)) pa_nil)) (nomark _)) (pw_and1 (pt_cmpR op_ge (pe_callB call_abs (by rfl) (b_abs C) (by decide +kernel) (pa_cons (pv 4) pa_nil)) (pe_op op_pow pe_int pe_int) (nomark _)))))
  (pss_cons (ps_set (i := 5) sc__law_draw.nd rfl (Or.inl rfl) (pe_op op_add (pe_op op_mul pe_int (pe_op op_sub (pe_callB call_abs (by rfl) (b_abs C) (by decide +kernel) (pa_cons (pv 4) pa_nil)) (pe_op op_pow pe_int pe_int))) (pe_callTy call_int1 (by rfl) (b_int C) (by decide +kernel) (pa_cons (pe_cmpR op_lt (pv 4) pe_int (nomark _)) pa_nil))))
  (pss_cons (ps_asg (pe_op op_fdiv (pe_callTy call_int1 (by rfl) (b_int C) (by decide +kernel) (pa_cons (pv 5) pa_nil)) (pv 1)) (pg_sub (pv 0) pe_int set_listV))
  (pss_one (ps_ret (pe_op op_mod (pe_callTy call_int1 (by rfl) (b_int C) (by decide +kernel) (pa_cons (pv 5) pa_nil)) (pv 1))))))
  pss_nil)
  (pss_cons (ps_set (i := 6) sc__law_draw.nd rfl (Or.inl rfl) (pe_op op_mod (pe_callTy call_int1 (by rfl) (b_int C) (by decide +kernel) (pa_cons (pe_op op_pow (pe_op op_add (pe_op op_add (pe_op op_mod (pe_callTy call_int1 (by rfl) (b_int C) (by decide +kernel) (pa_cons (pv 4) pa_nil)) pe_int) (pe_op op_mul pe_int (pv 3))) pe_int) pe_int) pa_nil)) pe_int))
  (pss_cons (ps_set (i := 6) sc__law_draw.nd rfl (Or.inl rfl) (pe_op op_mod (pe_callTy call_int1 (by rfl) (b_int C) (by decide +kernel) (pa_cons (pe_op op_pow (pe_op op_add (pe_op op_add (pe_op op_mul (pv 6) (pe_op op_add (pe_op op_mul pe_int (pv 3)) pe_int)) (pe_op op_mul (pe_op op_mul pe_int (pv 3)) (pv 3))) pe_int) pe_int) pa_nil)) pe_int))
  (pss_one (ps_ret (pe_op op_mod (pe_callTy call_int1 (by rfl) (b_int C) (by decide +kernel) (pa_cons (pe_op op_fdiv (pv 6) pe_int) pa_nil)) (pv 1)))))))))))), ?_⟩
    refine ⟨_, rfl, p, _, _, _, rfl, rfl, SqL.of hp, rfl, _, _, rfl, rfl, _, rfl, ?_⟩
    refine iteD (fun hr0 => ?_) (fun hr0 => ?_)
    · -- a digit of what is left
      refine ⟨_, rfl, p, _, _, _, rfl, rfl, SqL.of hp, rfl, .inl ⟨_, rfl, _, rfl, _, _, rfl, rfl, m0, ?_⟩⟩
      refine ⟨_, rfl, p, _, _, _, rfl, rfl, SqL.of hp, rfl, .inl ⟨_, rfl, _, rfl, _, _, rfl, rfl, ⟨m0, m1⟩, _, rfl, p, _, _, _, [.ref c, .int spot, .int (rest / many)], rfl, rfl, hp, rfl, rfl, fun H1 w1 => ⟨_, rfl, ?_⟩⟩⟩
      exact k _ _ (Int.emod_nonneg _ (by omega)) (Int.emod_lt_of_pos _ m0) ⟨⟨xs, _, _, w1.at_, hc, hlen, h0, by omega, Int.ediv_nonneg h2 (by omega)⟩, w1.same hs off, off⟩
    · -- the next cell
      refine ⟨_, rfl, p, _, _, _, rfl, rfl, SqL.of hp, rfl, ?_⟩
      refine ⟨_, rfl, _, _, rfl, rfl, _, rfl, p, _, _, _, [.ref c, .int (spot + 1), .int rest], rfl, rfl, hp, rfl, rfl, fun H1 w1 => ?_⟩
      refine ⟨_, rfl, _, _, rfl, rfl, cmulL (by decide) (by decide), _, _, rfl, rfl, ?_⟩
      refine ⟨_, rfl, p, _, _, _, rfl, rfl, SqL.of w1.at_, rfl, Nat.zero_le _, fun l H2 n2 => ?_⟩
      have hs2 : Same F H2 := (w1.same hs off).trans n2.same
      have e2 : H2 p = some (.lst [.ref c, .int (spot + 1), .int rest]) := n2.same _ _ w1.at_
      refine rd_neNil (SqL.of (hs2 _ _ hc)) (SqL.of n2.at_) ⟨_, rfl, ?_⟩
      have m2 : (-18446744073709551616 : Int) < 2 * spot + 179 ∧ 2 * spot + 179 < 18446744073709551616 := ⟨by omega, by omega⟩
      refine iteN (fun hne => ?a) (fun hnil => ?b)
      case' a =>
        have hpos : (0 : Int) < xs.length := by
          have := List.length_pos_iff.mpr hne
          omega
        obtain ⟨z, hz⟩ := atI_ints (i := spot % (xs.length : Int)) hne (Int.emod_nonneg _ (by omega)) (Int.emod_lt_of_pos _ hpos)
        refine ⟨_, rfl, p, _, _, _, rfl, rfl, SqL.of e2, rfl, _, rfl, .inl ⟨_, rfl, _, rfl, p, _, _, _, rfl, rfl, SqL.of e2, rfl, _, xs.length, rfl, .inl ⟨_, SqL.of (hs2 _ _ hc), by simp⟩, _, _, rfl, rfl, hpos, c, _, _, _, rfl, rfl, SqL.of (hs2 _ _ hc), hz, ?_⟩⟩
      case' b =>
        obtain ⟨z, hz⟩ : ∃ z : Int, z = 82129 * spot + 1427 := ⟨_, rfl⟩
        simp only [← hz]
      all_goals
        refine ⟨_, rfl, _, rfl, p, _, _, _, rfl, rfl, SqL.of e2, rfl, _, xs.length, rfl, .inl ⟨_, SqL.of (hs2 _ _ hc), by simp⟩, _, _, rfl, rfl, _, rfl, ?_⟩
        by_cases hlt : spot < (xs.length : Int)
        · refine iteDT hlt ?_
          refine ⟨_, rfl, _, rfl, _, _, rfl, rfl, cpow (by decide) (by decide) (by decide) (by decide), _, _, rfl, rfl, _, rfl, ?_⟩
          refine iteD (fun hbig => ?_) (fun hsmall => ?_)
          · refine ⟨_, rfl, _, rfl, _, _, rfl, rfl, cpow (by decide) (by decide) (by decide) (by decide), _, _, rfl, rfl, _, _, rfl, rfl, cmulL (by decide) (by decide), _, rfl, _, _, rfl, rfl, .inr ⟨_, rfl, _, _, rfl, rfl, ?_⟩⟩
            refine ⟨_, rfl, .inl ⟨_, rfl, _, rfl, _, _, rfl, rfl, ⟨m0, m1⟩, _, rfl, p, _, _, _, [.ref c, .int (spot + 1), .int ((2 * ((if z < 0 then -z else z) - 10 ^ 18) + (if decide (z < 0) = true then 1 else 0)) / many)], rfl, rfl, e2, rfl, rfl, fun H3 w3 => ?_⟩⟩
            refine ⟨_, rfl, .inl ⟨_, rfl, _, rfl, _, _, rfl, rfl, m0, ?_⟩⟩
            have hg : 0 ≤ (2 * ((if z < 0 then -z else z) - 10 ^ 18) + (if decide (z < 0) = true then (1 : Int) else 0)) := by
              have hb : (10 : Int) ^ 18 ≤ (if z < 0 then -z else z) := hbig
              have hc : (0 : Int) ≤ (if decide (z < 0) = true then (1 : Int) else 0) := by split <;> decide
              omega
            exact k _ _ (Int.emod_nonneg _ (by omega)) (Int.emod_lt_of_pos _ m0) ⟨⟨xs, _, _, w3.at_, hc, hlen, by omega, by omega, Int.ediv_nonneg hg (by omega)⟩, w3.same hs2 off, off⟩
          · have hm1 := Int.emod_nonneg z (show (2147483423 : Int) ≠ 0 by decide)
            have hm2 := Int.emod_lt_of_pos z (show (0 : Int) < 2147483423 by decide)
            refine ⟨_, rfl, .inl ⟨_, rfl, _, _, rfl, rfl, (show (0 : Int) < 2147483423 by decide), _, rfl, _, _, rfl, rfl, cmulL (by decide) (by decide), _, _, rfl, rfl, _, _, rfl, rfl, _, _, rfl, rfl, cpow (by omega) (by omega) (by decide) (by decide), .inl ⟨_, rfl, _, _, rfl, rfl, (show (0 : Int) < 2147483579 by decide), ?_⟩⟩⟩
            have ha1 := Int.emod_nonneg ((z % 2147483423 + 54403 * spot + 1009) ^ (5 : Int).toNat) (show (2147483579 : Int) ≠ 0 by decide)
            have ha2 := Int.emod_lt_of_pos ((z % 2147483423 + 54403 * spot + 1009) ^ (5 : Int).toNat) (show (0 : Int) < 2147483579 by decide)
            obtain ⟨m, hm⟩ : ∃ m : Int, m = ((z % 2147483423 + 54403 * spot + 1009) ^ (5 : Int).toNat) % 2147483579 := ⟨_, rfl⟩
            rw [← hm] at ha1 ha2
            have hs6 : spot ≤ 1000000 := by omega
            have hb1 : 0 ≤ m * (2 * spot + 179) := Int.mul_nonneg ha1 (by omega)
            have hb2 : m * (2 * spot + 179) ≤ 2147483579 * 2000179 := Int.mul_le_mul (by omega) (by omega) (by omega) (by decide)
            have hb3 : 0 ≤ 587 * spot * spot := Int.mul_nonneg (by omega) h0
            have hb4 : 587 * spot * spot ≤ 587000000 * 1000000 := Int.mul_le_mul (by omega) hs6 h0 (by decide)
            rw [hm] at hb1 hb2
            refine ⟨_, rfl, _, rfl, _, _, rfl, rfl, cmulL (by decide) (by decide), _, _, rfl, rfl, _, _, rfl, rfl, cmulL (by omega) (by omega), _, rfl, _, _, rfl, rfl, cmulL (by decide) (by decide), _, rfl, _, _, rfl, rfl, cmulL (by omega) (by omega), _, _, rfl, rfl, _, _, rfl, rfl, _, _, rfl, rfl, cpow (by omega) (by omega) (by decide) (by decide), .inl ⟨_, rfl, _, _, rfl, rfl, (show (0 : Int) < 2147483629 by decide), ?_⟩⟩
            refine ⟨_, rfl, _, _, rfl, rfl, ⟨by decide, by decide⟩, .inl ⟨_, rfl, _, rfl, _, _, rfl, rfl, m0, ?_⟩⟩
            exact k _ _ (Int.emod_nonneg _ (by omega)) (Int.emod_lt_of_pos _ m0) ⟨⟨xs, _, _, e2, hc, hlen, by omega, by omega, h2⟩, hs2, off⟩
        · refine iteDF hlt (iteF ?_)
          have hm1 := Int.emod_nonneg z (show (2147483423 : Int) ≠ 0 by decide)
          have hm2 := Int.emod_lt_of_pos z (show (0 : Int) < 2147483423 by decide)
          refine ⟨_, rfl, .inl ⟨_, rfl, _, _, rfl, rfl, (show (0 : Int) < 2147483423 by decide), _, rfl, _, _, rfl, rfl, cmulL (by decide) (by decide), _, _, rfl, rfl, _, _, rfl, rfl, _, _, rfl, rfl, cpow (by omega) (by omega) (by decide) (by decide), .inl ⟨_, rfl, _, _, rfl, rfl, (show (0 : Int) < 2147483579 by decide), ?_⟩⟩⟩
          have ha1 := Int.emod_nonneg ((z % 2147483423 + 54403 * spot + 1009) ^ (5 : Int).toNat) (show (2147483579 : Int) ≠ 0 by decide)
          have ha2 := Int.emod_lt_of_pos ((z % 2147483423 + 54403 * spot + 1009) ^ (5 : Int).toNat) (show (0 : Int) < 2147483579 by decide)
          obtain ⟨m, hm⟩ : ∃ m : Int, m = ((z % 2147483423 + 54403 * spot + 1009) ^ (5 : Int).toNat) % 2147483579 := ⟨_, rfl⟩
          rw [← hm] at ha1 ha2
          have hs6 : spot ≤ 1000000 := by omega
          have hb1 : 0 ≤ m * (2 * spot + 179) := Int.mul_nonneg ha1 (by omega)
          have hb2 : m * (2 * spot + 179) ≤ 2147483579 * 2000179 := Int.mul_le_mul (by omega) (by omega) (by omega) (by decide)
          have hb3 : 0 ≤ 587 * spot * spot := Int.mul_nonneg (by omega) h0
          have hb4 : 587 * spot * spot ≤ 587000000 * 1000000 := Int.mul_le_mul (by omega) hs6 h0 (by decide)
          rw [hm] at hb1 hb2
          refine ⟨_, rfl, _, rfl, _, _, rfl, rfl, cmulL (by decide) (by decide), _, _, rfl, rfl, _, _, rfl, rfl, cmulL (by omega) (by omega), _, rfl, _, _, rfl, rfl, cmulL (by decide) (by decide), _, rfl, _, _, rfl, rfl, cmulL (by omega) (by omega), _, _, rfl, rfl, _, _, rfl, rfl, _, _, rfl, rfl, cpow (by omega) (by omega) (by decide) (by decide), .inl ⟨_, rfl, _, _, rfl, rfl, (show (0 : Int) < 2147483629 by decide), ?_⟩⟩
          refine ⟨_, rfl, _, _, rfl, rfl, ⟨by decide, by decide⟩, .inl ⟨_, rfl, _, rfl, _, _, rfl, rfl, m0, ?_⟩⟩
          exact k _ _ (Int.emod_nonneg _ (by omega)) (Int.emod_lt_of_pos _ m0) ⟨⟨xs, _, _, e2, hc, hlen, by omega, by omega, h2⟩, hs2, off⟩
def N__law_pen : List Str := ["script"]
theorem sc__law_pen : FnScope N__law_pen ["script"] (defScope s__law_pen) := ⟨rfl, rfl, rfl, by decide +kernel, rfl, by decide +kernel, by decide +kernel⟩
def spPen (K : PySem.W.Frag) : Sp := fun vs H Q _ => ∃ a ns, vs = [.ref a] ∧ SqL K H a (List.map V.int ns) ∧ ns.length ≤ 63 ∧ ∀ p c F H', Same H F → Pen F H' p c 0 → Q (.ref p) H'
theorem k0__law_pen (C : Ctx w K mg) : CallOk prg w K mg base 1 "_law_pen" ["script"] (spPen K) := by
  refine callOk (g__law_pen C) (f__law_pen C) sc__law_pen (fun _ _ _ _ _ _ us hl => match us, hl with | [_], _ => rfl) (fun vs H Q E h => ?_) (fun cdv A outer s H vs Q E hr h => ?_)
  · obtain ⟨a, ns, rfl, _⟩ := h
    rfl
  · obtain ⟨a, ns, rfl, ha, hlen, k⟩ := h
    refine ⟨_, (pss_one (ps_ret (pe_lstV (pa_cons (pe_callTy call_list_ofV (by rfl) (b_list C) (by decide +kernel) (pa_cons (pe_slice sl_listV (pv 0) po_none (po_some pe_int)) pa_nil)) (pa_cons pe_int (pa_cons pe_int pa_nil)))))), ?_⟩
    have hcut : cutV (List.map V.int ns) none (some 63) = List.map V.int ns := by
      unfold cutV
      have e1 : HT.sIx (List.map V.int ns).length 0 none = 0 := rfl
      have e2 : HT.sIx (List.map V.int ns).length (List.map V.int ns).length (some 63) = (List.map V.int ns).length := by
        rw [List.length_map]
        simp [HT.sIx]
        omega
      rw [e1, e2, List.drop_zero, Nat.sub_zero, List.take_length]
    refine ⟨_, rfl, 63, rfl, a, _, rfl, ha, fun l1 H1 n1 => ⟨l1, _, rfl, .inl (SqL.of n1.at_), fun l2 H2 n2 => ⟨(by show 3 ≤ sizeLine; decide), fun p H3 n3 => ?_⟩⟩⟩
    rw [hcut] at n2
    exact k p l2 H2 H3 (n1.same.trans n2.same) ⟨⟨ns, 0, 0, n3.at_, n2.at_, hlen, by decide, by decide, by decide⟩, n3.same, n3.free⟩
end
end K02

end
section
set_option maxHeartbeats 1000000
namespace K02
open PySem PySem.Spec PyProof.Rows L2 SBX SB LamX
section
def N__law_heard : List Str := ["ask", "caught", "error"]
theorem sc__law_heard : FnScope N__law_heard ["ask"] (defScope s__law_heard) := ⟨rfl, rfl, rfl, by decide +kernel, rfl, by decide +kernel, by decide +kernel⟩
theorem pe_heard {X : Cx} (C : Ctx X.w X.K X.mg) {T : List (Addr × Str)} {c P : Addr} {k : Nat} {params : Arguments} {body : Expr} {scope : Scope} {t : XK → TE} {p lpos pos : Pos} (TB : TabB X.base X.mg c P) (hcode : X.env.code = .ref c) (hmT : (P, X.env.qual ++ "<lambda>") ∈ T)
    (hu : ∀ p ∈ T, p.1 = P → p.2 = X.env.qual ++ "<lambda>") (hr : Room (k + 2) X.A) (L : LamS X.env.scope scope) (hbody : ∀ (A : Around) (outer : List Env) (s : Shared) (H : Hp) (E : XK) (f c' : Addr), Room k (A.deeper (lamEnv X scope s.heap.objs.size f c')) → Passes (L2.CX X.prog X.w) (lamCx X A outer s H E scope f c') E → PE (lamCx X A outer s H E scope f c') body (t E))
    (hg : Gl X "_law_heard" := by rfl) (hdef : defaultsOf params X.env = ([], []) := by rfl) (hbind : ∀ (q : Str) (cl : List (Str × Addr)) (pm cv ctv : Value), bindArgs (PySem.W.kla_fn "<lambda>" q params body scope cl pm cv ctv) ⟨[], []⟩ = pure [] := by intros; rfl) :
    PE X (.Call (.Name "_law_heard" p) [.Lambda params body scope lpos] [] pos) (tLam T (THeardN X.K (He.ga X.K "BallError")) t) := by
  obtain ⟨fd, F⟩ := f__law_heard C
  have hkp := F.kp
  have hb := F.bindsN (ps := ["ask"]) (fun _ _ _ _ _ _ us hl => match us, hl with | [_], _ => rfl)
  obtain ⟨oc, od, dV, kV, doc, pm, an, cdv, ct, osl, rfl, lk, hcd, hD, hK⟩ := F.ex
  exact pe_lamcall (TT := THeardN X.K (He.ga X.K "BallError")) (Ng := N__law_heard) (a := "ask") hg (g__law_heard C) hkp lk hcd hb sc__law_heard rfl (Or.inl rfl) (heard_gives (p15 := ⟨0, 0, 0, 0⟩) rfl (g_BallError C) rfl rfl rfl rfl) TB hcode hmT hu hr L hdef hbind (fun A outer s H E f c' hr => hbody A outer s H E f c' hr pass_lam)
def TT (K : PySem.W.Frag) : List (Addr × Str) := tf.map fun p => ((He.cT K p).2, p.1 ++ ".<locals>." ++ "<lambda>")
variable {w : World} {K : PySem.W.Frag} {mg : Str → Option Value} {base : Heap}
theorem tt_nd (C : Ctx w K mg) : ((TT K).map (·.1)).Nodup := by
  have h := of_decide_eq_true (e_tabs C)
  unfold TT
  rw [List.map_map]
  exact h
end
end K02

end
section
set_option maxHeartbeats 1000000
namespace K02
open PySem PySem.Spec PyProof.Rows L2 SBX SB LamX PL
section
variable {w : World} {K : PySem.W.Frag} {mg : Str → Option Value} {base : Heap}
theorem k__law_draw (C : Ctx w K mg) : CallOk prg w K mg base 1 "_law_draw" ["pen", "many"] (spP K (TT K) (refS PL.g__law_draw)) := (k0__law_draw C).imp fun _ _ _ _ h => lift_draw h
def N__law_pick : List Str := ["pen", "some"]
theorem sc__law_pick : FnScope N__law_pick ["pen", "some"] (defScope s__law_pick) := ⟨rfl, rfl, rfl, by decide +kernel, rfl, by decide +kernel, by decide +kernel⟩
theorem k__law_pick (C : Ctx w K mg) : CallOk prg w K mg base 2 "_law_pick" ["pen", "some"] (spP K (TT K) (refS PL.g__law_pick)) := by
  obtain ⟨fd, F⟩ := f__law_pick C
  exact ⟨_, fd, (refF F sc__law_pick len__law_pick (fun cdv A outer s H E B vs0 F0 er hr hE => (vss_one (vs_ret (ve_ix rfl (vv 1) (ve_fz (veo_ref (i := 0) rfl (Or.inl rfl) (k__law_draw C) hE (hr.mono (by decide)) passE (va_cons (ve_fz (veo_callB (c_len rfl) (b_len C) (by decide +kernel) (va_cons (vv 1) va_nil))) va_nil))) (fun _ _ => rfl))))) ob__law_pick), g__law_pick C, F.kp, (F.bindsN (fun _ _ _ _ _ _ us hl => match us, hl with | [_, _], _ => rfl))⟩
def N__law_undo : List Str := ["letter"]
theorem sc__law_undo : FnScope N__law_undo ["letter"] (defScope s__law_undo) := ⟨rfl, rfl, rfl, by decide +kernel, rfl, by decide +kernel, by decide +kernel⟩
theorem k__law_undo (C : Ctx w K mg) : CallOk prg w K mg base 1 "_law_undo" ["letter"] (spP K (TT K) (fnS PL.f__law_undo)) := by
  obtain ⟨fd, F⟩ := f__law_undo C
  exact ⟨_, fd, (fnF F sc__law_undo len__law_undo (fun cdv A outer s H E B vs0 F0 er hr hE => (vss_one (vs_ret (ve_ix rfl (ve_str (l := [97, 98, 99, 100, 65, 66, 67, 68]) rfl) (ve_fz (veo_m1 PySem.F.slot_str_index PySem.F.type_str_index m_index (ve_str (l := [65, 66, 67, 68, 97, 98, 99, 100]) rfl) (vv 0))) (fun _ _ => rfl))))) ob__law_undo), g__law_undo C, F.kp, (F.bindsN (fun _ _ _ _ _ _ us hl => match us, hl with | [_], _ => rfl))⟩
def N__law_row : List Str := ["pen", "most", "found", "kind", "turn", "some", "letter"]
theorem sc__law_row : FnScope N__law_row ["pen", "most"] (defScope s__law_row) := ⟨rfl, rfl, rfl, by decide +kernel, rfl, by decide +kernel, by decide +kernel⟩
theorem k__law_row (C : Ctx w K mg) : CallOk prg w K mg base 3 "_law_row" ["pen", "most"] (spP K (TT K) (refS PL.g__law_row)) := by
  obtain ⟨fd, F⟩ := f__law_row C
  exact ⟨_, fd, (refF F sc__law_row len__law_row (fun cdv A outer s H E B vs0 F0 er hr hE => (vss_cons (vs_asg (ve_tup (va_cons (ve_str (l := []) rfl) (va_cons (ve_fz (veo_ref (i := 0) rfl (Or.inl rfl) (k__law_pick C) hE (hr.mono (by decide)) passE (va_cons (ve_fz (veo_lst (va_cons (ve_str (l := [65, 66, 67, 68, 97, 98, 99, 100]) rfl) (va_cons (ve_str (l := [65, 97, 98]) rfl) (va_cons (ve_str (l := [65, 66, 97, 98]) rfl) (va_cons (ve_str (l := [67, 99, 100, 66]) rfl) (va_cons (ve_str (l := [65, 68]) rfl) va_nil))))))) va_nil))) va_nil))) (vg_tup (n := 2) rfl rfl (vgs_cons (vg_name (i := 2) sc__law_row.nd rfl (Or.inr rfl)) (vgs_cons (vg_name (i := 3) sc__law_row.nd rfl (Or.inl rfl)) vgs_nil))))
  (vss_cons (vs_for (passes_of rfl) rfl (vi_rng1 (by rfl) (b_range C) (va_cons (ve_fz (veo_ref (i := 0) rfl (Or.inl rfl) (k__law_draw C) hE (hr.mono (by decide)) passE (va_cons (ve_bin g_add (vv 1) ve_int) va_nil))) va_nil)) (vg_name (i := 4) sc__law_row.nd rfl (Or.inl rfl))
  (vss_cons (vs_setLcF (j := 5) (own := [("letter", 6)]) rfl sc__law_row.nd rfl rfl (sw_true rfl rfl rfl (by decide +kernel)) (vi_str (vv 3)) (blkOk_by (N := N__law_row) (sc := defScope s__law_row) (by decide +kernel)) (by decide) (fun _ _ _ _ _ _ => (vg_name (i := 6) sc__law_row.nd rfl (Or.inl rfl))) (fun _ _ _ _ _ _ => (vts_one (VW.vt (vw_or (vt_cmp (g_eq hr.units) (vv 2) (ve_str (l := []) rfl) (nomark _)) (vw_or1 (vt_cmp (g_ne hr.units) (vv 6) (ve_fz (veo_fn (k__law_undo C) erNo (hr.mono (by decide)) passL (va_cons (ve_ix rfl (vv 2) (ve_neg ve_int) (fun _ _ => rfl)) va_nil))) (nomark _))))))) (fun _ _ _ _ _ _ => (vv 6)))
  (vss_one (vs_set (i := 2) sc__law_row.nd rfl (Or.inr rfl) (ve_bin g_add (vv 2) (ve_fz (veo_ref (i := 0) rfl (Or.inl rfl) (k__law_pick C) hE (hr.mono (by decide)) passE (va_cons (vv 5) va_nil))))))))
  (vss_one (vs_ret (vv 2)))))) ob__law_row), g__law_row C, F.kp, (F.bindsN (fun _ _ _ _ _ _ us hl => match us, hl with | [_, _], _ => rfl))⟩
def N__law_struck : List Str := ["row", "left", "at"]
theorem sc__law_struck : FnScope N__law_struck ["row"] (defScope s__law_struck) := ⟨rfl, rfl, rfl, by decide +kernel, rfl, by decide +kernel, by decide +kernel⟩
theorem k__law_struck (C : Ctx w K mg) : CallOk prg w K mg base 2 "_law_struck" ["row"] (spP K (TT K) (fnS PL.f__law_struck)) := by
  obtain ⟨fd, F⟩ := f__law_struck C
  exact ⟨_, fd, (fnF F sc__law_struck len__law_struck (fun cdv A outer s H E B vs0 F0 er hr hE => (vss_cons (vs_par (i := 1) (j := 2) rfl sc__law_struck.nd rfl rfl (by decide) rfl rfl (va_cons (vv 0) (va_cons ve_int va_nil)) (by rfl))
  (vss_cons (vs_while (passes_of rfl) (vt_cmp g_lt (ve_bin g_add (vv 2) ve_int) (ve_fz (veo_callB (c_len rfl) (b_len C) (by decide +kernel) (va_cons (vv 1) va_nil))) (nomark _))
  (vss_one (vs_if (vt_cmp (g_eq hr.units) (ve_ix rfl (vv 1) (vv 2) (fun _ _ => rfl)) (ve_fz (veo_fn (k__law_undo C) hE (hr.mono (by decide)) passE (va_cons (ve_ix rfl (vv 1) (ve_bin g_add (vv 2) ve_int) (fun _ _ => rfl)) va_nil))) (nomark _))
  (vss_one (vs_par (i := 1) (j := 2) rfl sc__law_struck.nd rfl rfl (by decide) rfl rfl (va_cons (ve_bin g_add (ve_sl rfl (vv 1) vp_none (vp_some (vv 2))) (ve_sl rfl (vv 1) (vp_some (ve_bin g_add (vv 2) ve_int)) vp_none)) (va_cons (ve_fz (veo_callB (c_max2 rfl) (b_max C) (by decide +kernel) (va_cons ve_int (va_cons (ve_bin g_sub (vv 2) ve_int) va_nil)))) va_nil)) (by rfl)))
  (vss_one (vs_set (i := 2) sc__law_struck.nd rfl (Or.inl rfl) (ve_bin g_add (vv 2) ve_int))))))
  (vss_one (vs_ret (vv 1)))))) ob__law_struck), g__law_struck C, F.kp, (F.bindsN (fun _ _ _ _ _ _ us hl => match us, hl with | [_], _ => rfl))⟩
def N__law_back : List Str := ["row", "found", "letter"]
theorem sc__law_back : FnScope N__law_back ["row"] (defScope s__law_back) := ⟨rfl, rfl, rfl, by decide +kernel, rfl, by decide +kernel, by decide +kernel⟩
theorem k__law_back (C : Ctx w K mg) : CallOk prg w K mg base 2 "_law_back" ["row"] (spP K (TT K) (fnS PL.f__law_back)) := by
  obtain ⟨fd, F⟩ := f__law_back C
  exact ⟨_, fd, (fnF F sc__law_back len__law_back (fun cdv A outer s H E B vs0 F0 er hr hE => (vss_cons (vs_set (i := 1) sc__law_back.nd rfl (Or.inl rfl) (ve_str (l := []) rfl))
  (vss_cons (vs_for (passes_of rfl) rfl (vi_str (vv 0)) (vg_name (i := 2) sc__law_back.nd rfl (Or.inl rfl))
  (vss_one (vs_set (i := 1) sc__law_back.nd rfl (Or.inl rfl) (ve_bin g_add (ve_fz (veo_fn (k__law_undo C) hE (hr.mono (by decide)) passE (va_cons (vv 2) va_nil))) (vv 1)))))
  (vss_one (vs_ret (vv 1)))))) ob__law_back), g__law_back C, F.kp, (F.bindsN (fun _ _ _ _ _ _ us hl => match us, hl with | [_], _ => rfl))⟩
def N__law_partner : List Str := ["pen", "row", "way", "cut"]
theorem sc__law_partner : FnScope N__law_partner ["pen", "row"] (defScope s__law_partner) := ⟨rfl, rfl, rfl, by decide +kernel, rfl, by decide +kernel, by decide +kernel⟩
theorem k__law_partner (C : Ctx w K mg) : CallOk prg w K mg base 4 "_law_partner" ["pen", "row"] (spP K (TT K) (refS PL.g__law_partner)) := by
  obtain ⟨fd, F⟩ := f__law_partner C
  exact ⟨_, fd, (refF F sc__law_partner len__law_partner (fun cdv A outer s H E B vs0 F0 er hr hE => (vss_cons (vs_par (i := 2) (j := 3) rfl sc__law_partner.nd rfl rfl (by decide) rfl rfl (va_cons (ve_fz (veo_ref (i := 0) rfl (Or.inl rfl) (k__law_draw C) hE (hr.mono (by decide)) passE (va_cons ve_int va_nil))) (va_cons (ve_fz (veo_ref (i := 0) rfl (Or.inl rfl) (k__law_draw C) hE (hr.mono (by decide)) passE (va_cons (ve_bin g_add (ve_fz (veo_callB (c_len rfl) (b_len C) (by decide +kernel) (va_cons (vv 1) va_nil))) ve_int) va_nil))) va_nil)) (by rfl))
  (vss_cons (vs_if (vt_cmp (g_eq hr.units) (vv 2) ve_int (nomark _))
  (vss_one (vs_ret (ve_fz (veo_ref (i := 0) rfl (Or.inl rfl) (k__law_row C) hE (hr.mono (by decide)) passE (va_cons ve_int va_nil)))))
  vss_nil)
  (vss_cons (vs_if (vt_cmp (g_eq hr.units) (vv 2) ve_int (nomark _))
  (vss_one (vs_ret (ve_fz (veo_fn (k__law_struck C) hE (hr.mono (by decide)) passE (va_cons (ve_bin g_add (ve_fz (veo_fn (k__law_back C) hE (hr.mono (by decide)) passE (va_cons (ve_sl rfl (vv 1) (vp_some (vv 3)) vp_none) va_nil))) (ve_fz (veo_ref (i := 0) rfl (Or.inl rfl) (k__law_row C) hE (hr.mono (by decide)) passE (va_cons ve_int va_nil)))) va_nil)))))
  vss_nil)
  (vss_one (vs_ret (ve_ifE (vt_cmp (g_eq hr.units) (vv 2) ve_int (nomark _)) (ve_fz (veo_fn (k__law_back C) hE (hr.mono (by decide)) passE (va_cons (vv 1) va_nil))) (ve_fz (veo_fn (k__law_struck C) hE (hr.mono (by decide)) passE (va_cons (ve_bin g_add (ve_fz (veo_ref (i := 0) rfl (Or.inl rfl) (k__law_row C) hE (hr.mono (by decide)) passE (va_cons ve_int va_nil))) (ve_fz (veo_fn (k__law_back C) hE (hr.mono (by decide)) passE (va_cons (ve_sl rfl (vv 1) vp_none (vp_some (vv 3))) va_nil)))) va_nil)))))))))) ob__law_partner), g__law_partner C, F.kp, (F.bindsN (fun _ _ _ _ _ _ us hl => match us, hl with | [_, _], _ => rfl))⟩
def N_need_row : List Str := ["value", "ahead", "at", "sign"]
theorem sc_need_row : FnScope N_need_row ["value"] (defScope s_need_row) := ⟨rfl, rfl, rfl, by decide +kernel, rfl, by decide +kernel, by decide +kernel⟩
theorem k_need_row (C : Ctx w K mg) : CallOk prg w K mg base 2 "need_row" ["value"] (spP K (TT K) (fnS PL.f_need_row)) := by
  obtain ⟨fd, F⟩ := f_need_row C
  exact ⟨_, fd, (fnF F sc_need_row len_need_row (fun cdv A outer s H E B vs0 F0 er hr hE => (vss_cons (vs_if (vt_not (vt_tr rfl (ve_fz (veo_callB (c_isi rfl (fc C)) (b_isinstance C) (by decide +kernel) (va_cons (vv 0) (va_cons (ve_ty .str (b_str C) (by decide +kernel)) va_nil))))))
  (vss_one (vs_raise (c := 8) rfl (takes_of rfl rfl rfl rfl) hE rfl (o_BadWord C) (g_BadWord C) (b_super C) (show Room (0 + 1) _ from hr.mono (by decide)) (by decide) (va_cons ve_int va_nil)))
  vss_nil)
  (vss_cons (vs_set (i := 1) sc_need_row.nd rfl (Or.inl rfl) (ve_str (l := []) rfl))
  (vss_one (vs_for (passes_of rfl) rfl (vi_enumS (b_enumerate C) (va_cons (vv 0) va_nil)) (vg_tup (n := 2) rfl rfl (vgs_cons (vg_name (i := 2) sc_need_row.nd rfl (Or.inl rfl)) (vgs_cons (vg_name (i := 3) sc_need_row.nd rfl (Or.inl rfl)) vgs_nil)))
  (vss_cons (vs_if (VW.vt (vw_or (vt_cmp g_notin (vv 3) (ve_gs (l := [65, 66, 67, 68, 97, 98, 99, 100]) (c_LETTERS C) rfl) (by rfl)) (vw_or1 (vt_cmp (g_eq hr.units) (vv 3) (ve_fz (veo_m0 PySem.F.slot_str_swapcase PySem.F.type_str_swapcase m_swap (vv 1))) (nomark _)))))
  (vss_one (vs_raise (c := 8) rfl (takes_of rfl rfl rfl rfl) hE rfl (o_BadWord C) (g_BadWord C) (b_super C) (show Room (0 + 1) _ from hr.mono (by decide)) (by decide) (va_cons (vv 2) va_nil)))
  vss_nil)
  (vss_one (vs_set (i := 1) sc_need_row.nd rfl (Or.inl rfl) (vv 3))))))))) ob_need_row), g_need_row C, F.kp, (F.bindsN (fun _ _ _ _ _ _ us hl => match us, hl with | [_], _ => rfl))⟩
def N_Word___init__ : List Str := ["self", "letters"]
theorem sc_Word___init__ : FnScope N_Word___init__ ["self", "letters"] (defScope s_Word___init__) := ⟨rfl, rfl, rfl, by decide +kernel, rfl, by decide +kernel, by decide +kernel⟩
theorem k_Word (C : Ctx w K mg) : MkP prg w K mg base (TT K) 3 20 ["letters"] [[], [.str []]] (initS 20 i_Word) := by
  obtain ⟨fd, F⟩ := f_Word___init__ C
  refine ⟨_, fd, mk_Word C, (refF F sc_Word___init__ len_Word___init__ (fun cdv A outer s H E B vs0 F0 er hr hE => (vss_cons (vs_expr (ve_fz (veo_fn (k_need_row C) hE (hr.mono (by decide)) passE (va_cons (vv 1) va_nil))))
  (vss_cons (vs_if (vt_cmp g_gt (ve_fz (veo_callB (c_len rfl) (b_len C) (by decide +kernel) (va_cons (vv 1) va_nil))) (ve_gi (c_MOST_LETTERS C)) (nomark _))
  (vss_one (vs_raise (c := 11) rfl (takes_of rfl rfl rfl rfl) hE rfl (o_TooMany C) (g_TooMany C) (b_super C) (show Room (0 + 1) _ from hr.mono (by decide)) (by decide) (va_cons (ve_str (l := [108, 101, 116, 116, 101, 114, 115]) rfl) (va_cons (ve_gi (c_MOST_LETTERS C)) va_nil))))
  vss_nil)
  (vss_cons (vs_putO (i := 0) (j := 0) (c := 20) rfl (fc C) (by decide) rfl rfl (Or.inl rfl) (vv 1))
  (vss_one (vs_putO (i := 0) (j := 1) (c := 20) rfl (fc C) (by decide) rfl rfl (Or.inl rfl) (ve_fz (veo_callB (c_len rfl) (b_len C) (by decide +kernel) (va_cons (vv 1) va_nil))))))))) ob_Word___init__), ?_, ?_⟩
  · intro dd hd
    cases hd with
    | head =>
      obtain ⟨ds, hv, hb⟩ := F.binds1 2 1 (ps := ["self", "letters"]) (fun z => nomatch z) rfl (fun T kV doc pm an cdv ct us its h1 h2 => match us, its, h1, h2 with
        | [_, _], [_], _, _ => ⟨_, rfl, rfl⟩)
      cases hv
      exact ⟨[], [], fun _ => .nil, .nil, hb⟩
    | tail _ h =>
      cases h with
      | head =>
        obtain ⟨ds, hv, hb⟩ := F.binds1 1 0 (ps := ["self", "letters"]) (fun z => nomatch z) rfl (fun T kV doc pm an cdv ct us its h1 h2 => match us, its, h1, h2 with
          | [_], [_], _, _ => ⟨_, rfl, rfl⟩)
        exact ⟨_, ds, fun _ => .cons (rep_str _ _ rfl (cpsB_ok rfl)) .nil, hv, hb⟩
      | tail _ h => cases h
  · obtain ⟨its, hk⟩ := F.kbindsD (ps := ["self", "letters"]) 1 ["letters"] (fun {α} us its ws => us ++ ws) (fun z => nomatch z) (fun r1 _ r3 => r1.append r3) (fun T kV doc pm an cdv ct us its ws h1 h2 h3 => match us, its, ws, h1, h2, h3 with
      | [_], [_], [_], _, _, _ => ⟨_, rfl, rfl⟩)
    exact ⟨_, hk⟩
def N_need_word : List Str := ["value"]
theorem sc_need_word : FnScope N_need_word ["value"] (defScope s_need_word) := ⟨rfl, rfl, rfl, by decide +kernel, rfl, by decide +kernel, by decide +kernel⟩
theorem k_need_word (C : Ctx w K mg) : CallOk prg w K mg base 2 "need_word" ["value"] (spP K (TT K) (fnS PL.f_need_word)) := by
  obtain ⟨fd, F⟩ := f_need_word C
  exact ⟨_, fd, (fnF F sc_need_word len_need_word (fun cdv A outer s H E B vs0 F0 er hr hE => (vss_one (vs_if (vt_not (vt_tr rfl (ve_fz (veo_callB (c_isi rfl (fc C)) (b_isinstance C) (by decide +kernel) (va_cons (vv 0) (va_cons (ve_cls (c := 20) rfl (g_Word C)) va_nil))))))
  (vss_one (vs_raise (c := 8) rfl (takes_of rfl rfl rfl rfl) hE rfl (o_BadWord C) (g_BadWord C) (b_super C) (show Room (0 + 1) _ from hr.mono (by decide)) (by decide) (va_cons ve_int va_nil)))
  vss_nil))) ob_need_word), g_need_word C, F.kp, (F.bindsN (fun _ _ _ _ _ _ us hl => match us, hl with | [_], _ => rfl))⟩
def N_product : List Str := ["one", "other", "many"]
theorem sc_product : FnScope N_product ["one", "other"] (defScope s_product) := ⟨rfl, rfl, rfl, by decide +kernel, rfl, by decide +kernel, by decide +kernel⟩
theorem k_product (C : Ctx w K mg) : CallOk prg w K mg base 1 "product" ["one", "other"] (spP K (TT K) (fnS PL.f_product)) := by
  obtain ⟨fd, F⟩ := f_product C
  exact ⟨_, fd, (fnF F sc_product len_product (fun cdv A outer s H E B vs0 F0 er hr hE => (vss_cons (vs_set (i := 2) sc_product.nd rfl (Or.inl rfl) ve_int)
  (vss_cons (vs_while (passes_of rfl) (VW.vt (vw_and (vt_cmp g_lt (vv 2) (ve_fz (veo_callB (c_len rfl) (b_len C) (by decide +kernel) (va_cons (vv 0) va_nil))) (nomark _)) (vw_and (vt_cmp g_lt (vv 2) (ve_fz (veo_callB (c_len rfl) (b_len C) (by decide +kernel) (va_cons (vv 1) va_nil))) (nomark _)) (vw_and1 (vt_cmp (g_eq hr.units) (ve_ix rfl (vv 0) (ve_bin g_sub (ve_bin g_sub (ve_fz (veo_callB (c_len rfl) (b_len C) (by decide +kernel) (va_cons (vv 0) va_nil))) ve_int) (vv 2)) (fun _ _ => rfl)) (ve_fz (veo_m0 PySem.F.slot_str_swapcase PySem.F.type_str_swapcase m_swap (ve_ix rfl (vv 1) (vv 2) (fun _ _ => rfl)))) (nomark _))))))
  (vss_one (vs_aug (i := 2) sc_product.nd rfl (Or.inl rfl) ve_int ip_add)))
  (vss_one (vs_ret (ve_bin g_add (ve_sl rfl (vv 0) vp_none (vp_some (ve_bin g_sub (ve_fz (veo_callB (c_len rfl) (b_len C) (by decide +kernel) (va_cons (vv 0) va_nil))) (vv 2)))) (ve_sl rfl (vv 1) (vp_some (vv 2)) vp_none))))))) ob_product), g_product C, F.kp, (F.bindsN (fun _ _ _ _ _ _ us hl => match us, hl with | [_, _], _ => rfl))⟩
def N_Word___mul__ : List Str := ["self", "other"]
theorem sc_Word___mul__ : FnScope N_Word___mul__ ["self", "other"] (defScope s_Word___mul__) := ⟨rfl, rfl, rfl, by decide +kernel, rfl, by decide +kernel, by decide +kernel⟩
theorem k_Word___mul__ (C : Ctx w K mg) : Special prg w K mg base 5 (He.ga K "Word") "__mul__" ["self", "other"] (spP K (TT K) (fnS PL.f_Word___mul__)) := by
  obtain ⟨fd, F⟩ := f_Word___mul__ C
  exact ⟨_, fd, me_Word___mul__ C, (fnF F sc_Word___mul__ len_Word___mul__ (fun cdv A outer s H E B vs0 F0 er hr hE => (vss_cons (vs_expr (ve_fz (veo_fn (k_need_word C) hE (hr.mono (by decide)) passE (va_cons (vv 1) va_nil))))
  (vss_one (vs_ret (ve_fz (veo_mk [] rfl (k_Word C) made_Word (.head _) hE (hr.mono (by decide)) passE (g_Word C) (va_cons (ve_fz (veo_fn (k_product C) hE (hr.mono (by decide)) passE (va_cons (ve_fld (tb := [(20, 0)]) rfl (fc C) (by decide) (vv 0)) (va_cons (ve_fld (tb := [(20, 0)]) rfl (fc C) (by decide) (vv 1)) va_nil)))) va_nil))))))) ob_Word___mul__), (F.bindsN (fun _ _ _ _ _ _ us hl => match us, hl with | [_, _], _ => rfl))⟩
def N_undone : List Str := ["letters"]
theorem sc_undone : FnScope N_undone ["letters"] (defScope s_undone) := ⟨rfl, rfl, rfl, by decide +kernel, rfl, by decide +kernel, by decide +kernel⟩
theorem k_undone (C : Ctx w K mg) : CallOk prg w K mg base 1 "undone" ["letters"] (spP K (TT K) (fnS PL.f_undone)) := by
  obtain ⟨fd, F⟩ := f_undone C
  exact ⟨_, fd, (fnF F sc_undone len_undone (fun cdv A outer s H E B vs0 F0 er hr hE => (vss_one (vs_ret (ve_fz (veo_m0 PySem.F.slot_str_swapcase PySem.F.type_str_swapcase m_swap (ve_revS (vv 0))))))) ob_undone), g_undone C, F.kp, (F.bindsN (fun _ _ _ _ _ _ us hl => match us, hl with | [_], _ => rfl))⟩
def N_Word___invert__ : List Str := ["self"]
theorem sc_Word___invert__ : FnScope N_Word___invert__ ["self"] (defScope s_Word___invert__) := ⟨rfl, rfl, rfl, by decide +kernel, rfl, by decide +kernel, by decide +kernel⟩
theorem k_Word___invert__ (C : Ctx w K mg) : Special prg w K mg base 5 (He.ga K "Word") "__invert__" ["self"] (spP K (TT K) (fnS PL.f_Word___invert__)) := by
  obtain ⟨fd, F⟩ := f_Word___invert__ C
  exact ⟨_, fd, me_Word___invert__ C, (fnF F sc_Word___invert__ len_Word___invert__ (fun cdv A outer s H E B vs0 F0 er hr hE => (vss_one (vs_ret (ve_fz (veo_mk [] rfl (k_Word C) made_Word (.head _) hE (hr.mono (by decide)) passE (g_Word C) (va_cons (ve_fz (veo_fn (k_undone C) hE (hr.mono (by decide)) passE (va_cons (ve_fld (tb := [(20, 0)]) rfl (fc C) (by decide) (vv 0)) va_nil))) va_nil)))))) ob_Word___invert__), (F.bindsN (fun _ _ _ _ _ _ us hl => match us, hl with | [_], _ => rfl))⟩
def N__law_told : List Str := ["told", "due"]
theorem sc__law_told : FnScope N__law_told ["told", "due"] (defScope s__law_told) := ⟨rfl, rfl, rfl, by decide +kernel, rfl, by decide +kernel, by decide +kernel⟩
theorem k__law_told (C : Ctx w K mg) : CallOk prg w K mg base 1 "_law_told" ["told", "due"] (spP K (TT K) (fnS PL.f__law_told)) := by
  obtain ⟨fd, F⟩ := f__law_told C
  exact ⟨_, fd, (fnF F sc__law_told len__law_told (fun cdv A outer s H E B vs0 F0 er hr hE => (vss_one (vs_ret (ve_ifE (vt_tr rfl (vv 1)) (ve_cmp g_is (vv 0) ve_bl (nomark _)) (ve_cmp g_is (vv 0) ve_bl (nomark _)))))) ob__law_told), g__law_told C, F.kp, (F.bindsN (fun _ _ _ _ _ _ us hl => match us, hl with | [_, _], _ => rfl))⟩
def N_Word_fits : List Str := ["self", "other"]
theorem sc_Word_fits : FnScope N_Word_fits ["self", "other"] (defScope s_Word_fits) := ⟨rfl, rfl, rfl, by decide +kernel, rfl, by decide +kernel, by decide +kernel⟩
theorem k_Word_fits (C : Ctx w K mg) : MethOk prg w K mg base 3 (He.ga K "Word") "fits" ["other"] (spP K (TT K) (fnS PL.f_Word_fits)) := by
  obtain ⟨fd, F⟩ := f_Word_fits C
  exact ⟨cl_Word C, _, fd, me_Word_fits C, (fnF F sc_Word_fits len_Word_fits (fun cdv A outer s H E B vs0 F0 er hr hE => (vss_cons (vs_expr (ve_fz (veo_fn (k_need_word C) hE (hr.mono (by decide)) passE (va_cons (vv 1) va_nil))))
  (vss_one (vs_ret (ve_or (ve_cmp (g_eq hr.units) (ve_fld (tb := [(20, 1)]) rfl (fc C) (by decide) (vv 0)) ve_int (nomark _)) (ve_or (ve_cmp (g_eq hr.units) (ve_fld (tb := [(20, 1)]) rfl (fc C) (by decide) (vv 1)) ve_int (nomark _)) (ve_one (ve_cmp (g_ne hr.units) (ve_ix rfl (ve_fld (tb := [(20, 0)]) rfl (fc C) (by decide) (vv 0)) (ve_neg ve_int) (fun _ _ => rfl)) (ve_fz (veo_m0 PySem.F.slot_str_swapcase PySem.F.type_str_swapcase m_swap (ve_ix rfl (ve_fld (tb := [(20, 0)]) rfl (fc C) (by decide) (vv 1)) ve_int (fun _ _ => rfl)))) (nomark _))))))))) ob_Word_fits), (F.bindsN (fun _ _ _ _ _ _ us hl => match us, hl with | [_, _], _ => rfl)), _, kbnM F (fun _ _ _ _ _ _ _ _ => rfl)⟩
def N_Word___eq__ : List Str := ["self", "other"]
theorem sc_Word___eq__ : FnScope N_Word___eq__ ["self", "other"] (defScope s_Word___eq__) := ⟨rfl, rfl, rfl, by decide +kernel, rfl, by decide +kernel, by decide +kernel⟩
theorem k_Word___eq__ (C : Ctx w K mg) : Special prg w K mg base 1 (He.ga K "Word") "__eq__" ["self", "other"] (spP K (TT K) (fnS PL.f_Word___eq__)) := by
  obtain ⟨fd, F⟩ := f_Word___eq__ C
  exact ⟨_, fd, me_Word___eq__ C, (fnF F sc_Word___eq__ len_Word___eq__ (fun cdv A outer s H E B vs0 F0 er hr hE => (vss_cons (vs_if (vt_not (vt_tr rfl (ve_fz (veo_callB (c_isi rfl (fc C)) (b_isinstance C) (by decide +kernel) (va_cons (vv 1) (va_cons (ve_cls (c := 20) rfl (g_Word C)) va_nil))))))
  (vss_one vs_never)
  vss_nil)
  (vss_one (vs_ret (ve_cmp (g_eq hr.units) (ve_tup (va_cons (ve_fld (tb := [(20, 1)]) rfl (fc C) (by decide) (vv 0)) (va_cons (ve_fld (tb := [(20, 0)]) rfl (fc C) (by decide) (vv 0)) va_nil))) (ve_tup (va_cons (ve_fld (tb := [(20, 1)]) rfl (fc C) (by decide) (vv 1)) (va_cons (ve_fld (tb := [(20, 0)]) rfl (fc C) (by decide) (vv 1)) va_nil))) (nomark _)))))) ob_Word___eq__), (F.bindsN (fun _ _ _ _ _ _ us hl => match us, hl with | [_, _], _ => rfl))⟩
theorem ni_Word (C : Ctx w K mg) : ∃ f, Meth K (He.ga K "Word") "__eq__" f ∧ NiRaw prg w K mg base 1 (He.ga K "Word") f :=
  ⟨_, me_Word___eq__ C, niRaw_of (f_Word___eq__ C) sc_Word___eq__ (fun _ _ _ _ _ _ us hl => match us, hl with | [_, _], _ => rfl) rfl (b_NotImplemented C) rfl (fun cdv A outer s H => ⟨_, (pt_not (pt_val (pe_callB call_isZ (by rfl) (b_isinstance C) (by decide +kernel) (pa_cons (pv 1) (pa_cons (pe_glob (v := .ref (He.ga K "Word")) rfl (g_Word C) rfl) pa_nil))))), fun a y t' ty kt =>
    ⟨_, rfl, _, _, _, .ref (He.ga K "Word"), false, rfl, .own _, ty, kt, _, rfl, rfl, rfl⟩⟩)⟩
def N__law_pair_right : List Str := ["one", "other", "first", "then", "made", "due", "is_whole"]
theorem sc__law_pair_right : FnScope N__law_pair_right ["one", "other"] (defScope s__law_pair_right) := ⟨rfl, rfl, rfl, by decide +kernel, rfl, by decide +kernel, by decide +kernel⟩
theorem k__law_pair_right (C : Ctx w K mg) : CallOk prg w K mg base 6 "_law_pair_right" ["one", "other"] (spP K (TT K) (fnS PL.f__law_pair_right)) := by
  obtain ⟨fd, F⟩ := f__law_pair_right C
  exact ⟨_, fd, (fnF F sc__law_pair_right len__law_pair_right (fun cdv A outer s H E B vs0 F0 er hr hE => (vss_cons (vs_par (i := 2) (j := 3) rfl sc__law_pair_right.nd rfl rfl (by decide) rfl rfl (va_cons (ve_fz (veo_mk [] rfl (k_Word C) made_Word (.head _) hE (hr.mono (by decide)) passE (g_Word C) (va_cons (vv 0) va_nil))) (va_cons (ve_fz (veo_mk [] rfl (k_Word C) made_Word (.head _) hE (hr.mono (by decide)) passE (g_Word C) (va_cons (vv 1) va_nil))) va_nil)) (by rfl))
  (vss_cons (vs_par (i := 4) (j := 5) rfl sc__law_pair_right.nd rfl rfl (by decide) rfl rfl (va_cons (ve_fz (veo_own2 (c := 20) (op := .Mult) rfl (k_Word___mul__ C) (sf_Word C) hE (hr.mono (by decide)) passE (vv 2) (vv 3))) (va_cons (ve_fz (veo_fn (k__law_struck C) hE (hr.mono (by decide)) passE (va_cons (ve_bin g_add (vv 0) (vv 1)) va_nil))) va_nil)) (by rfl))
  (vss_cons (vs_if (VW.vt (vw_or (vt_not (vt_tr rfl (ve_fz (veo_callB (c_isi rfl (fc C)) (b_isinstance C) (by decide +kernel) (va_cons (vv 4) (va_cons (ve_cls (c := 20) rfl (g_Word C)) va_nil)))))) (vw_or (vt_cmp (g_ne hr.units) (ve_fld (tb := [(20, 0)]) rfl (fc C) (by decide) (vv 4)) (vv 5) (nomark _)) (vw_or1 (vt_cmp (g_ne hr.units) (ve_fld (tb := [(20, 0)]) rfl (fc C) (by decide) (ve_fz (veo_inv (c := 20) rfl (k_Word___invert__ C) hE (hr.mono (by decide)) passE (vv 4)))) (ve_fz (veo_fn (k__law_back C) hE (hr.mono (by decide)) passE (va_cons (vv 5) va_nil))) (nomark _))))))
  (vss_one (vs_ret ve_bl))
  vss_nil)
  (vss_cons (vs_set (i := 6) sc__law_pair_right.nd rfl (Or.inl rfl) (ve_cmp (g_eq hr.units) (ve_fz (veo_callB (c_len rfl) (b_len C) (by decide +kernel) (va_cons (vv 5) va_nil))) (ve_bin g_add (ve_fz (veo_callB (c_len rfl) (b_len C) (by decide +kernel) (va_cons (vv 0) va_nil))) (ve_fz (veo_callB (c_len rfl) (b_len C) (by decide +kernel) (va_cons (vv 1) va_nil)))) (nomark _)))
  (vss_cons (vs_if (VW.vt (vw_or (vt_not (vt_tr rfl (ve_fz (veo_fn (k__law_told C) hE (hr.mono (by decide)) passE (va_cons (ve_fz (veo_meth (c := 20) rfl (k_Word_fits C) (by decide) (vv 2) hE (hr.mono (by decide)) passE (va_cons (vv 3) va_nil))) (va_cons (vv 6) va_nil)))))) (vw_or1 (vt_not (vt_tr rfl (ve_fz (veo_fn (k__law_told C) hE (hr.mono (by decide)) passE (va_cons (ve_fz (veo_methK (c := 20) rfl (k_Word_fits C) (by decide) (vv 2) hE (hr.mono (by decide)) passE (vk_cons (vv 3) vk_nil))) (va_cons (vv 6) va_nil)))))))))
  (vss_one (vs_ret ve_bl))
  vss_nil)
  (vss_cons (vs_if (VW.vt (vw_or (vt_cmp (g_ne hr.units) (ve_fld (tb := [(20, 0)]) rfl (fc C) (by decide) (ve_fz (veo_own2 (c := 20) (op := .Mult) rfl (k_Word___mul__ C) (sf_Word C) hE (hr.mono (by decide)) passE (ve_fz (veo_inv (c := 20) rfl (k_Word___invert__ C) hE (hr.mono (by decide)) passE (vv 2))) (vv 2)))) (ve_str (l := []) rfl) (nomark _)) (vw_or (vt_ownN (c := 20) rfl (k_Word___eq__ C) (ty_Word C) (ne_Word C) hE (hr.mono (by decide)) passE (ve_fz (veo_inv (c := 20) rfl (k_Word___invert__ C) hE (hr.mono (by decide)) passE (ve_fz (veo_inv (c := 20) rfl (k_Word___invert__ C) hE (hr.mono (by decide)) passE (vv 2))))) (vv 2)) (vw_or (vt_ownN (c := 20) rfl (k_Word___eq__ C) (ty_Word C) (ne_Word C) hE (hr.mono (by decide)) passE (ve_fz (veo_own2 (c := 20) (op := .Mult) rfl (k_Word___mul__ C) (sf_Word C) hE (hr.mono (by decide)) passE (vv 4) (ve_fz (veo_inv (c := 20) rfl (k_Word___invert__ C) hE (hr.mono (by decide)) passE (vv 3))))) (vv 2)) (vw_or1 (vt_ownN (c := 20) rfl (k_Word___eq__ C) (ty_Word C) (ne_Word C) hE (hr.mono (by decide)) passE (ve_fz (veo_own2 (c := 20) (op := .Mult) rfl (k_Word___mul__ C) (sf_Word C) hE (hr.mono (by decide)) passE (ve_fz (veo_inv (c := 20) rfl (k_Word___invert__ C) hE (hr.mono (by decide)) passE (vv 2))) (vv 4))) (vv 3)))))))
  (vss_one (vs_ret ve_bl))
  vss_nil)
  (vss_cons (vs_if (VW.vt (vw_or (vt_ownN (c := 20) rfl (k_Word___eq__ C) (ty_Word C) (ne_Word C) hE (hr.mono (by decide)) passE (ve_fz (veo_own2 (c := 20) (op := .Mult) rfl (k_Word___mul__ C) (sf_Word C) hE (hr.mono (by decide)) passE (ve_fz (veo_inv (c := 20) rfl (k_Word___invert__ C) hE (hr.mono (by decide)) passE (vv 3))) (ve_fz (veo_inv (c := 20) rfl (k_Word___invert__ C) hE (hr.mono (by decide)) passE (vv 2))))) (ve_fz (veo_inv (c := 20) rfl (k_Word___invert__ C) hE (hr.mono (by decide)) passE (vv 4)))) (vw_or (vt_ownN (c := 20) rfl (k_Word___eq__ C) (ty_Word C) (ne_Word C) hE (hr.mono (by decide)) passE (ve_fz (veo_own2 (c := 20) (op := .Mult) rfl (k_Word___mul__ C) (sf_Word C) hE (hr.mono (by decide)) passE (vv 2) (ve_fz (veo_mk0 [.str []] rfl (k_Word C) made_Word (.tail _ (.head _)) hE (hr.mono (by decide)) passE (g_Word C))))) (vv 2)) (vw_or1 (vt_ownN (c := 20) rfl (k_Word___eq__ C) (ty_Word C) (ne_Word C) hE (hr.mono (by decide)) passE (ve_fz (veo_own2 (c := 20) (op := .Mult) rfl (k_Word___mul__ C) (sf_Word C) hE (hr.mono (by decide)) passE (ve_fz (veo_mk0 [.str []] rfl (k_Word C) made_Word (.tail _ (.head _)) hE (hr.mono (by decide)) passE (g_Word C))) (vv 3))) (vv 3))))))
  (vss_one (vs_ret ve_bl))
  vss_nil)
  (vss_one (vs_ret (ve_and (ve_cmp (g_eq hr.units) (ve_fld (tb := [(20, 0)]) rfl (fc C) (by decide) (vv 2)) (vv 0) (nomark _)) (ve_and (ve_cmp (g_eq hr.units) (ve_fld (tb := [(20, 0)]) rfl (fc C) (by decide) (vv 3)) (vv 1) (nomark _)) (ve_one (ve_fz (veo_fn (k__law_told C) hE (hr.mono (by decide)) passE (va_cons (ve_fz (ve_ownC (op := .Eq) (c := 20) rfl (fun _ _ => rfl) (k_Word___eq__ C) hE (hr.mono (by decide)) passE (vv 4) (vv 2) (nomark _))) (va_cons (ve_cmp (g_eq hr.units) (vv 1) (ve_str (l := []) rfl) (nomark _)) va_nil))))))))))))))))) ob__law_pair_right), g__law_pair_right C, F.kp, (F.bindsN (fun _ _ _ _ _ _ us hl => match us, hl with | [_, _], _ => rfl))⟩
def N__law_refused_right : List Str := ["pen", "one", "word", "odd", "heard", "caught"]
theorem sc__law_refused_right : FnScope N__law_refused_right ["pen", "one"] (defScope s__law_refused_right) := ⟨rfl, rfl, rfl, by decide +kernel, rfl, by decide +kernel, by decide +kernel⟩
theorem k__law_refused_right (C : Ctx w K mg) (TBs : ∀ p ∈ tf, TabB base mg (He.cT K p).1 (He.cT K p).2) : CallOk prg w K mg base 8 "_law_refused_right" ["pen", "one"] (spP K (TT K) (refS PL.g__law_refused_right)) := by
  obtain ⟨fd, F⟩ := f__law_refused_right C
  have TB : TabB base mg (He.cT K ("_law_refused_right", none)).1 (He.cT K ("_law_refused_right", none)).2 := TBs _ (by simp [tf])
  have HM : (((He.cT K ("_law_refused_right", none)).2, ("_law_refused_right" : Str) ++ (".<locals>." : Str) ++ ("<lambda>" : Str)) : Addr × Str) ∈ TT K := List.mem_map.mpr ⟨(("_law_refused_right" : Str), none), by simp [tf], rfl⟩
  have HU := hu_of (tt_nd C) HM
  exact ⟨_, fd, (refFL F sc__law_refused_right len__law_refused_right (fun A outer s H E B vs0 F0 er hr hE => (vss_cons (vs_asg (ve_tup (va_cons (ve_fz (veo_mk [] rfl (k_Word C) made_Word (.head _) hE (hr.mono (by decide)) passE (g_Word C) (va_cons (vv 1) va_nil))) (va_cons (ve_fz (veo_ref (i := 0) rfl (Or.inl rfl) (k__law_pick C) hE (hr.mono (by decide)) passE (va_cons (ve_fz (veo_lst (va_cons ve_non (va_cons ve_int (va_cons (ve_str (l := [65]) rfl) (va_cons (ve_str (l := []) rfl) (va_cons (ve_fz (veo_lst (va_cons (ve_str (l := [65]) rfl) va_nil))) (va_cons (ve_tup (va_cons (ve_str (l := [65]) rfl) va_nil)) (va_cons ve_bl (va_cons ve_int va_nil)))))))))) va_nil))) va_nil))) (vg_tup (n := 2) rfl rfl (vgs_cons (vg_name (i := 2) sc__law_refused_right.nd rfl (Or.inr rfl)) (vgs_cons (vg_name (i := 3) sc__law_refused_right.nd rfl (Or.inr rfl)) vgs_nil))))
  (vss_cons (vs_setO (i := 4) sc__law_refused_right.nd rfl (Or.inl rfl) (veo_lst (va_cons (ve_heard (k := 5) rfl (fc C) (by decide) (fun tt h => pe_heard C TB rfl HM HU (hr.mono (by decide)) (show LamS (defScope s__law_refused_right) _ from lamS_by (by decide +kernel)) (fun A outer s H E f c' hr hx => h A outer s H E f c' hr hx)) (fun A outer s H E f c' B F0 vs0 er' hr hx hE => (ve_fz (veo_mulA (c := 20) rfl (k_Word___mul__ C) (dec_Word C) (sf_Word C) (rm_Word C) hE (hr.mono (by decide)) hx (vv 2) (vv 3)))) (em_fz (em_mulA em_var em_var))) va_nil)))
  (vss_cons (vs_expr (ve_app (i := 4) rfl (Or.inl rfl) (ve_heard (k := 3) rfl (fc C) (by decide) (fun tt h => pe_heard C TB rfl HM HU (hr.mono (by decide)) (show LamS (defScope s__law_refused_right) _ from lamS_by (by decide +kernel)) (fun A outer s H E f c' hr hx => h A outer s H E f c' hr hx)) (fun A outer s H E f c' B F0 vs0 er' hr hx hE => (ve_fz (veo_meth (c := 20) rfl (k_Word_fits C) (by decide) (vv 2) hE (hr.mono (by decide)) hx (va_cons (vv 3) va_nil)))) (em_fz (em_meth em_var (em_cons em_var em_nil))))))
  (vss_cons (vs_for (passes_of rfl) rfl (vi_lst rfl (vv 4)) (vg_name (i := 5) sc__law_refused_right.nd rfl (Or.inl rfl))
  (vss_one (vs_if (VW.vt (vw_or (vt_not (vt_tr rfl (ve_fz (veo_callB (c_isi rfl (fc C)) (b_isinstance C) (by decide +kernel) (va_cons (vv 5) (va_cons (ve_cls (c := 8) rfl (g_BadWord C)) va_nil)))))) (vw_or (vt_cmp (g_ne hr.units) (ve_fldX (tb := [(8, 0)]) rfl (fc C) (by decide) (vv 5)) ve_int (nomark _)) (vw_or1 (vt_cmp g_is (ve_fldX (tb := [(8, 0)]) rfl (fc C) (by decide) (vv 5)) ve_bl (nomark _))))))
  (vss_one (vs_ret ve_bl))
  vss_nil)))
  (vss_one (vs_ret (ve_and (ve_cmp g_is (ve_eqA (c := 20) rfl (k_Word___eq__ C) (ni_Word C) (dec_Word C) (ki_all (fc C) (by decide)) hE (hr.mono (by decide)) (hr.mono (by decide)) passE (vv 2) (vv 3)) ve_bl (nomark _)) (ve_one (ve_cmp g_is (ve_neA (c := 20) rfl (k_Word___eq__ C) (ty_Word C) (ni_Word C) (dec_Word C) (ki_all (fc C) (by decide)) hE (hr.mono (by decide)) (hr.mono (by decide)) passE (vv 2) (vv 3)) ve_bl (nomark _))))))))))) ob__law_refused_right rfl), g__law_refused_right C, F.kp, (F.bindsN (fun _ _ _ _ _ _ us hl => match us, hl with | [_, _], _ => rfl))⟩
def N__law_long_right : List Str := ["pen", "units", "many", "one", "other", "short", "first", "then", "more", "caught"]
theorem sc__law_long_right : FnScope N__law_long_right ["pen"] (defScope s__law_long_right) := ⟨rfl, rfl, rfl, by decide +kernel, rfl, by decide +kernel, by decide +kernel⟩
theorem k__law_long_right (C : Ctx w K mg) (TBs : ∀ p ∈ tf, TabB base mg (He.cT K p).1 (He.cT K p).2) : CallOk prg w K mg base 8 "_law_long_right" ["pen"] (spP K (TT K) (refS PL.g__law_long_right)) := by
  obtain ⟨fd, F⟩ := f__law_long_right C
  have TB : TabB base mg (He.cT K ("_law_long_right", none)).1 (He.cT K ("_law_long_right", none)).2 := TBs _ (by simp [tf])
  have HM : (((He.cT K ("_law_long_right", none)).2, ("_law_long_right" : Str) ++ (".<locals>." : Str) ++ ("<lambda>" : Str)) : Addr × Str) ∈ TT K := List.mem_map.mpr ⟨(("_law_long_right" : Str), none), by simp [tf], rfl⟩
  have HU := hu_of (tt_nd C) HM
  exact ⟨_, fd, (refFL F sc__law_long_right len__law_long_right (fun A outer s H E B vs0 F0 er hr hE => (vss_cons (vs_par (i := 1) (j := 2) rfl sc__law_long_right.nd rfl rfl (by decide) rfl rfl (va_cons (ve_fz (veo_ref (i := 0) rfl (Or.inl rfl) (k__law_pick C) hE (hr.mono (by decide)) passE (va_cons (ve_fz (veo_lst (va_cons (ve_fz (veo_lst (va_cons (ve_str (l := [65, 66]) rfl) (va_cons (ve_str (l := [67, 68]) rfl) va_nil)))) (va_cons (ve_fz (veo_lst (va_cons (ve_str (l := [100, 65]) rfl) (va_cons (ve_str (l := [99, 98]) rfl) va_nil)))) (va_cons (ve_fz (veo_lst (va_cons (ve_str (l := [97]) rfl) (va_cons (ve_str (l := [66]) rfl) va_nil)))) va_nil))))) va_nil))) (va_cons (ve_bin g_add ve_int (ve_fz (veo_ref (i := 0) rfl (Or.inl rfl) (k__law_draw C) hE (hr.mono (by decide)) passE (va_cons ve_int va_nil)))) va_nil)) (by rfl))
  (vss_cons (vs_par (i := 3) (j := 4) rfl sc__law_long_right.nd rfl rfl (by decide) rfl rfl (va_cons (ve_bin g_mulT (ve_ix rfl (vv 1) ve_int (fun _ _ => rfl)) (vv 2)) (va_cons (ve_bin g_mulT (ve_ix rfl (vv 1) ve_int (fun _ _ => rfl)) (ve_bin g_sub (ve_bin g_add (ve_bin g_sub (ve_bin g_fdiv ve_int (ve_fz (veo_callB (c_len rfl) (b_len C) (by decide +kernel) (va_cons (ve_ix rfl (vv 1) ve_int (fun _ _ => rfl)) va_nil)))) (vv 2)) (ve_fz (veo_ref (i := 0) rfl (Or.inl rfl) (k__law_draw C) hE (hr.mono (by decide)) passE (va_cons ve_int va_nil)))) ve_int)) va_nil)) (by rfl))
  (vss_cons (vs_set (i := 5) sc__law_long_right.nd rfl (Or.inl rfl) (ve_sl rfl (vv 4) vp_none (vp_some (ve_bin g_sub (ve_fz (veo_callB (c_len rfl) (b_len C) (by decide +kernel) (va_cons (vv 4) va_nil))) ve_int))))
  (vss_cons (vs_asg (ve_tup (va_cons (ve_fz (veo_mk [] rfl (k_Word C) made_Word (.head _) hE (hr.mono (by decide)) passE (g_Word C) (va_cons (vv 3) va_nil))) (va_cons (ve_fz (veo_mk [] rfl (k_Word C) made_Word (.head _) hE (hr.mono (by decide)) passE (g_Word C) (va_cons (ve_bin g_add (ve_fz (veo_fn (k__law_back C) hE (hr.mono (by decide)) passE (va_cons (vv 3) va_nil))) (vv 5)) va_nil))) va_nil))) (vg_tup (n := 2) rfl rfl (vgs_cons (vg_name (i := 6) sc__law_long_right.nd rfl (Or.inr rfl)) (vgs_cons (vg_name (i := 7) sc__law_long_right.nd rfl (Or.inl rfl)) vgs_nil))))
  (vss_cons (vs_if (VW.vt (vw_or (vt_cmp (g_ne hr.units) (ve_fld (tb := [(20, 0)]) rfl (fc C) (by decide) (ve_fz (veo_own2 (c := 20) (op := .Mult) rfl (k_Word___mul__ C) (sf_Word C) hE (hr.mono (by decide)) passE (vv 6) (vv 7)))) (vv 5) (nomark _)) (vw_or1 (vt_cmp (g_ne hr.units) (ve_fld (tb := [(20, 0)]) rfl (fc C) (by decide) (ve_fz (veo_own2 (c := 20) (op := .Mult) rfl (k_Word___mul__ C) (sf_Word C) hE (hr.mono (by decide)) passE (ve_fz (veo_inv (c := 20) rfl (k_Word___invert__ C) hE (hr.mono (by decide)) passE (vv 7))) (ve_fz (veo_inv (c := 20) rfl (k_Word___invert__ C) hE (hr.mono (by decide)) passE (vv 6)))))) (ve_fz (veo_fn (k__law_back C) hE (hr.mono (by decide)) passE (va_cons (vv 5) va_nil))) (nomark _)))))
  (vss_one (vs_ret ve_bl))
  vss_nil)
  (vss_cons (vs_set (i := 8) sc__law_long_right.nd rfl (Or.inr rfl) (ve_fz (veo_mk [] rfl (k_Word C) made_Word (.head _) hE (hr.mono (by decide)) passE (g_Word C) (va_cons (vv 4) va_nil))))
  (vss_cons (vs_if (vt_cmp g_le (ve_bin g_add (ve_fz (veo_callB (c_len rfl) (b_len C) (by decide +kernel) (va_cons (vv 3) va_nil))) (ve_fz (veo_callB (c_len rfl) (b_len C) (by decide +kernel) (va_cons (vv 4) va_nil)))) ve_int (nomark _))
  (vss_one (vs_ret (ve_cmp (g_eq hr.units) (ve_fld (tb := [(20, 0)]) rfl (fc C) (by decide) (ve_fz (veo_own2 (c := 20) (op := .Mult) rfl (k_Word___mul__ C) (sf_Word C) hE (hr.mono (by decide)) passE (vv 6) (vv 8)))) (ve_bin g_add (vv 3) (vv 4)) (nomark _))))
  vss_nil)
  (vss_cons (vs_set (i := 9) sc__law_long_right.nd rfl (Or.inl rfl) (ve_heard (k := 5) rfl (fc C) (by decide) (fun tt h => pe_heard C TB rfl HM HU (hr.mono (by decide)) (show LamS (defScope s__law_long_right) _ from lamS_by (by decide +kernel)) (fun A outer s H E f c' hr hx => h A outer s H E f c' hr hx)) (fun A outer s H E f c' B F0 vs0 er' hr hx hE => (ve_fz (veo_own2 (c := 20) (op := .Mult) rfl (k_Word___mul__ C) (sf_Word C) hE (hr.mono (by decide)) hx (vv 6) (vv 8)))) (em_fz (em_own2 em_var em_var))))
  (vss_one (vs_ret (ve_and (ve_fz (veo_callB (c_isi rfl (fc C)) (b_isinstance C) (by decide +kernel) (va_cons (vv 9) (va_cons (ve_cls (c := 11) rfl (g_TooMany C)) va_nil)))) (ve_and (ve_cmp (g_eq hr.units) (ve_fldX (tb := [(11, 0)]) rfl (fc C) (by decide) (vv 9)) (ve_str (l := [108, 101, 116, 116, 101, 114, 115]) rfl) (nomark _)) (ve_one (ve_cmp (g_eq hr.units) (ve_fldX (tb := [(11, 1)]) rfl (fc C) (by decide) (vv 9)) ve_int (nomark _)))))))))))))))) ob__law_long_right rfl), g__law_long_right C, F.kp, (F.bindsN (fun _ _ _ _ _ _ us hl => match us, hl with | [_], _ => rfl))⟩
def N_law : List Str := ["script", "pen", "turn", "one", "other", "third"]
theorem sc_law : FnScope N_law ["script"] (defScope s_law) := ⟨rfl, rfl, rfl, by decide +kernel, rfl, by decide +kernel, by decide +kernel⟩
def spLaw (K : PySem.W.Frag) : Sp := fun vs H Q _ => ∃ a ns, vs = [.ref a] ∧ SqL K H a (List.map V.int ns) ∧ ns.length ≤ 63 ∧ Tabs (TT K) H ∧ ∀ H', Q (.bl true) H'
theorem ok_law (C : Ctx w K mg) (TBs : ∀ p ∈ tf, TabB base mg (He.cT K p).1 (He.cT K p).2) {fd : FuncData} (FL : FunD K "law" "law" (defArgs s_law) (defBody s_law) (defScope s_law) [] [] (He.ga K "law") fd) : FnOk prg w K mg base (L2.CX prg w) 9 (He.ga K "law") fd ["script"] (spLaw K) := by
  refine fnOkL FL sc_law (fun vs H Q E h => ?_) (fun A outer s H vs Q E hr h => ?_)
  · obtain ⟨a, ns, rfl, _⟩ := h
    rfl
  · obtain ⟨a, ns, rfl, ha, hlen, hT, k⟩ := h
    have hE : ErOk (Y0 K (TT K)) noE E := erNo
    refine ⟨_, pss_cons (ps_set (i := 1) sc_law.nd rfl (Or.inl rfl) (pe_callD (k0__law_pen C) (hr.mono (by decide)) passE (pa_cons (pv 0) pa_nil))) (show VSs _ (Y0 K (TT K)) noE _ t_law from (vss_cons (vs_for (passes_of rfl) rfl (vi_rng1 (by rfl) (b_range C) (va_cons ve_int va_nil)) (vg_name (i := 2) sc_law.nd rfl (Or.inl rfl))
  (vss_cons (vs_set (i := 3) sc_law.nd rfl (Or.inl rfl) (ve_fz (veo_ref (i := 1) rfl (Or.inl rfl) (k__law_row C) hE (hr.mono (by decide)) passE (va_cons ve_int va_nil))))
  (vss_cons (vs_set (i := 4) sc_law.nd rfl (Or.inl rfl) (ve_fz (veo_ref (i := 1) rfl (Or.inl rfl) (k__law_partner C) hE (hr.mono (by decide)) passE (va_cons (vv 3) va_nil))))
  (vss_cons (vs_if (VW.vt (vw_or (vt_not (vt_tr rfl (ve_fz (veo_fn (k__law_pair_right C) hE (hr.mono (by decide)) passE (va_cons (vv 3) (va_cons (vv 4) va_nil)))))) (vw_or (vt_not (vt_tr rfl (ve_fz (veo_fn (k__law_pair_right C) hE (hr.mono (by decide)) passE (va_cons (vv 4) (va_cons (vv 3) va_nil)))))) (vw_or1 (vt_not (vt_tr rfl (ve_fz (veo_ref (i := 1) rfl (Or.inl rfl) (k__law_refused_right C TBs) hE (hr.mono (by decide)) passE (va_cons (vv 3) va_nil)))))))))
  (vss_one (vs_ret ve_bl))
  vss_nil)
  (vss_cons (vs_set (i := 5) sc_law.nd rfl (Or.inl rfl) (ve_fz (veo_mk [] rfl (k_Word C) made_Word (.head _) hE (hr.mono (by decide)) passE (g_Word C) (va_cons (ve_fz (veo_ref (i := 1) rfl (Or.inl rfl) (k__law_row C) hE (hr.mono (by decide)) passE (va_cons ve_int va_nil))) va_nil))))
  (vss_cons (vs_if (vt_ownN (c := 20) rfl (k_Word___eq__ C) (ty_Word C) (ne_Word C) hE (hr.mono (by decide)) passE (ve_fz (veo_own2 (c := 20) (op := .Mult) rfl (k_Word___mul__ C) (sf_Word C) hE (hr.mono (by decide)) passE (ve_fz (veo_own2 (c := 20) (op := .Mult) rfl (k_Word___mul__ C) (sf_Word C) hE (hr.mono (by decide)) passE (ve_fz (veo_mk [] rfl (k_Word C) made_Word (.head _) hE (hr.mono (by decide)) passE (g_Word C) (va_cons (vv 3) va_nil))) (ve_fz (veo_mk [] rfl (k_Word C) made_Word (.head _) hE (hr.mono (by decide)) passE (g_Word C) (va_cons (vv 4) va_nil))))) (vv 5))) (ve_fz (veo_own2 (c := 20) (op := .Mult) rfl (k_Word___mul__ C) (sf_Word C) hE (hr.mono (by decide)) passE (ve_fz (veo_mk [] rfl (k_Word C) made_Word (.head _) hE (hr.mono (by decide)) passE (g_Word C) (va_cons (vv 3) va_nil))) (ve_fz (veo_own2 (c := 20) (op := .Mult) rfl (k_Word___mul__ C) (sf_Word C) hE (hr.mono (by decide)) passE (ve_fz (veo_mk [] rfl (k_Word C) made_Word (.head _) hE (hr.mono (by decide)) passE (g_Word C) (va_cons (vv 4) va_nil))) (vv 5))))))
  (vss_one (vs_ret ve_bl))
  vss_nil)
  (vss_one (vs_if (vt_not (vt_tr rfl (ve_fz (veo_fn (k__law_told C) hE (hr.mono (by decide)) passE (va_cons (ve_fz (ve_ownC (op := .Eq) (c := 20) rfl (fun _ _ => rfl) (k_Word___eq__ C) hE (hr.mono (by decide)) passE (ve_fz (veo_mk [] rfl (k_Word C) made_Word (.head _) hE (hr.mono (by decide)) passE (g_Word C) (va_cons (vv 3) va_nil))) (ve_fz (veo_mk [] rfl (k_Word C) made_Word (.head _) hE (hr.mono (by decide)) passE (g_Word C) (va_cons (vv 4) va_nil))) (nomark _))) (va_cons (ve_cmp (g_eq hr.units) (vv 3) (vv 4) (nomark _)) va_nil))))))
  (vss_one (vs_ret ve_bl))
  vss_nil))))))))
  (vss_one (vs_ret (ve_or (ve_cmp g_gt (ve_fz (veo_ref (i := 1) rfl (Or.inl rfl) (k__law_draw C) hE (hr.mono (by decide)) passE (va_cons ve_int va_nil))) ve_int (nomark _)) (ve_one (ve_fz (veo_ref (i := 1) rfl (Or.inl rfl) (k__law_long_right C TBs) hE (hr.mono (by decide)) passE va_nil)))))))).pss, ?_⟩
    refine ⟨_, rfl, a, ns, rfl, ha, hlen, fun p c F0 H1 s1 P1 => ?_⟩
    exact law_rest ob_law P1 (hT.ext (s1.trans P1.same)) rfl rfl rfl k
end
end K02

end
section
set_option maxHeartbeats 0
namespace K02
open PySem PySem.Spec PyProof.Rows L2 SBX SB LamX
theorem lawAtS (w : World) (mg : Str → Option Value) (fa : Addr) (h : Heap) (G : h.Ns mainGlobals mg) (hmg : mg "law" = some (.ref fa)) (Y : hk.says w h) : ∃ K : PySem.W.Frag, K.In h ∧ LawAtS lw w K (L2.CX prg w) 9 63 "script" mg fa h := by
  obtain ⟨K, KX, c⟩ := Y
  have C : Ctx w K mg := ⟨h, KX, G, c⟩
  have e : fa = He.ga K "law" := by
    have := hmg.symm.trans (g_law C)
    cases this
    rfl
  subst e
  obtain ⟨fd, F⟩ := f_law C
  refine ⟨K, KX, fd, tf.map (He.cT K), spLaw K, fun p hp => ?_, fun p hp => ?_, fun p hp => ?_, fun s u => ?_, fun H a ns hlen _ hT ha => ?_, fun base KB GB TBs => ?_⟩
  · obtain ⟨q, hq, rfl⟩ := List.mem_map.mp hp
    exact c.empty q hq
  · obtain ⟨q, hq, rfl⟩ := List.mem_map.mp hp
    exact c.out q hq
  · obtain ⟨q, hq, rfl⟩ := List.mem_map.mp hp
    exact PySem.W.codeHd_of_K KX (c.hd q hq)
  · exact F.bindsA (ps := ["script"]) (fun _ _ _ _ _ _ us hl => match us, hl with | [_], _ => rfl) s [u] rfl
  · refine ⟨a, ns, rfl, ha, hlen, fun p hp => ?_, fun _ => rfl⟩
    obtain ⟨q, hq, rfl⟩ := List.mem_map.mp hp
    exact TabS.nil (hT _ (List.mem_map.mpr ⟨q, hq, rfl⟩))
  · exact ok_law C (fun p hp => TBs _ (List.mem_map.mpr ⟨p, hp, rfl⟩)) F
end K02
open PySem PySem.W PySem.Calls PyProof.Rows
theorem PySem.Challenge.cw_sevenball_k02_products_and_undoings_holds : PySem.Challenge.rw_sevenball_k02_products_and_undoings.Holds := by
  w_on; o_law
  refine HandSHeadRun.head_any (r := OpenLaw.row PySem.Challenge.rw_sevenball_k02_products_and_undoings) (q := view (OpenLaw.row PySem.Challenge.rw_sevenball_k02_products_and_undoings).prog [36]) (H := K02.hk) (ob := K02.ob) (M := 8000) (loose := K02.loose) (d := HandSHeadRun.topDef (OpenLaw.row PySem.Challenge.rw_sevenball_k02_products_and_undoings).prog 36) (kwd := []) K02.ob_eq
    (by kernel_rfl) (fun s => by kernel_rfl) K02.run (by kernel_rfl) (by kernel_rfl) (by kernel_rfl) (by rfl) (by first | assumption | decide +kernel) (by decide +kernel) ⟨rfl, rfl, rfl, rfl, rfl, by decide +kernel⟩ ?hw ?hc
  case hw => w_witness2
  case hc =>
    refine LamX.walk_ofTsE (l := PySem.Challenge.rw_sevenball_k02_products_and_undoings) (n := 63) (k := 9) (x := "script") (CX := fun w => L2.CX K02.prg w) rfl (by decide) (by kernel_rfl) ⟨rfl, by decide, by decide⟩ ?F (fun w H s e s' c => SB.noCX2 c)
    intro w mg fa h Y G hmg0
    have hmg : mg ("law" : PySem.Str) = some (.ref fa) := by
      have e : (HandSHeadRun.topDef (OpenLaw.row PySem.Challenge.rw_sevenball_k02_products_and_undoings).prog 36).name = ("law" : PySem.Str) := by kernel_rfl
      rw [← e]
      exact hmg0
    exact K02.lawAtS w mg fa h G hmg Y

end
