import PyProof.Rows.All
import Wide.All
import OpenK.AllK
import Wide.FinOn
import HandS.ForMost
import HandS.ForExc
import HandS.ExcInit
import HandS.ExcSuper
import KE.KExcSuper
import KE.RegKSuper
import HandS.TryMany
import HandS.ExcField
import HandS.ExcIs
import KE.KExcIs
import HandS.Wide
import HandS.Style
import HandS.TupAny
import HandS.Flow
import HandS.TupLe
import HandS.Deep
import HandS.More
import HandS.Star
import HandS.Defaults
import HandS.IsInst
import HandS.FStr
import PyProof.Rows.StrIntSpec
import PySem.Challenge.RW_strawturn_k01_ratios_and_names
set_option Elab.async false
set_option linter.all false
set_option maxRecDepth 100000
set_option maxHeartbeats 2100000
/-! # EX1: an error over ValueError by way of another class of one's own, whose __init__ says super().__init__('..') and keeps its arguments. -/
namespace PySem
namespace EXS
open PySem.W PySem.Calls PyProof.Rows PySem.HandSPX Builtin Builtin.ObjectAttr

section
variable {prog : Program} {w : World} {A : Around} {E : Value → Shared → Prop} {h : Heap}
variable {g : Array GenState} {d : Drawn} {t : Nat} {os : OsState}
variable {nm q : Str} {C N : Addr} {bs bm : List Value} {hdct : Bool} {sn : List Str} {sub : List Value} {ab : Bool} {col : Option Bool} {dd : Option Addr} {c0 c1 c2 c3 c5 : Option Value}
theorem call_mw {u e t0 : Addr} {rest : List Value} {Q : Value → Shared → Prop}
    (hC : h.get? C = some (excClassObj nm q C N bs bm hdct sn sub ab col dd c0 c1 c2 c3 c5 "ValueError.__new__")) (he : h.get? e = some (HandSPX.excO C t0)) (hub : h.get? u = some (kxs_mw "ValueError.__init__" e)) (hrest : rest.length ≤ sizeLine)
    (hq : ∀ hz tz, (∀ y o, y ≠ e → h.get? y = some o → hz.get? y = some o) → hz.get? e = some (HandSPX.excO C tz) → Q .none ⟨hz, g, d, t, os⟩) : wpAny (model prog w) A (call (.ref u) rest) Q E ⟨h, g, d, t, os⟩ := by
  refine wpAny_call (codeAny_of_tree (show wpAny _ A.in1 (callAny (.ref u) ⟨rest, []⟩) _ _ _ from ?_))
  simp only [callAny]
  apply wpAny_bind
  refine wpAny_load hub ?_
  simp only [kxs_mw, show (Value.type "method-wrapper" == Value.type "method" || Value.type "method-wrapper" == Value.type "builtin_function_or_method" || Value.type "method-wrapper" == Value.type "method-wrapper") = true by decide, if_true]
  apply W.KFB.if_so (by decide)
  refine wpAny_bind (check_bound_init F.excBase_ValueError.toExcCallFacts hC he rfl ?_)
  refine wpAny_bind (wpAny_pure (show wpAny _ _ _ _ _ _ from wpAny_pure ?_))
  refine ⟨Code.quiet_builtin _ (by decide +kernel), codeAny_builtin F.excBase_ValueError.initEntry ?_⟩
  rw [Around.under_plainId F.excBase_ValueError.init.plain _]
  wp_walk
  refine hq _ h.objs.size (fun y o ny ho => (Heap.get?_update_other _ _ (Ne.symm ny)).trans (Heap.get?_push_of_some _ ho)) ((Heap.get?_update_self _ (Heap.get?_push_of_some _ he) rfl).trans rfl)
end

/-- self.f = f for each field, in the fields' order -/
inductive Stores : List Str → List Stmt → Prop where
  | nil : Stores [] []
  | cons {f : Str} {fs : List Str} {sts : List Stmt} {q1 q2 q3 q4 : Pos} (r : Stores fs sts) : Stores (f :: fs) (.Assign [.Attribute (.Name "self" q1) f q2] (.Name f q3) q4 :: sts)
/-- the map of a dict behind these stores -/
def upm (m : Str → Option Value) : List Str → List Value → Str → Option Value
  | f :: fs, v :: vs => upm (fun y => if y = f then some v else m y) fs vs
  | _, _ => m
structure ExTxt (P : Program) (K : Frag) (mg : Str → Option Value) (x : Str) (C fI cc cda : Addr) (fs : List Str) (st : Stmt) (qual : Str) : Prop where
  gC : mg x = some (.ref C)
  cls : ∃ nm q N bs bm sn sub ab col dd c0 c1 c2 c3 c5, K.lookup C = some (excClassObj nm q C N bs bm true sn sub ab col dd c0 c1 c2 c3 c5 "ValueError.__new__") ∧ refsVE bm = true
  (sa : findIn K (.ref C) "__setattr__" = some (some (.builtin "object.__setattr__")))
  noN : ∀ f ∈ fs, findIn K (.ref C) f = some none
  (iC : findIn K (.ref C) "__init__" = some (some (.ref fI)))
  (tC : typeIn K (.ref fI) = some (.type "function"))
  kC : keepIn K (.ref C) = true
  (exC : subIn K (.ref C) (.type "BaseException") = some true)
  (tyC : typeIn K (.ref C) = some (.type "type"))
  su : ks_superIn K C C "__init__" = some (some (.builtin "ValueError.__init__"))
  sB : subIn K (.ref C) (.type "ValueError") = some true
  op : nsIn K cStatics "thirdparty.any" = some none
  cell : ∃ cl cld csl, K.lookup cc = some ⟨cl, cld, .cell (some (.ref C)), csl⟩
  code : ∃ ccl cdd vs ccs file tf, K.lookup cda = some ⟨ccl, cdd, .fields vs, ccs⟩ ∧ vs[2]? = some (.str file tf) ∧ ((P.main.file : Str) == file) = true
  top : (P.main.scope.names.lookup ("super" : Str)).isSome = false
  sup : mg "super" = none
  fn : ∃ oc odi doc pm an ct osl, K.lookup fI = some ⟨oc, odi, .func (ksFn "__init__" qual (L2.defArgs st) (L2.defBody st) (L2.defScope st) .none .none doc pm an (.ref cda) ct cc), osl⟩
  cd : codeIn K (.ref cda) qual = true
  bind : ∀ (doc pm : Value) (an : Option Addr) (ct : Value) (y : Value) (us : List Value), us.length = fs.length → bindArgs (ksFn "__init__" qual (L2.defArgs st) (L2.defBody st) (L2.defScope st) .none .none doc pm an (.ref cda) ct cc) ⟨y :: us, []⟩ = pure ((("self" : Str), y) :: fs.zip us)
  body : ∃ p0 p1 p2 p3 p4 p5 msg j sts, L2.defBody st = .Expr (.Call (.Attribute (.Call (.Name "super" p0) [] [] p1) "__init__" p2) [.Constant (.str msg) j p3] [] p4) p5 :: sts ∧ Stores fs sts ∧
    (∀ env : Env, ∃ pl : Sem Bool, eval (.Call (.Attribute (.Call (.Name "super" p0) [] [] p1) "__init__" p2) [.Constant (.str msg) j p3] [] p4) env = (do
      let ov ← attributeBase (.Call (.Name "super" p0) [] [] p1) "__init__" env (eval (.Call (.Name "super" p0) [] [] p1) env)
      standAt p2.atName
      let (f, first) ← holding [ov] (getMethod ov "__init__" pl)
      callWith p4 f first (backTo p4 (starEach [.Constant (.str msg) j p3] env)) [])) ∧
    (∀ env : Env, swapsWith (.Call (.Attribute (.Call (.Name "super" p0) [] [] p1) "__init__" p2) [.Constant (.str msg) j p3] [] p4) none p5.line env = pure false)
  hd : ∃ ar, ((L2.defArgs st).posonlyargs ++ (L2.defArgs st).args).head? = some ar ∧ ar.arg = "self"
  sck : (L2.defScope st).kind = .function
  scc : (L2.defScope st).isCoroutine = false
  scg : (L2.defScope st).isGenerator = false
  scn : ∀ y ∈ (L2.defScope st).names, y.2 ≠ .cell
  scs : (L2.defScope st).names.lookup ("self" : Str) = some .local
  scf : ∀ f ∈ fs, (L2.defScope st).names.lookup f = some .local
  scu : (L2.defScope st).names.lookup ("super" : Str) = some .globalImplicit
  scx : (L2.defScope st).names.lookup ("__class__" : Str) = some .free
  nd : fs.Nodup
  ndS : ∀ f ∈ fs, f ≠ "self"
  few : fs.length ≤ 100
  ndb : ∀ f ∈ fs, (f == ("__debug__" : Str)) = false

/-- how the fresh exception at x stands behind its __init__ -/
structure InitEnd (h h' : Heap) (x C dx t1 : Addr) (m : Str → Option Value) : Prop where
  keep : ∀ y u, y ≠ x → h.get? y = some u → h'.get? y = some u
  (obj : h'.get? x = some { cls := .ref C, dict := some dx, data := .fields #[.ref t1, .none, .none, .none, .bool false, .none] })
  dbig : h.objs.size ≤ dx
  dne : dx ≠ x
  ns : h'.Ns1 dx m
/-- a made one -/
structure OwnMade (h h' : Heap) (e C d : Addr) (m : Str → Option Value) : Prop where
  keep : ∀ y u, h.get? y = some u → h'.get? y = some u
  new : h.objs.size ≤ e
  (obj : ∃ oe vs, h'.get? e = some oe ∧ oe.cls = .ref C ∧ oe.dict = some d ∧ oe.data = .fields vs ∧ vs[1]? = some .none)
  dbig : h.objs.size ≤ d
  dne : d ≠ e
  ns : h'.Ns1 d m

section
variable {prog : Program} {w : World} {A : Around} {E : Value → Shared → Prop} {s : Shared} {K : Frag} {mg : Str → Option Value} {xn : Str} {C fI cc cda : Addr} {fs : List Str} {st : Stmt} {qual : Str}
theorem clsIn_of (T : ExTxt prog K mg xn C fI cc cda fs st qual) : ∃ cd, clsIn K C = some cd ∧ refsVE cd.mro = true ∧ cd.hasDict = true ∧ ∃ bm, cd.mro = .ref C :: bm := by
  obtain ⟨nm, q, N, bs, bm, sn, sub, ab, col, dd, c0, c1, c2, c3, c5, hC, hbm⟩ := T.cls
  exact ⟨{ name := nm, bases := bs, mro := .ref C :: bm, ns := N, qualname := q, hasDict := true, slotNames := sn, subclasses := sub, abstract := ab, collection := col, hasDel := false }, by unfold clsIn; rw [hC] <;> rfl, hbm, rfl, bm, rfl⟩
/-- the stores behind the first one: the dict is there -/
theorem stores_on {env : Env} {D : Around} {x dx t1 : Addr} {mF : Str → Option Value} (T : ExTxt prog K mg xn C fI cc cda fs st qual) (hk : env.scope.kind = .function) (hself : env.kindOf "self" = some .local) (mself : mF "self" = some (.ref x)) (dne : dx ≠ x) (dL : dx ≠ env.locals) (hK : K.lookup dx = none)
    {gs : List Str} {sts : List Stmt} (r : Stores gs sts) : ∀ {vs : List Value} {hp : Heap} {g : Array GenState} {dr : Drawn} {t : Nat} {os : OsState} {m0 : Str → Option Value} {nl : List Str} {Q : Flow → Shared → Prop}, (∀ f ∈ gs, f ∈ fs) → gs.length = vs.length → (∀ f ∈ gs, env.kindOf f = some .local) →
      (∀ (i : Nat) (f : Str), gs[i]? = some f → ∃ v, vs[i]? = some v ∧ mF f = some v) →
      K.In hp → hp.Ns env.locals mF → hp.get? x = some { cls := .ref C, dict := some dx, data := .fields #[.ref t1, .none, .none, .none, .bool false, .none] } → hp.Ns1 dx m0 → Within m0 nl → nl.length + gs.length ≤ 1000 →
      (∀ h' tk, (∀ b o, b ≠ dx → hp.get? b = some o → h'.get? b = some o) → h'.Ns1 dx (upm m0 gs vs) → Q .next ⟨h', g, dr, tk, os⟩) → wpAny (model prog w) D (execs sts env) Q E ⟨hp, g, dr, t, os⟩ := by
  obtain ⟨cd, hcd, hmro, hdd, _⟩ := clsIn_of T
  induction r with
  | nil =>
    intro vs hp g dr t os m0 nl Q _ hl _ _ _ _ _ nsd _ _ hq
    cases vs with
    | nil => exact wpAny_execs_nil (hq hp t (fun _ _ _ h => h) nsd)
    | cons _ _ => cases hl
  | @cons f gs sts q1 q2 q3 q4 r ih =>
    intro vs hp g dr t os m0 nl Q hin hl hloc hm X hF hx nsd hw hz hq
    cases vs with
    | nil => cases hl
    | cons v vs =>
    apply wpAny_execs_cons
    refine plainObj_wpAny_Assign_Attribute ?_
    obtain ⟨v', hv', mf⟩ := hm 0 f rfl
    have ev : v = v' := by simpa using hv'
    subst ev
    refine wpAny_Name (wpAny_loadName_local hk (hloc f List.mem_cons_self) hF mf ?_) (T.ndb f (hin f List.mem_cons_self))
    refine wpAny_Name (wpAny_loadName_local hk hself hF mself ?_) (by decide)
    obtain ⟨dob, des, dep, dgo, ddt, _⟩ := nsd.count hw
    refine set_plain X (ox := { cls := .ref C, dict := some dx, data := .fields #[.ref t1, .none, .none, .none, .bool false, .none] }) (od := some dob) ⟨hx, rfl, rfl, dgo⟩ T.sa ?_
    refine PySem.OEX.osa_old X hx nsd hw (by simp at hz; omega) hcd hmro hdd (T.noN f (hin f List.mem_cons_self)) (fun h' tk' k' hn' => ?_)
    change wpAny _ _ (execs _ _) _ _ _
    refine ih (vs := vs) (m0 := fun y => if y = f then some v else m0 y) (nl := f :: nl) (fun y hy => hin y (List.mem_cons_of_mem _ hy)) (by simpa using hl) (fun y hy => hloc y (List.mem_cons_of_mem _ hy)) (fun i y hy => ?_) (fun a o e => k' a o (fun z => by rw [z, hK] at e; cases e) (X a o e)) ?_ (k' x _ (Ne.symm dne) hx) hn' (Within.cons f v hw) (by simp at hz ⊢; omega) (fun h2 tk2 c2 hn2 => ?_)
    · obtain ⟨u, h1, h2⟩ := hm (i + 1) y (by simpa using hy)
      exact ⟨u, by simpa using h1, h2⟩
    · obtain ⟨oL, es, ep, hL, r⟩ := hF
      exact ⟨oL, es, ep, k' _ _ (Ne.symm dL) hL, r⟩
    · exact hq h2 tk2 (fun b o hb e => c2 b o hb (k' b o hb e)) hn2

theorem lookup_nd {α : Type} : ∀ {l : List (Str × α)} {k : Str} {v : α}, (l.map (·.1)).Nodup → (k, v) ∈ l → l.lookup k = some v
  | [], _, _, _, h => by cases h
  | (a, b) :: l, k, v, n, h => by
    rw [List.map_cons, List.nodup_cons] at n
    rcases List.mem_cons.mp h with e | h2
    · cases e
      simp [List.lookup]
    · have ne : (k == a) = false := by
        rw [beq_eq_false_iff_ne]
        rintro rfl
        exact n.1 (List.mem_map.mpr ⟨_, h2, rfl⟩)
      simp only [List.lookup, ne]
      exact lookup_nd n.2 h2
theorem lookup_rev {α : Type} {l : List (Str × α)} {k : Str} {v : α} (n : (l.map (·.1)).Nodup) (h : (k, v) ∈ l) : l.reverse.lookup k = some v :=
  lookup_nd (by rw [List.map_reverse]; exact (List.reverse_perm _).nodup_iff.mpr n) (List.mem_reverse.mpr h)
theorem low_init {R : Result → Shared → Prop} (T : ExTxt prog K mg xn C fI cc cda fs st qual) {x t0 : Addr} {us : List Value} (X : K.In s.heap) (hlim : s.heap.NoLimit) (hg : s.heap.Ns mainGlobals mg) (hb : ∃ mb, s.heap.Ns builtinsNs mb ∧ mb "super" = some (.type "super"))
    (hx : s.heap.get? x = some (excO C t0)) (fresh1 : K.lookup x = none) (hroom : A.depth < recursionLimit) (hl : us.length = fs.length) (hne : fs ≠ [])
    (hq : ∀ h' tk dx t1, InitEnd s.heap h' x C dx t1 (upm (fun _ => none) fs us) → R (.ok (.ret .none)) { s with heap := h', toks := tk }) :
    codeAny (model prog w) A (.call (.ref fI) ⟨.ref x :: us, []⟩) R s := by
  obtain ⟨oc, odi, doc, pm, an, ct, osl, ho⟩ := T.fn
  obtain ⟨p0, p1, p2, p3, p4, p5, msg, j, sts, hbody, hst, hev, hsw⟩ := T.body
  obtain ⟨nm, q, N, bs, bm, sn, sub, ab, col, dd, c0, c1, k2_, c3, c5, hC, hbm⟩ := T.cls
  obtain ⟨cdl, hcd, hmro, hdd, bm2, hm2⟩ := clsIn_of T
  have keys : (((("self" : Str), Value.ref x) :: fs.zip us).map (·.1)) = ("self" : Str) :: fs := by
    rw [List.map_cons, List.map_fst_zip (by omega)]
  have knd : (((("self" : Str), Value.ref x) :: fs.zip us).map (·.1)).Nodup := by
    rw [keys, List.nodup_cons]
    exact ⟨fun h => T.ndS _ h rfl, T.nd⟩
  refine ks_codeAny_call_defAt (fd := ksFn "__init__" qual (L2.defArgs st) (L2.defBody st) (L2.defScope st) .none .none doc pm an (.ref cda) ct cc) (binds := (("self" : Str), Value.ref x) :: fs.zip us) hroom (X _ _ ho) rfl hlim (codeRec_of X T.cd) rfl
    (BindsTo.of_eq (T.bind doc pm an ct (.ref x) us hl)) T.scn (fun y hy => ?_) (fun h1 nsd kp => ?_) T.scc T.scg T.sck
  · rcases List.mem_cons.mp hy with rfl | hy
    · exact T.scs
    · exact T.scf _ (List.of_mem_zip hy).1
  have X1 : K.In h1 := X.keeps kp
  have mself : ((("self" : Str), Value.ref x) :: fs.zip us).reverse.lookup ("self" : Str) = some (Value.ref x) := lookup_rev knd List.mem_cons_self
  have mfld : ∀ (i : Nat) (f : Str), fs[i]? = some f → ∃ v, us[i]? = some v ∧ ((("self" : Str), Value.ref x) :: fs.zip us).reverse.lookup f = some v := fun i f hf => by
    have hi : i < us.length := by rw [hl]; exact (List.getElem?_eq_some_iff.mp hf).1
    refine ⟨us[i], List.getElem?_eq_getElem hi, lookup_rev knd (List.mem_cons_of_mem _ ?_)⟩
    have : (fs.zip us)[i]? = some (f, us[i]) := by
      rw [List.getElem?_zip_eq_some]
      exact ⟨hf, List.getElem?_eq_getElem hi⟩
    exact List.mem_of_getElem? this
  obtain ⟨ccl, cdd, cvs, ccs, file, tf, hcode, hvs, hfile⟩ := T.code
  obtain ⟨ar, har, hself⟩ := T.hd
  obtain ⟨cl, cld, csl, hcell⟩ := T.cell
  obtain ⟨mb, hmb, hsup⟩ := hb
  have hx1 := kp _ _ hx
  have xne : s.heap.objs.size ≠ x := Nat.ne_of_gt (Heap.lt_size hx)
  have I1 : W.InstAt h1 x (excO C t0) C none := ⟨hx1, rfl, rfl, trivial⟩
  have xC : x ≠ C := fun z => by rw [z, hC] at fresh1; cases fresh1
  show wpAt _ _ _ (execs (L2.defBody st) _) _ _ _
  rw [hbody]
  obtain ⟨pl, hevE⟩ := hev (callEnv (ksFn "__init__" qual (L2.defArgs st) (L2.defBody st) (L2.defScope st) .none .none doc pm an (.ref cda) ct cc) s.heap.objs.size fI)
  rw [hbody] at hevE
  refine ks_wpAt_execs_cons (ks_wpAt_Expr_any (ks_wpAt_MethodCall (pl := pl) ?_ hevE) (by simp [interactive, callEnv, newEnv, T.sck]) (hsw _))
  refine ks_wpAt_mono (Q := fun ov s₁ => wpAny (model prog w) _ (getMethod ov "__init__" pl) _ _ s₁) (ks_wpAt_super_base T.scu T.scx (by decide) rfl (kp _ _ (X _ _ ho)) rfl har rfl (X1 _ _ hcode) rfl hvs hfile T.top ?_) (fun _ _ z => z) (fun _ _ z => z)
  refine ks_loadName_global T.sck T.scu (loadGlobal_builtin (hg.keeps kp) T.sup (hmb.keeps kp) hsup ⟨rfl, ?_⟩)
  refine wpAny_loadName_free T.sck T.scx rfl ⟨_, X1 _ _ hcell, rfl⟩ ?_
  refine wpAny_loadName_local T.sck (by rw [hself]; exact T.scs) nsd (by rw [hself]; exact mself) ?_
  refine ks_wpAny_isType_cls (X1 _ _ hC) rfl ⟨rfl, ?_⟩
  have msC : mroIn K C (.ref C) = some true := by
    unfold mroIn
    rw [hcd, Option.bind_some, hm2]
    simp
  refine ks_wpAny_call_super (X1 _ _ hC) rfl hx1 rfl (fun c z => by cases z) (looks_mroIn X1 msC) (fun h2 eso c2 => ?_)
  -- the bound __init__ of ValueError
  have X2 : K.In h2 := X1.keeps c2
  have I2 : W.InstAt h2 x (excO C t0) C none := ⟨c2 _ _ hx1, rfl, rfl, trivial⟩
  have hsu : alongIn K "__init__" ((cdl.mro.dropWhile (· != .ref C)).drop 1) = some (some (.builtin "ValueError.__init__")) := by
    have z := T.su
    unfold ks_superIn at z
    rw [hcd] at z
    exact z
  refine kxs_getMethod kxs_ValueError eso (looks_opaque X2 T.op) (l₀ := cdl.mro) (fun A Q E s k q => wpAny_bind ((looks_clsIn X2 hcd) A _ E s k (wpAny_pure q))) rfl X2 hsu (I2.type.andThen (looks_subIn X2 T.sB)) xC (by decide) ?_
  show wpAny _ _ (callWith p4 (.ref h2.objs.size) [] (backTo p4 (starEach [.Constant (.str msg) j p3] _)) []) _ _ _
  refine kxs_callWith (i := "ValueError.__init__") (x := x) rfl (evalArgs_plain ?_)
  refine Calls.spliced_cons ?_
  show wpAny _ _ (eval (.Constant (.str msg) j p3) _) _ _ _
  refine Calls.Constant_str (k := j) (pos := p3) ?_
  refine Calls.spliced_nil ⟨Heap.get?_push_size _ rfl, ?_⟩
  have hxp : (h2.push (kxs_mw "ValueError.__init__" x)).get? x = some (excO C t0) := Heap.get?_push_of_some _ (c2 _ _ hx1)
  have hCp : (h2.push (kxs_mw "ValueError.__init__" x)).get? C = some (excClassObj nm q C N bs bm true sn sub ab col dd c0 c1 k2_ c3 c5 "ValueError.__new__") := Heap.get?_push_of_some _ (X2 _ _ hC)
  refine call_mw hCp hxp (Heap.get?_push_size _ rfl) (by simp [sizeLine]) (fun g3 t1 k3' hx3 => ?_)
  show wpAt _ _ _ (execs sts _) _ _ _
  refine wpAt_of_wpAny ?_
  obtain ⟨f, fs', rfl⟩ := List.exists_cons_of_ne_nil hne
  obtain ⟨v, us', rfl⟩ : ∃ v us', us = v :: us' := by cases us with | nil => cases hl | cons v us' => exact ⟨v, us', rfl⟩
  cases hst with
  | @cons _ _ sts' q1 q2 q3 q4 r =>
  apply wpAny_execs_cons
  refine plainObj_wpAny_Assign_Attribute ?_
  have X3 : K.In g3 := fun a o e => k3' a o (fun z => by rw [z, fresh1] at e; cases e) (Heap.get?_push_of_some _ (X2 a o e))
  have hns3 : g3.Ns s.heap.objs.size (fun n => ((("self" : Str), Value.ref x) :: (f :: fs').zip (v :: us')).reverse.lookup n) := by
    obtain ⟨oL, es, ep, hL, r⟩ := nsd
    exact ⟨oL, es, ep, k3' _ _ xne (Heap.get?_push_of_some _ (c2 _ _ hL)), r⟩
  have z3 : s.heap.objs.size < g3.objs.size := by
    obtain ⟨oL, es, ep, hL, r⟩ := hns3
    exact Heap.lt_size hL
  obtain ⟨v', hv', mv⟩ := mfld 0 f rfl
  have ev : v = v' := by simpa using hv'
  subst ev
  refine wpAny_Name (wpAny_loadName_local T.sck (T.scf f List.mem_cons_self) hns3 mv ?_) (T.ndb f List.mem_cons_self)
  refine wpAny_Name (wpAny_loadName_local T.sck T.scs hns3 mself ?_) (by decide)
  refine set_plain X3 (ox := excO C t1) (od := none) ⟨hx3, rfl, rfl, trivial⟩ T.sa ?_
  refine exc_osa X3 hx3 hcd hmro hdd (T.noN f List.mem_cons_self) (fun g4 tk4 dx k4 hdx hdne hx4 hn4 => ?_)
  show wpAny _ _ (execs sts' _) _ _ _
  have hdx' : g3.objs.size ≤ dx := hdx
  have dL : dx ≠ s.heap.objs.size := by omega
  have X4 : K.In g4 := fun a o e => k4 a o (fun z => by rw [z, fresh1] at e; cases e) (X3 a o e)
  have dK : K.lookup dx = none := by
    cases e : K.lookup dx with
    | none => rfl
    | some o =>
      have z4 : dx < g3.objs.size := Heap.lt_size (X3 _ _ e)
      omega
  refine stores_on (T := T) (x := x) (dx := dx) (t1 := t1) (mF := fun n => ((("self" : Str), Value.ref x) :: (f :: fs').zip (v :: us')).reverse.lookup n) (by exact T.sck) (by exact T.scs) (by exact mself) hdne (by exact dL) dK r (m0 := fun y => if y = f then some v else none) (nl := [f]) (vs := us')
    (fun y hy => List.mem_cons_of_mem _ hy) (by simpa using hl.symm) (fun y hy => by exact T.scf y (List.mem_cons_of_mem _ hy)) (fun i y hy => ?_) X4 ?_ hx4 hn4 (Within.cons f v Within.nil) (by have := T.few; simp at this ⊢; omega) (fun h5 tk5 k5' hn5 => ?_)
  · obtain ⟨u, h1, h2⟩ := mfld (i + 1) y (by simpa using hy)
    exact ⟨u, by simpa using h1, h2⟩
  · obtain ⟨oL, es, ep, hL, r⟩ := hns3
    exact ⟨oL, es, ep, k4 _ _ xne hL, r⟩
  refine hq h5 tk5 dx t1 ⟨fun b o hb e => ?_, k5' x _ (Ne.symm hdne) hx4, by omega, hdne, hn5⟩
  refine k5' b o (fun z => ?_) (k4 b o hb (k3' b o hb (Heap.get?_push_of_some _ (c2 _ _ (kp _ _ e)))))
  have z4 : b < g3.objs.size := Heap.lt_size (k3' b o hb (Heap.get?_push_of_some _ (c2 _ _ (kp _ _ e))))
  subst z
  exact Nat.lt_irrefl _ (Nat.lt_of_lt_of_le z4 hdx')
theorem low_made (T : ExTxt prog K mg xn C fI cc cda fs st qual) {us : List Value} (X : K.In s.heap) (hlim : s.heap.NoLimit) (hg : s.heap.Ns mainGlobals mg) (hb : ∃ mb, s.heap.Ns builtinsNs mb ∧ mb "super" = some (.type "super")) (hroom : A.depth + 1 < recursionLimit) (hl : us.length = fs.length) (hne : fs ≠ []) (hsz : us.length ≤ sizeLine)
    (hq : ∀ h' tk e d, OwnMade s.heap h' e C d (upm (fun _ => none) fs us) → R (.ok (.ret (.ref e))) { s with heap := h', toks := tk }) :
    codeAny (model prog w) A (.call (.ref C) ⟨us, []⟩) R s := by
  obtain ⟨nm, q, N, bs, bm, sn, sub, ab, col, dd, c0, c1, c2, c3, c5, hC, hbm⟩ := T.cls
  obtain ⟨hp, g, dr, tk, osys⟩ := s
  have k : ∀ b o, hp.get? b = some o → ((hp.push (kdv_tup us)).push (excO C hp.objs.size)).get? b = some o := fun b o e => Heap.get?_push_of_some _ (Heap.get?_push_of_some _ e)
  have got1 : ((hp.push (kdv_tup us)).push (excO C hp.objs.size)).get? (hp.objs.size + 1) = some (excO C hp.objs.size) := by heap_get
  have fresh1 : K.lookup (hp.objs.size + 1) = none := by
    cases e : K.lookup (hp.objs.size + 1) with
    | none => rfl
    | some o =>
      have z : hp.get? (hp.objs.size + 1) = some o := X _ _ e
      exact (Nat.lt_irrefl _ (Nat.lt_of_succ_lt (Heap.lt_size z))).elim
  obtain ⟨mb, hmb, hsup⟩ := hb
  refine call_own F.excBase_ValueError (fun X => refsVE_contains X bm hbm) (X _ _ hC) (looks_findIn X T.iC) (fun self => bind_fn X self T.tC) hsz ?_
  refine low_init (s := ⟨(hp.push (kdv_tup us)).push (excO C hp.objs.size), g, dr, tk, osys⟩) T (X.keeps k) (hlim.keeps k) (hg.keeps k) ⟨mb, hmb.keeps k, hsup⟩ got1 fresh1 ?_ hl hne fun h' tk' dx t1 ⟨k', hx, nd0, dne, nsd⟩ => ?_
  · exact (show A.depth + 1 < recursionLimit from hroom)
  · have asb : ∀ b o, hp.get? b = some o → h'.get? b = some o := fun b o e => k' b o (Nat.ne_of_lt (Nat.lt_succ_of_lt (Heap.lt_size e))) (k b o e)
    have z : hp.objs.size + 1 + 1 ≤ dx := by
      first
        | (simpa only [Heap.size_push] using nd0)
        | exact nd0
        | (have q := nd0; rw [Heap.size_push, Heap.size_push] at q; exact q)
    exact ⟨rfl, hq h' tk' (hp.objs.size + 1) dx ⟨asb, Nat.le_succ _, ⟨_, _, hx, rfl, rfl, rfl, rfl⟩, Nat.le_trans (Nat.le_trans (Nat.le_succ _) (Nat.le_succ _)) z, dne, nsd⟩⟩
end
end EXS
end PySem
set_option maxRecDepth 100000
set_option maxHeartbeats 2100000
/-! # EX2: such an error made and raised; try with clauses of both kinds (with and without a name); isinstance of a caught error that has a dict. -/
namespace L2
open PySem PySem.Spec PyProof.Rows
theorem upm_not {y : Str} : ∀ {fs : List Str} {us : List Value} {m : Str → Option Value}, y ∉ fs → EXS.upm m fs us y = m y
  | [], _, _, _ => by unfold EXS.upm; rfl
  | f :: fs, [], _, _ => by unfold EXS.upm; rfl
  | f :: fs, u :: us, m, h => by
    unfold EXS.upm
    rw [upm_not (fun z => h (List.mem_cons_of_mem _ z))]
    simp only [if_neg (fun z : y = f => h (by rw [z]; exact List.mem_cons_self))]
theorem relO_upm {y : Str} : ∀ {fs : List Str} {vs : List V} {us : List Value} {m : Str → Option Value}, fs.Nodup → Vals vs us → fs.length = vs.length → m y = none → RelO ((fs.zip vs).lookup y) (EXS.upm m fs us y)
  | [], _, _, _, _, _, _, hm => by
    unfold EXS.upm
    simp [hm, RelO]
  | f :: fs, _, _, m, nd, .cons (a := v) (b := u) (l₁ := vs) (l₂ := us) r rs, hl, hm => by
    unfold EXS.upm
    rw [List.nodup_cons] at nd
    by_cases e : y = f
    · subst e
      rw [upm_not nd.1]
      simp only [if_true, List.zip_cons_cons, List.lookup, beq_self_eq_true]
      exact r
    · have ne : (y == f) = false := by simpa using e
      simp only [List.zip_cons_cons, List.lookup, ne]
      exact relO_upm nd.2 rs (by simpa using hl) (by simp [e, hm])
  | f :: fs, _, _, m, nd, .nil, hl, hm => by cases hl
section
variable {X : Cx} {C fI cc cda : Addr} {xn qual : Str} {fs : List Str} {st : Stmt}
/-- Xn(e ..) -/
def tMkX (C : Addr) (fs : List Str) (ta : TA) : St → Hp → XK → Prop := fun σ H Q => ta σ H fun vs H1 => vs.length = fs.length ∧ ∀ d, H1 d = none → Q (.ref C) (some d) (upd H1 d (.xd (fs.zip vs)))
theorem pmk_x {a : Expr} {as : List Expr} {ta : TA} {p pos : Pos} {k : Nat} (T : EXS.ExTxt X.prog X.K X.mg xn C fI cc cda fs st qual) (hr : Room k X.A) (ha : PA X (a :: as) ta) (hne : fs ≠ []) (hg : Gl X xn := by rfl)
    (he : starEach (a :: as) X.env = (false, eval a X.env) :: starEach as X.env := by rfl) (hpl : (backTo pos (starEach as X.env)).any (·.1) = false := by rfl) (hd : (xn == ("__debug__" : Str)) = false := by decide) :
    PMk X (.Call (.Name xn p) (a :: as) [] pos) (tMkX C fs ta) := by
  intro pins s σ H Q I h
  refine wpAny_Call_Name_kw (ld_glob I hg T.gC ?_ hd)
  refine PySem.W.callWith_K (h₀ := X.base) I.ok.mod.kin T.kC (thn (ha.run pos pins s σ H _ I h) fun us s1 hh => ?_) he hpl
  obtain ⟨vs, H1, I1, r1, ev, q1⟩ := hh
  refine ⟨I1.kIn, ?_⟩
  change wpAny _ _ (call (.ref C) us) _ _ _
  have hlim := I1.nolimit
  have hgl := I1.mod.glob.keeps I1.bk
  obtain ⟨mb, bk1, hb2⟩ := I1.mod.blt
  have hsup : mb "super" = some (.type "super") := (hb2 "super" (by decide)).trans (by rfl)
  have hbk := I1.bk
  have hlen : us.length = fs.length := by rw [← ev, Vals.length r1]
  have hfew := T.few
  obtain ⟨hp, g, dr, tk, os⟩ := s1
  refine wpAny_call (PySem.EXS.low_made T I1.kIn hlim hgl ⟨mb, bk1.keeps hbk, hsup⟩ (by have := hr.dp; omega) hlen hne (by rw [hlen]; exact Nat.le_trans hfew (by decide)) fun h' tk' e d M => ?_)
  change MkP X pins σ Q (.ref e) ⟨h', g, dr, tk', os⟩
  obtain ⟨oe, fv, got0, hc, hd, dat0, h1⟩ := M.obj
  have nsd := M.ns
  obtain ⟨G', g1, g2⟩ := restrict h' (fun y => decide (y ≠ e))
  have keepG : ∀ b, b ≠ e → G'.get? b = h'.get? b := fun b hb => g1 b (decide_eq_true hb)
  have goneG : G'.get? e = none := g2 e (by simp)
  have asb : ∀ b o, hp.get? b = some o → G'.get? b = some o := fun b o q => (keepG b (Nat.ne_of_lt (Nat.lt_of_lt_of_le (Heap.lt_size q) M.new))).trans (M.keep b o q)
  have ob : ObjOk X.prog X.w (upd H1 d (.xd (fs.zip vs))) G' d (.xd (fs.zip vs)) :=
    ⟨_, nsd.at (fun o q => (keepG d M.dne).trans q), fun f => relO_upm T.nd r1 ev.symm rfl⟩
  have J : Inv X pins σ (upd H1 d (.xd (fs.zip vs))) ⟨G', g, dr, tk', os⟩ := I1.laid (t' := tk') asb M.dbig ob
  refine ⟨e, oe, fv, ⟨G', g, dr, tk', os⟩, _, .ref C, some d, rfl, J, fun b o q => ?_, goneG, got0, ⟨hc, hd⟩, dat0, h1, ?_, rfl, I1.bare, raises_own T.exC T.tyC, q1 d (I1.hok.fresh M.dbig)⟩
  · by_cases hb : b = e
    · have q' : G'.get? b = some o := q
      rw [hb, goneG] at q'; cases q'
    · exact (keepG b hb).symm.trans q
  · rw [upd_ne (Ne.symm M.dne)]
    exact I1.hok.fresh M.new
end
/-! ### try with clauses of both kinds -/
/-- the ends of a suite whose clause names the exception in slot i -/
def asEnds (D : Ends) (i : Nat) : Ends := { nx := fun σ' H' => D.nx (σ'.set i none) H', rt := D.rt, bk := fun σ' H' => D.bk (σ'.set i none) H', ct := fun σ' H' => D.ct (σ'.set i none) H' }
def wAny (K : PySem.W.Frag) (Wout : WX) (D : Ends) : List (Value × Option Nat × (Addr → Value → Option Addr → TS)) → WX
  | [] => Wout
  | (c, none, ts) :: r => fun cls d σ H => ∃ b, PySem.W.exmOne K cls c = some b ∧ (b = true → ∀ a, H a = none → ts a cls d D σ H) ∧ (b = false → wAny K Wout D r cls d σ H)
  | (c, some i, ts) :: r => fun cls d σ H => ∃ b, PySem.W.exmOne K cls c = some b ∧ (b = true → ∀ a, H a = none → ts a cls d (asEnds D i) (σ.set i (some (.ref a))) H) ∧ (b = false → wAny K Wout D r cls d σ H)
inductive HdsA (X : Cx) : List ExceptHandler → List (Value × Option Nat × (Addr → Value → Option Addr → TS)) → Prop
  | nil : HdsA X [] []
  | bare {x : Str} {c : Value} {ts : Addr → Value → Option Addr → TS} {b₀ : Stmt} {suite : List Stmt} {np pos' : Pos} {hds : List ExceptHandler} {l : List (Value × Option Nat × (Addr → Value → Option Addr → TS))} (hc : Names X x c)
      (hsu : ∀ (a : Addr) (oe : Obj) (cls : Value) (d : Option Addr) (pn : List (Addr × Obj)), Zc cls d oe → (∃ vs, oe.data = .fields vs) → PSs (X.suite a ((a, oe) :: pn)) (b₀ :: suite) (ts a cls d)) (r : HdsA X hds l) :
      HdsA X (.ExceptHandler (some (.Name x np)) none (b₀ :: suite) pos' :: hds) ((c, none, ts) :: l)
  | nam {x n : Str} {i : Nat} {c : Value} {ts : Addr → Value → Option Addr → TS} {b₀ : Stmt} {suite : List Stmt} {np pos' : Pos} {hds : List ExceptHandler} {l : List (Value × Option Nat × (Addr → Value → Option Addr → TS))} (hc : Names X x c) (hN : X.N.Nodup) (hi : X.N[i]? = some n) (hln : X.env.kindOf n = some .local)
      (hsu : ∀ (a : Addr) (oe : Obj) (cls : Value) (d : Option Addr) (pn : List (Addr × Obj)), Zc cls d oe → (∃ vs, oe.data = .fields vs) → PSs (X.suite a ((a, oe) :: pn)) (b₀ :: suite) (ts a cls d)) (r : HdsA X hds l) :
      HdsA X (.ExceptHandler (some (.Name x np)) (some n) (b₀ :: suite) pos' :: hds) ((c, some i, ts) :: l)
section
variable {X : Cx} {body : List Stmt} {h₀ : ExceptHandler} {hds : List ExceptHandler} {l : List (Value × Option Nat × (Addr → Value → Option Addr → TS))} {pos : Pos} {tb : WX → TS} {Wout : WX}
/-- the lines of TryMany's proof, turned to clauses of both kinds -/
theorem ps_try_any (hs : X.stack = X.env :: X.outer) (hf : X.env.frame = some X.env.locals) (tk : Takes X Wout)
    (hb : ∀ (W : WX) (pn : List (Addr × Obj)) (xe : Value → Shared → Prop), Takes (X.tr pn xe) W → PassesOwn (model X.prog X.w) X.A X.env xe → PSs (X.tr pn xe) body (tb W))
    (hh : HdsA X (h₀ :: hds) l) : PS X (.Try body (h₀ :: hds) [] [] pos) (fun D σ H => tb (wAny X.K Wout D l) D σ H) := by
  refine ⟨fun pins s σ H D I h => ?_⟩
  have ok := I.ok
  have frm : X.A.frames = some (X.env :: X.outer) := by rw [ok.frames, hs]
  refine wpAny_Try_except ?_
  refine wpAny_mono ((hb (wAny X.K Wout D l) (X.pn ++ pins) (fun e s₁ => wpAny (model X.prog X.w) X.A (noteFrame e X.env) (fun _ s₂ => wpAny (model X.prog X.w) X.A (setFlight e none) (fun _ s₃ =>
    wpAny (model X.prog X.w) X.A (handleBy e X.env (h₀ :: hds)) (SP X pins D) X.xe s₃) X.xe s₂) X.xe s₁) (fun u s' xx => ?_) PassesOwn.looking).run [] s σ H D (I.toTry _) h) (fun f s1 after => ?_) (fun e s1 he => he)
  · -- the catch
    obtain ⟨a, B, sI, pins', σ', H', cls, d, rfl, J', nb, up, sky, na, os, ag, w⟩ := xx
    have J : Inv X pins σ' H' sI := (J'.ofTry ok)
    have skyB : Sky B (X.env :: X.outer) a (Zc cls d) X.env.locals s'.heap := by rw [← hs]; exact sky
    change wpAny (model X.prog X.w) X.A (noteFrame (.ref a) X.env) _ _ _
    refine Sky.land Zc.steady frm hf skyB fun g3 fh uh => ?_
    have Jh : Inv X pins σ' H' { s' with heap := g3 } := J.landed nb fh.1 (up.trans uh) os ag
    obtain ⟨oh, wh, eh, zh, dh⟩ := fh.there
    have offFrame : ∀ {h : Heap} {o : Obj} {vs : Array Value}, h.FunFrames B (X.env :: X.outer) → h.get? a = some o → o.data = .fields vs → a ∉ frs (X.env :: X.outer) := fun {h o vs} fra e dd hm => by
      obtain ⟨_, o', e', nfr0⟩ := fra.mem hm
      rw [e] at e'; cases e'
      exact nfr0 _ dd
    have offA := offFrame fh.2.2.1 eh dh
    have apL : a ≠ X.env.locals := fun z => offA (List.mem_filterMap.mpr ⟨X.env, List.mem_cons_self, by rw [hf, z]⟩)
    have apF : a ∉ X.fs := fun hm => by
      obtain ⟨e, he, q⟩ := List.mem_filterMap.mp hm
      exact offA (List.mem_filterMap.mpr ⟨e, List.mem_cons_of_mem _ he, q⟩)
    have Ih := Jh.suite eh dh na apL apF
    have go : ∀ {hds' : List ExceptHandler} {l' : List (Value × Option Nat × (Addr → Value → Option Addr → TS))}, HdsA X hds' l' → wAny X.K Wout D l' cls d σ' H' →
        wpAny (model X.prog X.w) X.A (handleBy (.ref a) X.env hds') (SP X pins D) X.xe { s' with heap := g3 } := by
      intro hds' l' hk
      induction hk with
      | nil =>
        intro w
        refine wpAny_handleBy_nil ?_
        obtain ⟨c1, c2, c3, oe, vs, T, oT, ts', he, hz, hd, h1, hr⟩ := id fh
        unfold PySem.passOn
        refine wpAny_bind (show wpAny _ _ _ _ _ _ from wpAny_field he hd h1 ?_)
        rw [if_neg (show ¬ ((Value.ref T == Value.none) = true) from by simp)]
        have finish : wpAny (model X.prog X.w) X.A (setFlight (.ref a) X.env.frame) (fun _ s4 => wpAny (model X.prog X.w) X.A (throw (.ref a) : Sem Flow) (SP X pins D) X.xe s4) X.xe { s' with heap := g3 } := by
          rw [hf]
          refine HandSPX.setFlight_upZ fh fun g4 hh4 uz => wpAny_throw (tk _ _ ?_)
          exact ⟨a, B, sI, pins, σ', H', cls, d, rfl, J, nb, (up.trans uh).trans uz, .inr (.inr (by rw [hs]; exact hh4)), na, os, ag, w⟩
        first
          | exact wpAny_bind (wpAny_pure (wpAny_bind finish))
          | exact wpAny_bind finish
      | @bare x c ts b₀ suite np pos' more l2 hc hsu r ih =>
        intro w
        obtain ⟨b, bk1, yes, nay⟩ := w
        refine wpAny_handleBy_cons (codeAny_handlers_test ?_) (fun z => by cases z)
        have Lty : PySem.W.Looks (model X.prog X.w) g3 (typeOf (.ref a)) cls := fun A Q E s k q => wpAny_typeOf_ref (k _ _ eh) (by rw [zh.1]; exact q)
        have Lmt := PySem.W.exm_one (M := model X.prog X.w) (Jh.kIn) Lty bk1
        have tried : ∀ {Q : Value → Shared → Prop} {E : Value → Shared → Prop}, Q c { s' with heap := g3 } → wpAny (model X.prog X.w) (X.A.mark (some (.ref a))) (eval (.Name x np) X.env) Q E { s' with heap := g3 } := fun {Q E} q => by
          obtain ⟨hg, ndb, hm | ⟨hm, hv, nnm⟩⟩ := hc
          · exact ld_glob (X := X.suite a ((a, oh) :: (X.pn ++ pins))) Ih hg hm q ndb
          · exact ld_blt (X := X.suite a ((a, oh) :: (X.pn ++ pins))) Ih hg hm hv q nnm ndb
        refine tried (Lmt.here ?_)
        cases b with
        | true =>
          apply codeAny_handlers_suite
          refine HandSPX.lands_againZ fh fun g4 fz uz => ?_
          have Jl : Inv X pins σ' H' { s' with heap := g4 } := J.landed nb fz.1 ((up.trans uh).trans uz) os ag
          obtain ⟨oz, wz, ez, zz, dz⟩ := fz.there
          have Il := Jl.suite ez dz na apL apF
          refine wpAny_mono ((hsu a oz cls d (X.pn ++ pins) zz ⟨_, dz⟩).run [] _ _ H' _ Il (yes rfl a na)) (fun f sa after => ?_) (fun _ _ z => False.elim z)
          cases f with
          | next =>
            obtain ⟨σa, Ha, Ia, ka⟩ := after
            exact ⟨_, _, Ia.unsuite ok, ka⟩
          | brk =>
            obtain ⟨σa, Ha, Ia, ka⟩ := after
            exact ⟨_, _, Ia.unsuite ok, ka⟩
          | cont =>
            obtain ⟨σa, Ha, Ia, ka⟩ := after
            exact ⟨_, _, Ia.unsuite ok, ka⟩
          | ret u =>
            obtain ⟨va, σa, Ha, Ia, ra, ka⟩ := after
            exact ⟨_, _, _, Ia.unsuite ok, ra, ka⟩
        | false =>
          show wpAny _ X.A (handleBy (.ref a) X.env more) _ _ _
          exact ih (nay rfl)
      | @nam x n i c ts b₀ suite np pos' more l2 hc hN hi hln hsu r ih =>
        intro w
        obtain ⟨b, bk1, yes, nay⟩ := w
        refine wpAny_handleBy_cons (codeAny_handlers_test ?_) (fun z => by cases z)
        have Lty : PySem.W.Looks (model X.prog X.w) g3 (typeOf (.ref a)) cls := fun A Q E s k q => wpAny_typeOf_ref (k _ _ eh) (by rw [zh.1]; exact q)
        have Lmt := PySem.W.exm_one (M := model X.prog X.w) (Jh.kIn) Lty bk1
        have tried : ∀ {Q : Value → Shared → Prop} {E : Value → Shared → Prop}, Q c { s' with heap := g3 } → wpAny (model X.prog X.w) (X.A.mark (some (.ref a))) (eval (.Name x np) X.env) Q E { s' with heap := g3 } := fun {Q E} q => by
          obtain ⟨hg, ndb, hm | ⟨hm, hv, nnm⟩⟩ := hc
          · exact ld_glob (X := X.suite a ((a, oh) :: (X.pn ++ pins))) Ih hg hm q ndb
          · exact ld_blt (X := X.suite a ((a, oh) :: (X.pn ++ pins))) Ih hg hm hv q nnm ndb
        refine tried (Lmt.here ?_)
        cases b with
        | true =>
          apply codeAny_handlers_suite_as
          refine HandSPX.lands_againZ fh fun g4 fz uz => ?_
          have Jl : Inv X pins σ' H' { s' with heap := g4 } := J.landed nb fz.1 ((up.trans uh).trans uz) os ag
          obtain ⟨oz, wz, ez, zz, dz⟩ := fz.there
          have Il := Jl.suite ez dz na apL apF
          refine store_ok (X := X.suite a ((a, oz) :: (X.pn ++ pins))) (v := .ref a) Il hN hi (.inl hln) rfl (fun st5 Im => ?_) (.inr hln)
          refine wpAny_mono ((hsu a oz cls d (X.pn ++ pins) zz ⟨_, dz⟩).run [] st5 _ H' _ Im (yes rfl a na)) (fun f sa after => ?_) (fun _ _ z => False.elim z)
          have ended : ∀ {σa : St} {Ha : Hp} {Q : Shared → Prop}, Inv (X.suite a ((a, oz) :: (X.pn ++ pins))) [] σa Ha sa → (∀ sz, Inv X pins (σa.set i none) Ha sz → Q sz) →
              wpAny (model X.prog X.w) X.A (do bindName X.env n .none; unbindBehindTheSuite X.env n pos') (fun _ sz => Q sz) X.xe sa := fun {σa Ha Q} Ia hq => gone_ok (Ia.unsuite ok) hN hi hln hq
          cases f with
          | next =>
            obtain ⟨σa, Ha, Ia, ka⟩ := after
            exact ended Ia fun sz Jz => ⟨_, _, Jz, ka⟩
          | brk =>
            obtain ⟨σa, Ha, Ia, ka⟩ := after
            exact ended Ia fun sz Jz => ⟨_, _, Jz, ka⟩
          | cont =>
            obtain ⟨σa, Ha, Ia, ka⟩ := after
            exact ended Ia fun sz Jz => ⟨_, _, Jz, ka⟩
          | ret u =>
            obtain ⟨va, σa, Ha, Ia, ra, ka⟩ := after
            exact ended Ia fun sz Jz => ⟨_, _, _, Jz, ra, ka⟩
        | false =>
          show wpAny _ X.A (handleBy (.ref a) X.env more) _ _ _
          exact ih (nay rfl)
    exact go hh w
  · cases f with
    | next =>
      obtain ⟨σ', H', J', q⟩ := after
      exact wpAny_execs_nil ⟨σ', H', (J'.ofTry ok), q⟩
    | brk =>
      obtain ⟨σ', H', J', q⟩ := after
      exact ⟨σ', H', (J'.ofTry ok), q⟩
    | cont =>
      obtain ⟨σ', H', J', q⟩ := after
      exact ⟨σ', H', (J'.ofTry ok), q⟩
    | ret u =>
      obtain ⟨v, σ', H', J', r, q⟩ := after
      exact ⟨v, σ', H', (J'.ofTry ok), r, q⟩
end
/-! ### isinstance of a caught error that has a dict -/
theorem call_isD {X : Cx} {a D : Addr} {d : Addr} {oe : Obj} {pn : List (Addr × Obj)} {H0 : Hp} (C : ExcC X.K D) (hz : Zc (.ref D) (some d) oe) (hf : ∃ vs, oe.data = .fields vs) :
    CallR (X.suite a ((a, oe) :: pn)) (.builtin "isinstance") (fun xs H Q => (∃ fs, H d = some (.xd fs)) ∧ rIsE X.K D a xs H Q) := by
  intro pins s σ H xs us Q I r h
  obtain ⟨⟨fs, hfs⟩, c, cv, b, rfl, hcv, e, q⟩ := h
  cases r with
  | cons rx rr =>
    cases rr with
    | cons rt rr =>
      cases rr
      cases rx
      have ec := hcv _ rt
      subst ec
      obtain ⟨got1, _⟩ := I.pin (a, oe) (List.mem_append.mpr (.inl List.mem_cons_self))
      have hx : ObjOk X.prog X.w H s.heap d (.xd fs) := I.hok d _ hfs
      obtain ⟨mA, nsd, hr⟩ := hx
      obtain ⟨odi, ho, hl⟩ := lookIn_ns nsd
      obtain ⟨vs, hv⟩ := hf
      have J : PySem.W.InstAt s.heap a oe D (some odi) := by
        obtain ⟨oc, od', oda, osl⟩ := oe
        obtain ⟨h1, h2⟩ := hz
        dsimp only at h1 h2 hv
        subst h1 h2 hv
        exact ⟨got1, rfl, rfl, ho⟩
      exact PySem.W.kia_one (PySem.W.kitx_exc (by obtain ⟨cd, hc, _⟩ := PySem.W.any_some C.hd; rw [hc]; rfl) C.hg C.hk C.hs C.ha C.hn C.ht C.hm) I.kIn J e (fun z => nomatch z) fun tk => ⟨.bl b, H, I.kept (t' := tk) fun _ _ z => z, rfl, q⟩
end L2
set_option maxRecDepth 100000
/-! # DL1: data in place of objects. D: what a value is, as data; Dt: a value that is such data in a frozen heap; En: what the slots hold; Rl: the state agrees with it. -/
namespace DL
open PySem L2

/-- data: what a value stands for -/
inductive D where
  | non | bl (b : Bool) | int (i : Int) | str (s : Str) | lst (xs : List D) | tup (xs : List D) | ins (c : Nat) (fs : List (Str × D))
  deriving Inhabited

abbrev CM := Nat → Addr

mutual
inductive Dt (K : PySem.W.Frag) (cm : CM) (H : Hp) : V → D → Prop
  | non : Dt K cm H .non .non
  | bl (b : Bool) : Dt K cm H (.bl b) (.bl b)
  | int (i : Int) : Dt K cm H (.int i) (.int i)
  | str (s : Str) : Dt K cm H (.str s) (.str s)
  | lst {a : Addr} {vs : List V} {ds : List D} : H a = some (.lst vs) → Dts K cm H vs ds → Dt K cm H (.ref a) (.lst ds)
  | tup {a : Addr} {vs : List V} {ds : List D} : SqT K H a vs → Dts K cm H vs ds → Dt K cm H (.ref a) (.tup ds)
  | ins {a dx : Addr} {c : Nat} {fs : List (Str × V)} {gs : List (Str × D)} : 3 ≤ c → H a = some (.ins (cm c) dx fs) → Dfs K cm H fs gs → Dt K cm H (.ref a) (.ins c gs)
inductive Dts (K : PySem.W.Frag) (cm : CM) (H : Hp) : List V → List D → Prop
  | nil : Dts K cm H [] []
  | cons {v : V} {d : D} {vs : List V} {ds : List D} : Dt K cm H v d → Dts K cm H vs ds → Dts K cm H (v :: vs) (d :: ds)
inductive Dfs (K : PySem.W.Frag) (cm : CM) (H : Hp) : List (Str × V) → List (Str × D) → Prop
  | nil : Dfs K cm H [] []
  | cons {n : Str} {v : V} {d : D} {vs : List (Str × V)} {ds : List (Str × D)} : Dt K cm H v d → Dfs K cm H vs ds → Dfs K cm H ((n, v) :: vs) ((n, d) :: ds)
end

/-- a dict's entries -/
inductive Dks (K : PySem.W.Frag) (cm : CM) (H : Hp) : List (Key × V) → List (Key × D) → Prop
  | nil : Dks K cm H [] []
  | cons {n : Key} {v : V} {d : D} {vs : List (Key × V)} {ds : List (Key × D)} : Dt K cm H v d → Dks K cm H vs ds → Dks K cm H ((n, v) :: vs) ((n, d) :: ds)

theorem seqT {K : PySem.W.Frag} {H H' : Hp} {a : Addr} {xs : List V} (e : Same H H') (h : SqT K H a xs) : SqT K H' a xs := by
  rcases h with (h | ⟨o, h⟩) | h
  · exact .inl (.inl (e _ _ h))
  · exact .inl (.inr ⟨o, e _ _ h⟩)
  · exact .inr h

section
variable {K : PySem.W.Frag} {cm : CM} {H H' : Hp}
mutual
theorem Dt.mono (e : Same H H') : ∀ {v : V} {d : D}, Dt K cm H v d → Dt K cm H' v d
  | _, _, .non => .non
  | _, _, .bl b => .bl b
  | _, _, .int i => .int i
  | _, _, .str s => .str s
  | _, _, .lst h hs => .lst (e _ _ h) (Dts.mono e hs)
  | _, _, .tup h hs => .tup (seqT e h) (Dts.mono e hs)
  | _, _, .ins hc h hs => .ins hc (e _ _ h) (Dfs.mono e hs)
theorem Dts.mono (e : Same H H') : ∀ {v : List V} {d : List D}, Dts K cm H v d → Dts K cm H' v d
  | _, _, .nil => .nil
  | _, _, .cons h hs => .cons (Dt.mono e h) (Dts.mono e hs)
theorem Dfs.mono (e : Same H H') : ∀ {v : List (Str × V)} {d : List (Str × D)}, Dfs K cm H v d → Dfs K cm H' v d
  | _, _, .nil => .nil
  | _, _, .cons h hs => .cons (Dt.mono e h) (Dfs.mono e hs)
end
theorem Dks.mono (e : Same H H') : ∀ {v : List (Key × V)} {d : List (Key × D)}, Dks K cm H v d → Dks K cm H' v d
  | _, _, .nil => .nil
  | _, _, .cons h hs => .cons (h.mono e) (Dks.mono e hs)

theorem Dts.length : ∀ {vs : List V} {ds : List D}, Dts K cm H vs ds → vs.length = ds.length
  | _, _, .nil => rfl
  | _, _, .cons _ hs => congrArg (· + 1) (Dts.length hs)
theorem Dts.get : ∀ {vs : List V} {ds : List D} {i : Nat} {v : V}, Dts K cm H vs ds → vs[i]? = some v → ∃ d, ds[i]? = some d ∧ Dt K cm H v d
  | _, _, _, _, .nil, e => by simp at e
  | _, _, 0, _, .cons h _, e => by simp at e; subst e; exact ⟨_, rfl, h⟩
  | _, _, i + 1, _, .cons _ hs, e => by
    obtain ⟨d, h1, h2⟩ := Dts.get (i := i) hs (by simpa using e)
    exact ⟨d, by simpa using h1, h2⟩
theorem Dts.getD : ∀ {vs : List V} {ds : List D} {i : Nat} {d : D}, Dts K cm H vs ds → ds[i]? = some d → ∃ v, vs[i]? = some v ∧ Dt K cm H v d
  | _, _, _, _, .nil, e => by simp at e
  | _, _, 0, _, .cons h _, e => by simp at e; subst e; exact ⟨_, rfl, h⟩
  | _, _, i + 1, _, .cons _ hs, e => by
    obtain ⟨d, h1, h2⟩ := Dts.getD (i := i) hs (by simpa using e)
    exact ⟨d, by simpa using h1, h2⟩
theorem Dts.append : ∀ {vs ws : List V} {ds es : List D}, Dts K cm H vs ds → Dts K cm H ws es → Dts K cm H (vs ++ ws) (ds ++ es)
  | _, _, _, _, .nil, s => s
  | _, _, _, _, .cons r t, s => .cons r (Dts.append t s)
theorem Dts.take : ∀ {vs : List V} {ds : List D} (n : Nat), Dts K cm H vs ds → Dts K cm H (vs.take n) (ds.take n)
  | _, _, 0, _ => .nil
  | _, _, _ + 1, .nil => .nil
  | _, _, n + 1, .cons r t => .cons r (Dts.take n t)
theorem Dts.drop : ∀ {vs : List V} {ds : List D} (n : Nat), Dts K cm H vs ds → Dts K cm H (vs.drop n) (ds.drop n)
  | _, _, 0, r => r
  | _, _, _ + 1, .nil => .nil
  | _, _, n + 1, .cons _ t => Dts.drop n t
theorem Dts.reverse {vs : List V} {ds : List D} (h : Dts K cm H vs ds) : Dts K cm H vs.reverse ds.reverse := by
  induction vs generalizing ds with
  | nil => cases h; exact .nil
  | cons v vs ih =>
    cases h with
    | cons h hs =>
      rw [List.reverse_cons, List.reverse_cons]
      exact (ih hs).append (.cons h .nil)
theorem Dts.set {v : V} {d : D} (h : Dt K cm H v d) : ∀ {vs : List V} {ds : List D} (i : Nat), Dts K cm H vs ds → Dts K cm H (vs.set i v) (ds.set i d)
  | _, _, _, .nil => .nil
  | _, _, 0, .cons _ t => .cons h t
  | _, _, i + 1, .cons r t => .cons r (Dts.set h i t)
theorem Dts.eraseIdx : ∀ {vs : List V} {ds : List D} (i : Nat), Dts K cm H vs ds → Dts K cm H (vs.eraseIdx i) (ds.eraseIdx i)
  | _, _, _, .nil => .nil
  | _, _, 0, .cons _ t => t
  | _, _, i + 1, .cons r t => .cons r (Dts.eraseIdx i t)
theorem Dts.insertIdx {v : V} {d : D} (h : Dt K cm H v d) : ∀ {vs : List V} {ds : List D} (i : Nat), Dts K cm H vs ds → Dts K cm H (vs.insertIdx i v) (ds.insertIdx i d)
  | _, _, 0, t => by simp only [List.insertIdx_zero]; exact .cons h t
  | _, _, i + 1, .nil => .nil
  | _, _, i + 1, .cons r t => by simp only [List.insertIdx_succ_cons]; exact .cons r (Dts.insertIdx h i t)
theorem Dts.ints : ∀ (ns : List Int), Dts K cm H (ns.map V.int) (ns.map D.int)
  | [] => .nil
  | n :: ns => .cons (.int n) (Dts.ints ns)
theorem Dts.ints_inv : ∀ {vs : List V} {ns : List Int}, Dts K cm H vs (ns.map D.int) → vs = ns.map V.int
  | _, [], h => by cases h; rfl
  | _, n :: ns, h => by
    cases h with
    | cons h hs =>
      cases h
      rw [Dts.ints_inv hs]
      rfl
theorem Dfs.lookup : ∀ {fs : List (Str × V)} {gs : List (Str × D)} {n : Str} {d : D}, Dfs K cm H fs gs → gs.lookup n = some d → ∃ v, fs.lookup n = some v ∧ Dt K cm H v d
  | _, _, _, _, .nil, e => by simp [List.lookup] at e
  | _, _, n, d, .cons (n := m) h hs, e => by
    by_cases q : (n == m) = true
    · simp only [List.lookup, q] at e ⊢
      cases e
      exact ⟨_, rfl, h⟩
    · simp only [List.lookup, q] at e ⊢
      exact Dfs.lookup hs e
theorem Dfs.lookup_none : ∀ {fs : List (Str × V)} {gs : List (Str × D)} {n : Str}, Dfs K cm H fs gs → gs.lookup n = none → fs.lookup n = none
  | _, _, _, .nil, _ => rfl
  | _, _, n, .cons (n := m) h hs, e => by
    by_cases q : (n == m) = true
    · simp only [List.lookup, q] at e
      cases e
    · simp only [List.lookup, q] at e ⊢
      exact Dfs.lookup_none hs e
theorem Dfs.length : ∀ {fs : List (Str × V)} {gs : List (Str × D)}, Dfs K cm H fs gs → fs.length = gs.length
  | _, _, .nil => rfl
  | _, _, .cons _ hs => congrArg (· + 1) (Dfs.length hs)
end

/-! ### mutable things that are owned -/
/-- the draws' state: where the list of the cells lies, the cells, and the numbers at, rest, mixed, count -/
structure Bag where
  lc : Addr
  cs : List Int
  at_ : Int
  rest : Int
  mixed : Int
  count : Int
/-- an owned object: a list, a dict, an instance, the draws -/
inductive Ob where
  | lst (xs : List D)
  | dct (kvs : List (Key × D))
  | ins (c : Nat) (fs : List (Str × D))
  | bag (b : Bag)
/-- what a slot holds: nothing known; data; an owned object (its address, where it is known); the exception that the suite holds (at cm 0, its dict at cm 1, its class at cm 2 and at cm c: so classes begin with 3) -/
inductive Sl where
  | un | dat (d : D) | own (t : Option Addr) (o : Ob) | xv (c : Nat) (fs : List (Str × D))
abbrev En := List Sl

def bagKV (b : Bag) : List (Key × V) :=
  [(.inr "cells", .ref b.lc), (.inr "at", .int b.at_), (.inr "rest", .int b.rest), (.inr "mixed", .int b.mixed), (.inr "count", .int b.count)]

def ObOk (K : PySem.W.Frag) (cm : CM) (H0 H : Hp) (l : Addr) : Ob → Prop
  | .lst xs => ∃ vs, H l = some (.lst vs) ∧ Dts K cm H0 vs xs
  | .dct kvs => ∃ vs, H l = some (.dK vs) ∧ Dks K cm H0 vs kvs
  | .ins c fs => 3 ≤ c ∧ ∃ dx vs, H l = some (.ins (cm c) dx vs) ∧ Dfs K cm H0 vs fs
  | .bag b => H l = some (.dK (bagKV b)) ∧ H0 b.lc = some (.lst (b.cs.map V.int))
theorem ObOk.mono {K : PySem.W.Frag} {cm : CM} {H0 H0' H H' : Hp} {l : Addr} (e : Same H0 H0') (h : H' l = H l) : ∀ {o : Ob}, ObOk K cm H0 H l o → ObOk K cm H0' H' l o
  | .lst _, ⟨vs, a, b⟩ => ⟨vs, h.trans a, b.mono e⟩
  | .dct _, ⟨vs, a, b⟩ => ⟨vs, h.trans a, b.mono e⟩
  | .ins _ _, ⟨hc, dx, vs, a, b⟩ => ⟨hc, dx, vs, h.trans a, b.mono e⟩
  | .bag _, ⟨a, b⟩ => ⟨h.trans a, e _ _ b⟩
theorem ObOk.there {K : PySem.W.Frag} {cm : CM} {H0 H : Hp} {l : Addr} : ∀ {o : Ob}, ObOk K cm H0 H l o → ∃ u, H l = some u
  | .lst _, ⟨_, a, _⟩ => ⟨_, a⟩
  | .dct _, ⟨_, a, _⟩ => ⟨_, a⟩
  | .ins _ _, ⟨_, _, _, a, _⟩ => ⟨_, a⟩
  | .bag _, ⟨a, _⟩ => ⟨_, a⟩

def XvOk (K : PySem.W.Frag) (cm : CM) (HF H0 : Hp) (c : Nat) (fs : List (Str × D)) (v : Option V) : Prop :=
  v = some (.ref (cm 0)) ∧ cm 2 = cm c ∧ ∃ fv, (HF (cm 1) = some (.xd fv) ∨ H0 (cm 1) = some (.xd fv)) ∧ Dfs K cm H0 fv fs
theorem XvOk.mono {K : PySem.W.Frag} {cm : CM} {HF HF' H0 H0' : Hp} {c : Nat} {fs : List (Str × D)} {v : Option V} (h : XvOk K cm HF H0 c fs v) (sF : Same HF HF') (s0 : Same H0 H0') : XvOk K cm HF' H0' c fs v := by
  obtain ⟨a, b, fv, z, d⟩ := h
  exact ⟨a, b, fv, z.imp (sF _ _) (s0 _ _), d.mono s0⟩
def SlOk (K : PySem.W.Frag) (cm : CM) (HF H0 H : Hp) (v : Option V) : Sl → Prop
  | .un => True
  | .dat d => ∃ x, v = some x ∧ Dt K cm H0 x d
  | .own t o => ∃ l, v = some (.ref l) ∧ (∀ a, t = some a → l = a) ∧ H0 l = none ∧ HF l = none ∧ ObOk K cm H0 H l o
  | .xv c fs => XvOk K cm HF H0 c fs v

/-- the value in a slot -/
def vat (σ : St) (i : Nat) : Option V := (σ[i]?).join

/-- the state agrees: HF: what stands around (never touched), H0: what is frozen, H: all -/
structure Rl (K : PySem.W.Frag) (cm : CM) (HF H0 H : Hp) (σ : St) (e : En) : Prop where
  fro : Same H0 H
  frm : Same HF H
  dis : ∀ a o, HF a = some o → H0 a = none
  len : e.length = σ.length
  sl : ∀ i s, e[i]? = some s → SlOk K cm HF H0 H (vat σ i) s
  sep : ∀ i j t u o o' l, e[i]? = some (.own t o) → e[j]? = some (.own u o') → vat σ i = some (.ref l) → vat σ j = some (.ref l) → i = j

theorem vat_some {σ : St} {i : Nat} {v : V} (h : vat σ i = some v) : σ[i]? = some (some v) := by
  unfold vat at h
  cases q : σ[i]? with
  | none => rw [q] at h; cases h
  | some o =>
    rw [q] at h
    cases o with
    | none => cases h
    | some w => exact congrArg (fun z => some z) h
theorem vat_of {σ : St} {i : Nat} {v : V} (h : σ[i]? = some (some v)) : vat σ i = some v := by
  unfold vat
  rw [h]
  rfl

section
variable {K : PySem.W.Frag} {cm : CM} {HF H0 H0' H H' : Hp} {σ : St} {e : En}

theorem Rl.dat (r : Rl K cm HF H0 H σ e) {i : Nat} {d : D} (h : e[i]? = some (.dat d)) : ∃ v, σ[i]? = some (some v) ∧ Dt K cm H0 v d := by
  obtain ⟨x, hx, hd⟩ := r.sl i _ h
  exact ⟨x, vat_some hx, hd⟩
theorem Rl.own (r : Rl K cm HF H0 H σ e) {i : Nat} {t : Option Addr} {o : Ob} (h : e[i]? = some (.own t o)) :
    ∃ l, σ[i]? = some (some (.ref l)) ∧ (∀ a, t = some a → l = a) ∧ H0 l = none ∧ HF l = none ∧ ObOk K cm H0 H l o := by
  obtain ⟨l, hl, a, b, c, d⟩ := r.sl i _ h
  exact ⟨l, vat_some hl, a, b, c, d⟩
/-- a new object is laid and frozen -/
theorem Rl.laid (r : Rl K cm HF H0 H σ e) {p : Addr} (hp : H p = none) (u : HO) : Rl K cm HF (upd H0 p u) (upd H p u) σ e ∧ Same H0 (upd H0 p u) := by
  have h0 : H0 p = none := r.fro.free hp
  have hf : HF p = none := r.frm.free hp
  have s0 : Same H0 (upd H0 p u) := fun b o h => by rw [upd_ne (ne_of_none h h0)]; exact h
  refine ⟨⟨fun b o h => ?_, fun b o h => ?_, fun a o h => ?_, r.len, fun i s hs => ?_, r.sep⟩, s0⟩
  · by_cases q : b = p
    · subst q
      rw [upd_same] at h ⊢
      exact h
    · rw [upd_ne q] at h ⊢
      exact r.fro b o h
  · rw [upd_ne (ne_of_none h hf)]
    exact r.frm b o h
  · rw [upd_ne (ne_of_none h hf)]
    exact r.dis a o h
  · have q := r.sl i s hs
    cases s with
    | un => trivial
    | dat d =>
      obtain ⟨x, a, b⟩ := q
      exact ⟨x, a, b.mono s0⟩
    | xv c fs => exact q.mono (Same.refl _) s0
    | own t o =>
      obtain ⟨l, a, b, c, d, ob⟩ := q
      obtain ⟨w, hw⟩ := ob.there
      have lp : l ≠ p := ne_of_none hw hp
      exact ⟨l, a, b, (upd_ne lp).trans c, d, ob.mono s0 (upd_ne lp)⟩
/-- a new object is laid and not frozen -/
theorem Rl.laidOwn (r : Rl K cm HF H0 H σ e) {p : Addr} (hp : H p = none) (u : HO) : Rl K cm HF H0 (upd H p u) σ e := by
  have h0 : H0 p = none := r.fro.free hp
  have hf : HF p = none := r.frm.free hp
  refine ⟨fun b o h => ?_, fun b o h => ?_, r.dis, r.len, fun i s hs => ?_, r.sep⟩
  · rw [upd_ne (ne_of_none h h0)]
    exact r.fro b o h
  · rw [upd_ne (ne_of_none h hf)]
    exact r.frm b o h
  · have q := r.sl i s hs
    cases s with
    | un => trivial
    | dat d => exact q
    | xv c fs => exact q
    | own t o =>
      obtain ⟨l, a, b, c, d, ob⟩ := q
      obtain ⟨w, hw⟩ := ob.there
      exact ⟨l, a, b, c, d, ob.mono (Same.refl _) (upd_ne (ne_of_none hw hp))⟩
theorem get_set_eq {α : Type} {l : List α} {i j : Nat} {a s : α} (h : (l.set i a)[j]? = some s) : (j = i ∧ s = a) ∨ (j ≠ i ∧ l[j]? = some s) := by
  by_cases q : j = i
  · subst q
    rw [List.getElem?_set] at h
    simp only [if_true] at h
    split at h
    · cases h
      exact .inl ⟨rfl, rfl⟩
    · cases h
  · rw [List.getElem?_set_ne (Ne.symm q)] at h
    exact .inr ⟨q, h⟩
theorem vat_set_ne {i j : Nat} {v : Option V} (h : j ≠ i) : vat (σ.set i v) j = vat σ j := by
  unfold vat
  rw [List.getElem?_set_ne (Ne.symm h)]
theorem vat_set_same {i : Nat} {v : Option V} (h : i < σ.length) : vat (σ.set i v) i = v := by
  unfold vat
  rw [List.getElem?_set_self h]
  rfl
/-- a slot takes data -/
theorem Rl.put (r : Rl K cm HF H0 H σ e) {i : Nat} {v : V} {d : D} (h : Dt K cm H0 v d) : Rl K cm HF H0 H (σ.set i (some v)) (e.set i (.dat d)) := by
  refine ⟨r.fro, r.frm, r.dis, by simp [r.len], fun j s hs => ?_, fun j k t u o o' l h1 h2 h3 h4 => ?_⟩
  · rcases get_set_eq hs with ⟨rfl, rfl⟩ | ⟨q, hs⟩
    · have hj : j < σ.length := by
        have := (List.getElem?_eq_some_iff.mp hs).1
        rw [List.length_set, r.len] at this
        exact this
      exact ⟨v, vat_set_same hj, h⟩
    · rw [vat_set_ne q]
      exact r.sl j s hs
  · rcases get_set_eq h1 with ⟨_, z⟩ | ⟨q1, h1⟩
    · cases z
    rcases get_set_eq h2 with ⟨_, z⟩ | ⟨q2, h2⟩
    · cases z
    rw [vat_set_ne q1] at h3
    rw [vat_set_ne q2] at h4
    exact r.sep j k t u o o' l h1 h2 h3 h4
/-- a slot takes a new object of its own -/
theorem Rl.putOwn (r : Rl K cm HF H0 H σ e) {i : Nat} {p : Addr} {o : Ob} (h0 : H0 p = none) (hf : HF p = none) (ob : ObOk K cm H0 H p o)
    (hn : ∀ j t u, j ≠ i → e[j]? = some (.own t u) → vat σ j ≠ some (.ref p)) : Rl K cm HF H0 H (σ.set i (some (.ref p))) (e.set i (.own none o)) := by
  refine ⟨r.fro, r.frm, r.dis, by simp [r.len], fun j s hs => ?_, fun j k t u o o' l h1 h2 h3 h4 => ?_⟩
  · rcases get_set_eq hs with ⟨rfl, rfl⟩ | ⟨q, hs⟩
    · have hj : j < σ.length := by
        have := (List.getElem?_eq_some_iff.mp hs).1
        rw [List.length_set, r.len] at this
        exact this
      exact ⟨p, vat_set_same hj, fun a z => (nomatch z), h0, hf, ob⟩
    · rw [vat_set_ne q]
      exact r.sl j s hs
  · have lt : ∀ {k : Nat} {s : Sl} {w : Sl}, (e.set i w)[k]? = some s → k < σ.length := fun {k s w} z => by
      have := (List.getElem?_eq_some_iff.mp z).1
      rw [List.length_set, r.len] at this
      exact this
    by_cases q1 : j = i
    · by_cases q2 : k = i
      · rw [q1, q2]
      · subst q1
        rw [vat_set_same (lt h1)] at h3
        cases h3
        rw [List.getElem?_set_ne (Ne.symm q2)] at h2
        rw [vat_set_ne q2] at h4
        exact absurd h4 (hn k _ _ q2 h2)
    · rw [List.getElem?_set_ne (Ne.symm q1)] at h1
      rw [vat_set_ne q1] at h3
      by_cases q2 : k = i
      · subst q2
        rw [vat_set_same (lt h2)] at h4
        cases h4
        exact absurd h3 (hn j _ _ q1 h1)
      · rw [List.getElem?_set_ne (Ne.symm q2)] at h2
        rw [vat_set_ne q2] at h4
        exact r.sep j k t u _ o' l h1 h2 h3 h4
/-- a slot is forgotten -/
theorem Rl.forget (r : Rl K cm HF H0 H σ e) (i : Nat) (v : Option V) : Rl K cm HF H0 H (σ.set i v) (e.set i .un) := by
  refine ⟨r.fro, r.frm, r.dis, by simp [r.len], fun j s hs => ?_, fun j k t u o o' l h1 h2 h3 h4 => ?_⟩
  · rcases get_set_eq hs with ⟨rfl, rfl⟩ | ⟨q, hs⟩
    · trivial
    · rw [vat_set_ne q]
      exact r.sl j s hs
  · rcases get_set_eq h1 with ⟨_, z⟩ | ⟨q1, h1⟩
    · cases z
    rcases get_set_eq h2 with ⟨_, z⟩ | ⟨q2, h2⟩
    · cases z
    rw [vat_set_ne q1] at h3
    rw [vat_set_ne q2] at h4
    exact r.sep j k t u o o' l h1 h2 h3 h4
/-- an owned object is written -/
theorem Rl.write (r : Rl K cm HF H0 H σ e) {i : Nat} {t : Option Addr} {o o' : Ob} {l : Addr} {u : HO} (h : e[i]? = some (.own t o)) (hl : σ[i]? = some (some (.ref l)))
    (ob : ObOk K cm H0 (upd H l u) l o') : Rl K cm HF H0 (upd H l u) σ (e.set i (.own t o')) := by
  obtain ⟨l', e1, tg, h0, hf, _⟩ := r.own h
  rw [hl] at e1
  cases e1
  refine ⟨fun b w hb => ?_, fun b w hb => ?_, r.dis, by simp [r.len], fun j s hs => ?_, fun j k t1 t2 o1 o2 l1 h1 h2 h3 h4 => ?_⟩
  · rw [upd_ne (ne_of_none hb h0)]
    exact r.fro b w hb
  · rw [upd_ne (ne_of_none hb hf)]
    exact r.frm b w hb
  · rcases get_set_eq hs with ⟨rfl, rfl⟩ | ⟨q, hs⟩
    · exact ⟨l, vat_of hl, tg, h0, hf, ob⟩
    · have z := r.sl j s hs
      cases s with
      | un => trivial
      | dat d => exact z
      | xv c fs => exact z
      | own t2 o2 =>
        obtain ⟨l2, a, b, c, d, ob2⟩ := z
        have ne : l2 ≠ l := fun y => q (r.sep j i t2 t o2 o l hs h (by rw [a, y]) (vat_of hl))
        exact ⟨l2, a, b, c, d, ob2.mono (Same.refl _) (upd_ne ne)⟩
  · have g : ∀ {k : Nat} {t1 : Option Addr} {o1 : Ob}, (e.set i (Sl.own t o'))[k]? = some (Sl.own t1 o1) → ∃ (t2 : Option Addr) (o2 : Ob), e[k]? = some (Sl.own t2 o2) := fun {k t1 o1} z => by
      rcases get_set_eq z with ⟨q, _⟩ | ⟨_, z⟩
      · exact ⟨t, o, by rw [q]; exact h⟩
      · exact ⟨_, _, z⟩
    obtain ⟨_, _, g1⟩ := g h1
    obtain ⟨_, _, g2⟩ := g h2
    exact r.sep j k _ _ _ _ l1 g1 g2 h3 h4
/-- an owned list becomes data -/
theorem Rl.freeze (r : Rl K cm HF H0 H σ e) {i : Nat} {t : Option Addr} {xs : List D} (h : e[i]? = some (.own t (.lst xs))) :
    ∃ l H0', σ[i]? = some (some (.ref l)) ∧ Same H0 H0' ∧ Dt K cm H0' (.ref l) (.lst xs) ∧ Rl K cm HF H0' H σ (e.set i (.dat (.lst xs))) := by
  obtain ⟨l, e1, tg, h0, hf, vs, hl, hd⟩ := r.own h
  have s0 : Same H0 (upd H0 l (.lst vs)) := fun b o q => by rw [upd_ne (ne_of_none q h0)]; exact q
  have dt : Dt K cm (upd H0 l (.lst vs)) (.ref l) (.lst xs) := .lst upd_same (hd.mono s0)
  refine ⟨l, upd H0 l (.lst vs), e1, s0, dt, ⟨fun b w hb => ?_, r.frm, fun a o ha => ?_, by simp [r.len], fun j s hs => ?_, fun j k t1 t2 o1 o2 l1 h1 h2 h3 h4 => ?_⟩⟩
  · by_cases q : b = l
    · subst q
      rw [upd_same] at hb
      cases hb
      exact hl
    · rw [upd_ne q] at hb
      exact r.fro b w hb
  · rw [upd_ne (ne_of_none ha hf)]
    exact r.dis a o ha
  · rcases get_set_eq hs with ⟨rfl, rfl⟩ | ⟨q, hs⟩
    · exact ⟨_, vat_of e1, dt⟩
    · have z := r.sl j s hs
      cases s with
      | un => trivial
      | dat d =>
        obtain ⟨x, a, b⟩ := z
        exact ⟨x, a, b.mono s0⟩
      | xv c fs => exact z.mono (Same.refl _) s0
      | own t2 o2 =>
        obtain ⟨l2, a, b, c, d, ob2⟩ := z
        have ne : l2 ≠ l := fun y => q (r.sep j i t2 t o2 _ l hs h (by rw [a, y]) (vat_of e1))
        exact ⟨l2, a, b, (upd_ne ne).trans c, d, ob2.mono s0 rfl⟩
  · rcases get_set_eq h1 with ⟨_, z⟩ | ⟨q1, h1⟩
    · cases z
    rcases get_set_eq h2 with ⟨_, z⟩ | ⟨q2, h2⟩
    · cases z
    exact r.sep j k t1 t2 o1 o2 l1 h1 h2 h3 h4
end
end DL
set_option maxRecDepth 100000
/-! # DL2: readings by data: expressions and tests. M: what a piece computes on the slots' data. -/
namespace DL
open PySem L2

inductive R (α : Type) where
  | ok (a : α) (e : En) | ex (c : Nat) (fs : List (Str × D)) (e : En) | no
abbrev M (α : Type) := En → R α
def M.bnd {α β : Type} (m : M α) (k : α → M β) : M β := fun e => match m e with
  | .ok a e' => k a e'
  | .ex c fs e' => .ex c fs e'
  | .no => .no
def M.ret {α : Type} (a : α) : M α := fun e => .ok a e
def M.opt {α : Type} (o : Option α) : M α := fun e => match o with
  | some a => .ok a e
  | none => .no

/-- what follows of a result -/
def Post (K : PySem.W.Frag) (cm : CM) (W : WX) (HF : Hp) (σ : St) {α : Type} (H0 : Hp) (r : R α) (Q : α → En → Hp → Hp → Prop) : Prop :=
  match r with
  | .ok a e' => ∀ H0' H', Same H0 H0' → Rl K cm HF H0' H' σ e' → Q a e' H0' H'
  | .ex c fs e' => ∀ H0' H' d fv, Same H0 H0' → Rl K cm HF H0' H' σ e' → H' d = some (.xd fv) → Dfs K cm H0' fv fs → W (.ref (cm c)) (some d) σ H'
  | .no => False

section
variable {K : PySem.W.Frag} {cm : CM} {W : WX} {HF : Hp} {σ : St} {H0 H0' : Hp} {α β : Type}
theorem Post.mono (s : Same H0 H0') {r : R α} {Q : α → En → Hp → Hp → Prop} (h : Post K cm W HF σ H0 r Q) : Post K cm W HF σ H0' r Q := by
  cases r with
  | ok a e => exact fun H1 H' s1 r1 => h H1 H' (s.trans s1) r1
  | ex c fs e => exact fun H1 H' d fv s1 r1 => h H1 H' d fv (s.trans s1) r1
  | no => exact h
theorem Post.imp {r : R α} {Q Q' : α → En → Hp → Hp → Prop} (h : Post K cm W HF σ H0 r Q) (hq : ∀ a e H1 H', Same H0 H1 → Rl K cm HF H1 H' σ e → Q a e H1 H' → Q' a e H1 H') : Post K cm W HF σ H0 r Q' := by
  cases r with
  | ok a e => exact fun H1 H' s1 r1 => hq a e H1 H' s1 r1 (h H1 H' s1 r1)
  | ex c fs e => exact h
  | no => exact h
theorem Post.bnd {m : M α} {k : α → M β} {e : En} {Q : β → En → Hp → Hp → Prop} (h : Post K cm W HF σ H0 (M.bnd m k e) Q) :
    Post K cm W HF σ H0 (m e) (fun a e' H1 H' => Post K cm W HF σ H1 (k a e') Q) := by
  unfold M.bnd at h
  cases q : m e with
  | ok a e' =>
    rw [q] at h
    exact fun H1 H' s1 r1 => Post.mono s1 h
  | ex c fs e' =>
    rw [q] at h
    exact h
  | no =>
    rw [q] at h
    exact h
theorem Post.opt {o : Option α} {e : En} {Q : α → En → Hp → Hp → Prop} (h : Post K cm W HF σ H0 (M.opt o e) Q) {H : Hp} (r : Rl K cm HF H0 H σ e) : ∃ a, o = some a ∧ ∀ H0' H', Same H0 H0' → Rl K cm HF H0' H' σ e → Q a e H0' H' := by
  cases o with
  | none => exact h.elim
  | some a => exact ⟨a, rfl, h⟩
end

section
variable {K : PySem.W.Frag} {cm : CM} {W : WX} {HF : Hp} {σ : St} {H0 H : Hp} {α : Type} {e : En} {Q : α → En → Hp → Hp → Prop}
theorem Post.ret {a : α} (h : Post K cm W HF σ H0 (M.ret a e) Q) (r : Rl K cm HF H0 H σ e) : Q a e H0 H := h H0 H (Same.refl _) r
theorem Post.isT {m n : M α} (h : Post K cm W HF σ H0 ((if true = true then m else n) e) Q) : Post K cm W HF σ H0 (m e) Q := by rw [if_pos rfl] at h; exact h
theorem Post.isF {m n : M α} (h : Post K cm W HF σ H0 ((if false = true then m else n) e) Q) : Post K cm W HF σ H0 (n e) Q := by rw [if_neg Bool.false_ne_true] at h; exact h
end
/-! ### the judgements -/
def tDE (K : PySem.W.Frag) (cm : CM) (W : WX) (f : M D) : TE := fun σ H Q => ∃ e HF H0, Rl K cm HF H0 H σ e ∧ Post K cm W HF σ H0 (f e) (fun d _ H1 H' => ∀ v, Dt K cm H1 v d → Q v H')
def tDT (K : PySem.W.Frag) (cm : CM) (W : WX) (f : M Bool) : TT := fun σ H Q => ∃ e HF H0, Rl K cm HF H0 H σ e ∧ Post K cm W HF σ H0 (f e) (fun b _ _ H' => Q b H')
def tDA (K : PySem.W.Frag) (cm : CM) (W : WX) (f : M (List D)) : TA := fun σ H Q => ∃ e HF H0, Rl K cm HF H0 H σ e ∧ Post K cm W HF σ H0 (f e) (fun ds _ H1 H' => ∀ vs, Dts K cm H1 vs ds → Q vs H')
abbrev DE (X : Cx) (cm : CM) (W : WX) (e : Expr) (f : M D) : Prop := PE X e (tDE X.K cm W f)
abbrev DT (X : Cx) (cm : CM) (W : WX) (e : Expr) (f : M Bool) : Prop := PT X e (tDT X.K cm W f)
abbrev DW (X : Cx) (cm : CM) (W : WX) (e : Expr) (f : M Bool) : Prop := PW X e (tDT X.K cm W f)
abbrev DA (X : Cx) (cm : CM) (W : WX) (es : List Expr) (f : M (List D)) : Prop := PA X es (tDA X.K cm W f)

/-! ### readings made weaker; the sizes of what stands -/
structure Lens (K : PySem.W.Frag) (H : Hp) : Prop where
  l : ∀ a xs, SqL K H a xs → xs.length ≤ sizeLine
  t : ∀ a xs, SqT K H a xs → xs.length ≤ sizeLine
theorem Inv.lens {X : Cx} {pins : List (Addr × Obj)} {σ : St} {H : Hp} {s : Shared} (I : Inv X pins σ H s) : Lens X.K H :=
  ⟨fun _ _ h => let ⟨_, _, _, q⟩ := I.list h; q, fun _ _ h => let ⟨_, _, _, q⟩ := I.tuple h; q⟩
section
variable {X : Cx} {e : Expr} {es : List Expr}
theorem PE.impI {t t' : TE} (h : PE X e t) (hi : ∀ σ H Q, Lens X.K H → t' σ H Q → t σ H Q) : PE X e t' := ⟨fun pins s σ H Q I q => h.run pins s σ H Q I (hi σ H Q (Inv.lens I) q)⟩
theorem PT.impI {t t' : TT} (h : PT X e t) (hi : ∀ σ H Q, Lens X.K H → t' σ H Q → t σ H Q) : PT X e t' := ⟨fun pins s σ H Q I q => h.run pins s σ H Q I (hi σ H Q (Inv.lens I) q)⟩
theorem PW.impI {t t' : TT} (h : PW X e t) (hi : ∀ σ H Q, Lens X.K H → t' σ H Q → t σ H Q) : PW X e t' := ⟨fun wh pins s σ H Q I q => h.run wh pins s σ H Q I (hi σ H Q (Inv.lens I) q)⟩
theorem PA.impI {t t' : TA} (h : PA X es t) (hi : ∀ σ H Q, Lens X.K H → t' σ H Q → t σ H Q) : PA X es t' := ⟨fun pos pins s σ H Q I q => h.run pos pins s σ H Q I (hi σ H Q (Inv.lens I) q)⟩
theorem PS.impI {st : Stmt} {t t' : TS} (h : PS X st t) (hi : ∀ D σ H, Lens X.K H → t' D σ H → t D σ H) : PS X st t' := ⟨fun pins s σ H D I q => h.run pins s σ H D I (hi D σ H (Inv.lens I) q)⟩
theorem PSs.impI {st : List Stmt} {t t' : TS} (h : PSs X st t) (hi : ∀ D σ H, Lens X.K H → t' D σ H → t D σ H) : PSs X st t' := ⟨fun pins s σ H D I q => h.run pins s σ H D I (hi D σ H (Inv.lens I) q)⟩
end
theorem OpR.impI {X : Cx} {f : Value → Value → Sem Value} {r r' : R2} (h : OpR X f r) (hi : ∀ x y H Q, Lens X.K H → r' x y H Q → r x y H Q) : OpR X f r' :=
  fun pins s σ H x y v u Q I rx ry q => h pins s σ H x y v u Q I rx ry (hi x y H Q (Inv.lens I) q)

/-! ### operations on data -/
/-- a reading of two values does f on their data (no slot changes; new objects may be laid) -/
def OpD (K : PySem.W.Frag) (cm : CM) (r : R2) (f : D → D → Option D) : Prop :=
  ∀ (HF H0 H : Hp) (σ : St) (e : En) (x y : V) (a b c : D) (Q : VK), Lens K H → Rl K cm HF H0 H σ e → Dt K cm H0 x a → Dt K cm H0 y b → f a b = some c →
    (∀ H1 H' v, Same H0 H1 → Rl K cm HF H1 H' σ e → Dt K cm H1 v c → Q v H') → r x y H Q
/-- the same rule of the library, asked with its data -/
structure OpX (X : Cx) (cm : CM) (g : Value → Value → Sem Value) (f : D → D → Option D) : Prop where
  ex : ∃ r, OpR X g r ∧ OpD X.K cm r f
def UnD (K : PySem.W.Frag) (cm : CM) (r : V → Hp → VK → Prop) (f : D → Option D) : Prop :=
  ∀ (HF H0 H : Hp) (σ : St) (e : En) (x : V) (a c : D) (Q : VK), Lens K H → Rl K cm HF H0 H σ e → Dt K cm H0 x a → f a = some c →
    (∀ H1 H' v, Same H0 H1 → Rl K cm HF H1 H' σ e → Dt K cm H1 v c → Q v H') → r x H Q
structure UnX (X : Cx) (cm : CM) (g : Value → Sem Value) (f : D → Option D) : Prop where
  ex : ∃ r, UnR X g r ∧ UnD X.K cm r f
theorem OpX.or {X : Cx} {cm : CM} {g : Value → Value → Sem Value} {f f' : D → D → Option D} (h : OpX X cm g f) (h' : OpX X cm g f') : OpX X cm g (fun a b => match f a b with | some c => some c | none => f' a b) := by
  obtain ⟨r, h1, h2⟩ := h.ex
  obtain ⟨r', h1', h2'⟩ := h'.ex
  refine ⟨_, OpR.or h1 h1', fun HF H0 H σ e x y a b c Q l rl dx dy hf q => ?_⟩
  cases z : f a b with
  | some c' =>
    simp only [z] at hf
    cases hf
    exact .inl (h2 HF H0 H σ e x y a b _ Q l rl dx dy z q)
  | none =>
    simp only [z] at hf
    exact .inr (h2' HF H0 H σ e x y a b c Q l rl dx dy hf q)
theorem OpX.imp {X : Cx} {cm : CM} {g : Value → Value → Sem Value} {f f' : D → D → Option D} (h : OpX X cm g f) (hf : ∀ a b c, f' a b = some c → f a b = some c) : OpX X cm g f' := by
  obtain ⟨r, h1, h2⟩ := h.ex
  exact ⟨r, h1, fun HF H0 H σ e x y a b c Q l rl dx dy z q => h2 HF H0 H σ e x y a b c Q l rl dx dy (hf _ _ _ z) q⟩

section
variable {X : Cx} {cm : CM} {W : WX} {a b c : Expr} {es : List Expr} {fa fb : M D} {pos : Pos}
def op2 (f : D → D → Option D) (fa fb : M D) : M D := fa.bnd fun x => fb.bnd fun y => M.opt (f x y)
def op1 (f : D → Option D) (fa : M D) : M D := fa.bnd fun x => M.opt (f x)
theorem de_op {op : Operator} {f : D → D → Option D} (ho : OpX X cm (binaryOp op) f) (ha : DE X cm W a fa) (hb : DE X cm W b fb) : DE X cm W (.BinOp a op b pos) (op2 f fa fb) := by
  obtain ⟨r, h1, h2⟩ := ho.ex
  refine PE.impI (pe_op (OpR.impI (r' := fun x y H Q => Lens X.K H → r x y H Q) h1 fun x y H Q l z => z l) ha hb) fun σ H Q l h => ?_
  obtain ⟨e, HF, H0, rl, p⟩ := h
  refine ⟨e, HF, H0, rl, p.bnd.imp fun x e1 H1 H' s1 r1 p1 v dv => ?_⟩
  refine ⟨e1, HF, H1, r1, p1.bnd.imp fun y e2 H2 H'' s2 r2 p2 u du => ?_⟩
  obtain ⟨d, hf, q⟩ := p2.opt r2
  exact fun l2 => h2 HF H2 H'' σ e2 v u x y d Q l2 r2 (dv.mono s2) du hf fun H3 H3' w s3 r3 dw => q H3 H3' s3 r3 w dw
theorem de_un {op : UnaryOp} {f : D → Option D} (ho : UnX X cm (unaryOp op) f) (ha : DE X cm W a fa) : DE X cm W (.UnaryOp op a pos) (op1 f fa) := by
  obtain ⟨r, h1, h2⟩ := ho.ex
  refine PE.impI (pe_un (r := fun x H Q => Lens X.K H → r x H Q) (fun pins s σ H x v Q I rx q => h1 pins s σ H x v Q I rx (q (Inv.lens I))) ha) fun σ H Q l h => ?_
  obtain ⟨e, HF, H0, rl, p⟩ := h
  refine ⟨e, HF, H0, rl, p.bnd.imp fun x e1 H1 H' s1 r1 p1 v dv => ?_⟩
  obtain ⟨d, hf, q⟩ := p1.opt r1
  exact fun l2 => h2 HF H1 H' σ e1 v x d Q l2 r1 dv hf fun H3 H3' w s3 r3 dw => q H3 H3' s3 r3 w dw
/-- a comparison as a value -/
theorem de_cmp {op : CmpOp} {f : D → D → Option D} (ho : OpX X cm (compareOp op) f) (ha : DE X cm W a fa) (hb : DE X cm W b fb) (hm : behindInMarks op b = false := by first | exact nobehind _ (by decide) (by decide) | rfl) :
    DE X cm W (.Compare a [op] [b] pos) (op2 f fa fb) := by
  obtain ⟨r, h1, h2⟩ := ho.ex
  refine PE.impI (pe_cmpR (OpR.impI (r' := fun x y H Q => Lens X.K H → r x y H Q) h1 fun x y H Q l z => z l) ha hb hm) fun σ H Q l h => ?_
  obtain ⟨e, HF, H0, rl, p⟩ := h
  refine ⟨e, HF, H0, rl, p.bnd.imp fun x e1 H1 H' s1 r1 p1 v dv => ?_⟩
  refine ⟨e1, HF, H1, r1, p1.bnd.imp fun y e2 H2 H'' s2 r2 p2 u du => ?_⟩
  obtain ⟨d, hf, q⟩ := p2.opt r2
  exact fun l2 => h2 HF H2 H'' σ e2 v u x y d Q l2 r2 (dv.mono s2) du hf fun H3 H3' w s3 r3 dw => q H3 H3' s3 r3 w dw
def asB (d : D) : Option Bool := match d with
  | .bl b => some b
  | _ => none
def tstB (fa : M D) : M Bool := fa.bnd fun x => M.opt (asB x)
/-- as a test -/
theorem dt_cmp {op : CmpOp} {f : D → D → Option D} (ho : OpX X cm (compareOp op) f) (ha : DE X cm W a fa) (hb : DE X cm W b fb) (hm : behindInMarks op b = false := by first | exact nobehind _ (by decide) (by decide) | rfl) :
    DT X cm W (.Compare a [op] [b] pos) (tstB (op2 f fa fb)) := by
  obtain ⟨r, h1, h2⟩ := ho.ex
  refine PT.impI (pt_cmpR (OpR.impI (r' := fun x y H Q => Lens X.K H → r x y H Q) h1 fun x y H Q l z => z l) ha hb hm) fun σ H Q l h => ?_
  obtain ⟨e, HF, H0, rl, p⟩ := h
  refine ⟨e, HF, H0, rl, p.bnd.bnd.imp fun x e1 H1 H' s1 r1 p1 v dv => ?_⟩
  refine ⟨e1, HF, H1, r1, p1.bnd.imp fun y e2 H2 H'' s2 r2 p2 u du => ?_⟩
  obtain ⟨d, hf, q⟩ := p2.opt r2
  refine fun l2 => h2 HF H2 H'' σ e2 v u x y d _ l2 r2 (dv.mono s2) du hf fun H3 H3' w s3 r3 dw => ?_
  obtain ⟨k, hk, q'⟩ := (q H3 H3' s3 r3).opt r3
  cases d with
  | bl k' =>
    cases hk
    cases dw
    exact ⟨k, rfl, q' H3 H3' (Same.refl _) r3⟩
  | _ => cases hk
/-- a value that is a bool, as a test -/
theorem dt_val (h : DE X cm W a fa) (he : ∀ whole, isTrue a X.env whole = (do let v ← whole; standAt a.pos; holding [v] (truthy v)) := by intro _; rfl) : DT X cm W a (tstB fa) := by
  refine PT.impI (pt_val h he) fun σ H Q l hq => ?_
  obtain ⟨e, HF, H0, rl, p⟩ := hq
  refine ⟨e, HF, H0, rl, p.bnd.imp fun x e1 H1 H' s1 r1 p1 v dv => ?_⟩
  obtain ⟨k, hk, q'⟩ := p1.opt r1
  cases x with
  | bl k' =>
    cases hk
    cases dv
    exact ⟨k, rfl, q' H1 H' (Same.refl _) r1⟩
  | _ => cases hk
/-- and, or, not of tests -/
def andB (m n : M Bool) : M Bool := m.bnd fun b => if b = true then n else M.ret false
def orB (m n : M Bool) : M Bool := m.bnd fun b => if b = true then M.ret true else n
def notB (m : M Bool) : M Bool := m.bnd fun b => M.ret (!b)
variable {ma mb : M Bool} {rest : List Expr}
theorem dt_and1 (h : DT X cm W a ma) : DW X cm W (.BoolOp .And [a] pos) ma := pw_and1 h
theorem dt_or1 (h : DT X cm W a ma) : DW X cm W (.BoolOp .Or [a] pos) ma := pw_or1 h
theorem dt_and (ha : DT X cm W a ma) (hb : DW X cm W (.BoolOp .And (b :: rest) pos) mb) : DW X cm W (.BoolOp .And (a :: b :: rest) pos) (andB ma mb) := by
  refine PW.impI (pw_and ha hb) fun σ H Q l h => ?_
  obtain ⟨e, HF, H0, rl, p⟩ := h
  refine ⟨e, HF, H0, rl, p.bnd.imp fun k e1 H1 H' s1 r1 p1 => ?_⟩
  cases k with
  | true =>
    rw [if_pos rfl]
    exact ⟨e1, HF, H1, r1, p1.isT⟩
  | false =>
    rw [if_neg Bool.false_ne_true]
    exact p1.isF.ret r1
theorem dt_or (ha : DT X cm W a ma) (hb : DW X cm W (.BoolOp .Or (b :: rest) pos) mb) : DW X cm W (.BoolOp .Or (a :: b :: rest) pos) (orB ma mb) := by
  refine PW.impI (pw_or ha hb) fun σ H Q l h => ?_
  obtain ⟨e, HF, H0, rl, p⟩ := h
  refine ⟨e, HF, H0, rl, p.bnd.imp fun k e1 H1 H' s1 r1 p1 => ?_⟩
  cases k with
  | true =>
    rw [if_pos rfl]
    exact p1.isT.ret r1
  | false =>
    rw [if_neg Bool.false_ne_true]
    exact ⟨e1, HF, H1, r1, p1.isF⟩
theorem dt_bool (h : DW X cm W a ma) : DT X cm W a ma := h.pt
theorem dt_not (ha : DT X cm W a ma) : DT X cm W (.UnaryOp .Not a pos) (notB ma) := by
  refine PT.impI (pt_not ha) fun σ H Q l h => ?_
  obtain ⟨e, HF, H0, rl, p⟩ := h
  exact ⟨e, HF, H0, rl, p.bnd.imp fun k e1 H1 H' s1 r1 p1 => p1 H1 H' (Same.refl _) r1⟩
/-- .. as values, of bools -/
def andV (m n : M D) : M D := (tstB m).bnd fun b => if b = true then n else M.ret (.bl false)
def orV (m n : M D) : M D := (tstB m).bnd fun b => if b = true then M.ret (.bl true) else n
def notV (m : M D) : M D := (tstB m).bnd fun b => M.ret (.bl (!b))
theorem de_one {op : BoolOp} (h : DE X cm W a fa) : DE X cm W (.BoolOp op [a] pos) fa := pe_one h
theorem de_and (ha : DE X cm W a fa) (hb : DE X cm W (.BoolOp .And (b :: rest) pos) fb) : DE X cm W (.BoolOp .And (a :: b :: rest) pos) (andV fa fb) := by
  refine PE.impI (pe_and ha hb) fun σ H Q l h => ?_
  obtain ⟨e, HF, H0, rl, p⟩ := h
  refine ⟨e, HF, H0, rl, p.bnd.bnd.imp fun x e1 H1 H' s1 r1 p1 v dv => ?_⟩
  obtain ⟨k, hk, q⟩ := p1.opt r1
  cases x with
  | bl k' =>
    cases hk
    cases dv
    refine ⟨k, rfl, ?_⟩
    have q' := q H1 H' (Same.refl _) r1
    cases k with
    | true =>
      rw [if_pos rfl]
      exact ⟨e1, HF, H1, r1, q'.isT⟩
    | false =>
      rw [if_neg Bool.false_ne_true]
      exact q'.isF.ret r1 _ (.bl false)
  | _ => cases hk
theorem de_or (ha : DE X cm W a fa) (hb : DE X cm W (.BoolOp .Or (b :: rest) pos) fb) : DE X cm W (.BoolOp .Or (a :: b :: rest) pos) (orV fa fb) := by
  refine PE.impI (pe_or ha hb) fun σ H Q l h => ?_
  obtain ⟨e, HF, H0, rl, p⟩ := h
  refine ⟨e, HF, H0, rl, p.bnd.bnd.imp fun x e1 H1 H' s1 r1 p1 v dv => ?_⟩
  obtain ⟨k, hk, q⟩ := p1.opt r1
  cases x with
  | bl k' =>
    cases hk
    cases dv
    refine ⟨k, rfl, ?_⟩
    have q' := q H1 H' (Same.refl _) r1
    cases k with
    | true =>
      rw [if_pos rfl]
      exact q'.isT.ret r1 _ (.bl true)
    | false =>
      rw [if_neg Bool.false_ne_true]
      exact ⟨e1, HF, H1, r1, q'.isF⟩
  | _ => cases hk
theorem de_not (ha : DE X cm W a fa) : DE X cm W (.UnaryOp .Not a pos) (notV fa) := by
  refine PE.impI (pe_not ha) fun σ H Q l h => ?_
  obtain ⟨e, HF, H0, rl, p⟩ := h
  refine ⟨e, HF, H0, rl, p.bnd.bnd.imp fun x e1 H1 H' s1 r1 p1 v dv => ?_⟩
  obtain ⟨k, hk, q⟩ := p1.opt r1
  cases x with
  | bl k' =>
    cases hk
    cases dv
    exact ⟨k, rfl, q H1 H' (Same.refl _) r1 H1 H' (Same.refl _) r1 _ (.bl _)⟩
  | _ => cases hk
def ifV (t : M Bool) (m n : M D) : M D := t.bnd fun b => if b = true then m else n
theorem de_ifExp (hc : DT X cm W c ma) (ha : DE X cm W a fa) (hb : DE X cm W b fb) : DE X cm W (.IfExp c a b pos) (ifV ma fa fb) := by
  refine PE.impI (pe_ifExp hc ha hb) fun σ H Q l h => ?_
  obtain ⟨e, HF, H0, rl, p⟩ := h
  refine ⟨e, HF, H0, rl, p.bnd.imp fun k e1 H1 H' s1 r1 p1 => ?_⟩
  cases k with
  | true =>
    rw [if_pos rfl]
    exact ⟨e1, HF, H1, r1, p1.isT⟩
  | false =>
    rw [if_neg Bool.false_ne_true]
    exact ⟨e1, HF, H1, r1, p1.isF⟩

/-! ### names and constants -/
def getV (i : Nat) : M D := fun e => match e[i]? with
  | some (.dat d) => .ok d e
  | some (.own _ (.lst xs)) => .ok (.lst xs) (e.set i (.dat (.lst xs)))
  | _ => .no
theorem de_var (i : Nat) {x : Str} (hN : X.N[i]? = some x := by rfl) (hv : Vis X.env.scope x := by first | exact Or.inl rfl | exact Or.inr (Or.inl rfl) | exact Or.inr (Or.inr rfl)) (hd : (x == ("__debug__" : Str)) = false := by decide)
    (hcd : (x == ("__classdict__" : Str)) = false := by decide) : DE X cm W (.Name x pos) (getV i) := by
  refine PE.impI (pe_var hN hv hd hcd) fun σ H Q l h => ?_
  obtain ⟨e, HF, H0, rl, p⟩ := h
  unfold getV at p
  split at p
  · rename_i d q
    obtain ⟨v, hv, dv⟩ := rl.dat q
    exact ⟨v, hv, p H0 H (Same.refl _) rl v dv⟩
  · rename_i t xs q
    obtain ⟨l', H1, hl, s1, dt, r1⟩ := rl.freeze q
    exact ⟨.ref l', hl, p H1 H s1 r1 _ dt⟩
  · exact p.elim
theorem de_c {v : V} {d : D} (h : PE X a (tC v)) (hd : ∀ H, Dt X.K cm H v d) : DE X cm W a (M.ret d) := PE.impI h fun σ H Q l q => by
  obtain ⟨e, HF, H0, rl, p⟩ := q
  exact p H0 H (Same.refl _) rl v (hd H0)
theorem de_int {i j} : DE X cm W (.Constant (.int i) j pos) (M.ret (.int i)) := de_c pe_int fun _ => .int i
theorem de_bl {b j} : DE X cm W (.Constant (.bool b) j pos) (M.ret (.bl b)) := de_c pe_bl fun _ => .bl b
theorem de_non {j} : DE X cm W (.Constant .none j pos) (M.ret .non) := de_c pe_non fun _ => .non
theorem de_str {x j} : DE X cm W (.Constant (.str x) j pos) (M.ret (.str x)) := de_c pe_str fun _ => .str x

/-! ### argument lists and displays -/
def consA (m : M D) (n : M (List D)) : M (List D) := m.bnd fun d => n.bnd fun ds => M.ret (d :: ds)
theorem da_nil : DA X cm W [] (M.ret []) := PA.impI pa_nil fun σ H Q l q => by
  obtain ⟨e, HF, H0, rl, p⟩ := q
  exact p H0 H (Same.refl _) rl [] .nil
theorem da_cons {fs : M (List D)} (ha : DE X cm W a fa) (hr : DA X cm W es fs) (hs : starEach (a :: es) X.env = (false, eval a X.env) :: starEach es X.env := by rfl) : DA X cm W (a :: es) (consA fa fs) := by
  refine PA.impI (pa_cons ha hr hs) fun σ H Q l q => ?_
  obtain ⟨e, HF, H0, rl, p⟩ := q
  refine ⟨e, HF, H0, rl, p.bnd.imp fun d e1 H1 H' s1 r1 p1 v dv => ?_⟩
  refine ⟨e1, HF, H1, r1, p1.bnd.imp fun ds e2 H2 H'' s2 r2 p2 vs dvs => ?_⟩
  exact p2 H2 H'' (Same.refl _) r2 (v :: vs) (.cons (dv.mono s2) dvs)
def mkTup (m : M (List D)) : M D := m.bnd fun ds => M.opt (if ds.length ≤ sizeLine then some (.tup ds) else none)
def mkLst (m : M (List D)) : M D := m.bnd fun ds => M.opt (if ds.length ≤ sizeLine then some (.lst ds) else none)
theorem de_tup {fs : M (List D)} {x1} (h : DA X cm W es fs) : DE X cm W (.Tuple es x1 pos) (mkTup fs) := by
  refine PE.impI (pe_tup h) fun σ H Q l q => ?_
  obtain ⟨e, HF, H0, rl, p⟩ := q
  refine ⟨e, HF, H0, rl, p.bnd.imp fun ds e1 H1 H' s1 r1 p1 vs dvs => ?_⟩
  obtain ⟨d, hd, q⟩ := p1.opt r1
  split at hd
  · rename_i hl
    cases hd
    refine ⟨by rw [dvs.length]; exact hl, fun a ha => ?_⟩
    obtain ⟨r2, s2⟩ := r1.laid ha (.tup vs)
    exact q _ _ s2 r2 _ (.tup (SqT.of upd_same) (dvs.mono s2))
  · cases hd
theorem de_lst {fs : M (List D)} (h : DA X cm W es fs) : DE X cm W (.List es pos) (mkLst fs) := by
  refine PE.impI (pe_lst h) fun σ H Q l q => ?_
  obtain ⟨e, HF, H0, rl, p⟩ := q
  refine ⟨e, HF, H0, rl, p.bnd.imp fun ds e1 H1 H' s1 r1 p1 vs dvs => ?_⟩
  obtain ⟨d, hd, q⟩ := p1.opt r1
  split at hd
  · rename_i hl
    cases hd
    refine ⟨by rw [dvs.length]; exact hl, fun a ha => ?_⟩
    obtain ⟨r2, s2⟩ := r1.laid ha (.lst vs)
    exact q _ _ s2 r2 _ (.lst upd_same (dvs.mono s2))
  · cases hd
end
end DL
set_option maxRecDepth 100000
/-! # DL3: operators, comparisons, items and slices on data. -/
namespace DL
open PySem L2

/-! ### data as the library's data -/
mutual
def D.toPy : D → PyData
  | .non => .none
  | .bl b => .bool b
  | .int i => .int i
  | .str s => .str s
  | .lst xs => .list (D.toPys xs)
  | .tup xs => .tuple (D.toPys xs)
  | .ins _ _ => .none
def D.toPys : List D → List PyData
  | [] => []
  | d :: ds => d.toPy :: D.toPys ds
end
mutual
def D.noIns : D → Bool
  | .non | .bl _ | .int _ | .str _ => true
  | .lst xs | .tup xs => D.noInss xs
  | .ins _ _ => false
def D.noInss : List D → Bool
  | [] => true
  | d :: ds => d.noIns && D.noInss ds
end
def D.okEq (d : D) : Bool := d.noIns && SeqAt.shaped d.toPy
def D.eqv (a b : D) : Bool := PyData.eqv a.toPy b.toPy
section
variable {K : PySem.W.Frag} {cm : CM} {H : Hp}
mutual
theorem Dt.toDp : ∀ {v : V} {d : D}, Dt K cm H v d → d.noIns = true → Dp K H v d.toPy
  | _, _, .non, _ => .non
  | _, _, .bl b, _ => .bl b
  | _, _, .int i, _ => .int i
  | _, _, .str s, _ => .str s
  | _, _, .lst h hs, q => .lst (SqL.of h) (Dts.toDp hs q)
  | _, _, .tup h hs, q => .tup h (Dts.toDp hs q)
  | _, _, .ins _ _ _, q => by cases q
theorem Dts.toDp : ∀ {v : List V} {d : List D}, Dts K cm H v d → D.noInss d = true → DpAll K H v (D.toPys d)
  | _, _, .nil, _ => .nil
  | _, _, .cons h hs, q => by
    have q' := (Bool.and_eq_true _ _ ▸ q : _ ∧ _)
    exact .cons (Dt.toDp h q'.1) (Dts.toDp hs q'.2)
end
theorem Dt.okDp {v : V} {d : D} (h : Dt K cm H v d) (q : d.okEq = true) : Dp K H v d.toPy ∧ SeqAt.shaped d.toPy = true := by
  unfold D.okEq at q
  rw [Bool.and_eq_true] at q
  exact ⟨h.toDp q.1, q.2⟩
end
theorem toPys_map (ds : List D) : D.toPys ds = ds.map D.toPy := by
  induction ds with
  | nil => rfl
  | cons d ds ih => show _ :: _ = _ :: _; rw [ih]

/-! ### what the operators do -/
def mulOk (i j : Int) : Bool := decide (i.natAbs < 2 ^ 64) || decide (j.natAbs < 2 ^ 64) || decide (i.natAbs.log2 + j.natAbs.log2 < 1000000)
def addD : D → D → Option D
  | .int i, .int j => some (.int (i + j))
  | .str s, .str t => if s.length + t.length ≤ sizeLine then some (.str (s ++ t)) else none
  | .tup xs, .tup ys => if xs.length + ys.length ≤ sizeLine then some (.tup (xs ++ ys)) else none
  | .lst xs, .lst ys => if xs.length + ys.length ≤ sizeLine then some (.lst (xs ++ ys)) else none
  | _, _ => none
def subD : D → D → Option D
  | .int i, .int j => some (.int (i - j))
  | _, _ => none
def mulD : D → D → Option D
  | .int i, .int j => if mulOk i j = true then some (.int (i * j)) else none
  | _, _ => none
def fdivD : D → D → Option D
  | .int i, .int j => if 0 < j ∧ j.natAbs.log2 < 9000 then some (.int (i / j)) else none
  | _, _ => none
def modD : D → D → Option D
  | .int i, .int j => if 0 < j then some (.int (i % j)) else none
  | _, _ => none
def powD : D → D → Option D
  | .int i, .int j => if 0 ≤ j ∧ j ≤ 1000000 ∧ i.natAbs < 2 ^ 64 then some (.int (i ^ j.toNat)) else none
  | _, _ => none
def bandD : D → D → Option D
  | .int i, .int j => some (.int (Builtin.bitAnd i j))
  | _, _ => none
def borD : D → D → Option D
  | .int i, .int j => some (.int (Builtin.bitOr i j))
  | _, _ => none
def shlD : D → D → Option D
  | .int i, .int j => if 0 ≤ j ∧ j ≤ 1000000 ∧ i.natAbs < 2 ^ 64 then some (.int (i * 2 ^ j.toNat)) else none
  | _, _ => none
def shrD : D → D → Option D
  | .int i, .int j => if 0 ≤ j then some (.int (i / 2 ^ j.toNat)) else none
  | _, _ => none
def negD : D → Option D
  | .int i => some (.int (-i))
  | _ => none
def intsOf : List D → Option (List Int)
  | [] => some []
  | .int i :: r => (intsOf r).map (i :: ·)
  | _ :: _ => none
theorem intsOf_some : ∀ {ds : List D} {ns : List Int}, intsOf ds = some ns → ds = ns.map D.int
  | [], _, h => by cases h; rfl
  | .int i :: r, ns, h => by
    unfold intsOf at h
    cases q : intsOf r with
    | none => rw [q] at h; cases h
    | some ms => rw [q] at h; cases h; rw [intsOf_some q]; rfl
  | .non :: _, _, h => by cases h
  | .bl _ :: _, _, h => by cases h
  | .str _ :: _, _, h => by cases h
  | .lst _ :: _, _, h => by cases h
  | .tup _ :: _, _, h => by cases h
  | .ins _ _ :: _, _, h => by cases h
theorem intsOf_map (ns : List Int) : intsOf (ns.map D.int) = some ns := by
  induction ns with
  | nil => rfl
  | cons n ns ih => show (intsOf (ns.map D.int)).map (n :: ·) = _; rw [ih]; rfl
def ltD : D → D → Option D
  | .int i, .int j => some (.bl (decide (i < j)))
  | .str s, .str t => some (.bl (decide (s.cps.toList < t.cps.toList)))
  | .tup xs, .tup ys => match intsOf xs, intsOf ys with
    | some ns, some ms => some (.bl (HT.lexLt ns ms))
    | _, _ => none
  | _, _ => none
def leD : D → D → Option D
  | .int i, .int j => some (.bl (decide (i ≤ j)))
  | _, _ => none
def gtD : D → D → Option D
  | .int i, .int j => some (.bl (decide (j < i)))
  | .str s, .str t => some (.bl (decide (t.cps.toList < s.cps.toList)))
  | _, _ => none
def geD : D → D → Option D
  | .int i, .int j => some (.bl (decide (j ≤ i)))
  | _, _ => none
def eqD (a b : D) : Option D := if a.okEq = true ∧ b.okEq = true then some (.bl (a.eqv b)) else none
def neD (a b : D) : Option D := if a.okEq = true ∧ b.okEq = true then some (.bl (!a.eqv b)) else none
def isNoneD : D → Bool
  | .non => true
  | _ => false
def isD : D → D → Option D
  | a, .non => some (.bl (isNoneD a))
  | .bl a, .bl b => some (.bl (decide (a = b)))
  | _, _ => none
def isntD : D → D → Option D
  | a, .non => some (.bl (!isNoneD a))
  | .bl a, .bl b => some (.bl (!decide (a = b)))
  | _, _ => none
def strIn (s t : Str) : Bool := !(Builtin.Str.occurrences t s 0 t.length 1).isEmpty
def inD : D → D → Option D
  | a, .lst xs => if a.okEq = true ∧ (D.lst xs).okEq = true then some (.bl (xs.any fun z => z.eqv a)) else none
  | a, .tup xs => if a.okEq = true ∧ (D.tup xs).okEq = true then some (.bl (xs.any fun z => z.eqv a)) else none
  | .str s, .str t => some (.bl (strIn s t))
  | _, _ => none
def notInD (a b : D) : Option D := match inD a b with
  | some (.bl k) => some (.bl (!k))
  | _ => none

section
variable {X : Cx} {cm : CM} {K : PySem.W.Frag}
theorem opX_mk {g : Value → Value → Sem Value} {r : R2} {f : D → D → Option D} (h : OpR X g r) (hd : OpD X.K cm r f) : OpX X cm g f := ⟨r, h, hd⟩
/-- ints to ints -/
theorem opI_mk {g : Value → Value → Sem Value} {C : Int → Int → Prop} {k : Int → Int → Int} {f : D → D → Option D} (h : OpR X g (rI C fun i j => .int (k i j)))
    (hf : ∀ a b c, f a b = some c → ∃ i j, a = .int i ∧ b = .int j ∧ C i j ∧ c = .int (k i j)) : OpX X cm g f := by
  refine ⟨_, h, fun HF H0 H σ e x y a b c Q l rl dx dy z q => ?_⟩
  obtain ⟨i, j, rfl, rfl, hc, rfl⟩ := hf _ _ _ z
  cases dx
  cases dy
  exact ⟨i, j, rfl, rfl, hc, q H0 H _ (Same.refl _) rl (.int _)⟩
theorem opI0_mk {g : Value → Value → Sem Value} {k : Int → Int → Int} {f : D → D → Option D} (h : OpR X g (rI0 fun i j => .int (k i j)))
    (hf : ∀ a b c, f a b = some c → ∃ i j, a = .int i ∧ b = .int j ∧ c = .int (k i j)) : OpX X cm g f := by
  refine ⟨_, h, fun HF H0 H σ e x y a b c Q l rl dx dy z q => ?_⟩
  obtain ⟨i, j, rfl, rfl, rfl⟩ := hf _ _ _ z
  cases dx
  cases dy
  exact ⟨i, j, rfl, rfl, q H0 H _ (Same.refl _) rl (.int _)⟩
theorem opB0_mk {g : Value → Value → Sem Value} {k : Int → Int → Bool} {f : D → D → Option D} (h : OpR X g (rI0 fun i j => .bl (k i j)))
    (hf : ∀ a b c, f a b = some c → ∃ i j, a = .int i ∧ b = .int j ∧ c = .bl (k i j)) : OpX X cm g f := by
  refine ⟨_, h, fun HF H0 H σ e x y a b c Q l rl dx dy z q => ?_⟩
  obtain ⟨i, j, rfl, rfl, rfl⟩ := hf _ _ _ z
  cases dx
  cases dy
  exact ⟨i, j, rfl, rfl, q H0 H _ (Same.refl _) rl (.bl _)⟩
theorem opS_mk {g : Value → Value → Sem Value} {k : Str → Str → Bool} {f : D → D → Option D} (h : OpR X g (fun x y H Q => ∃ i j, x = .str i ∧ y = .str j ∧ Q (.bl (k i j)) H))
    (hf : ∀ a b c, f a b = some c → ∃ i j, a = .str i ∧ b = .str j ∧ c = .bl (k i j)) : OpX X cm g f := by
  refine ⟨_, h, fun HF H0 H σ e x y a b c Q l rl dx dy z q => ?_⟩
  obtain ⟨i, j, rfl, rfl, rfl⟩ := hf _ _ _ z
  cases dx
  cases dy
  exact ⟨i, j, rfl, rfl, q H0 H _ (Same.refl _) rl (.bl _)⟩
/-- two kinds joined: f is f1 where that is defined, else f2 -/
theorem opX_or {g : Value → Value → Sem Value} {f f1 f2 : D → D → Option D} (h1 : OpX X cm g f1) (h2 : OpX X cm g f2) (hf : ∀ a b c, f a b = some c → f1 a b = some c ∨ (f1 a b = none ∧ f2 a b = some c)) : OpX X cm g f :=
  (OpX.or h1 h2).imp fun a b c z => by
    rcases hf a b c z with q | ⟨q1, q2⟩
    · rw [q]
    · rw [q1]
      exact q2

theorem cat_list : OpR X (binaryOp .Add) rCat := op_cat
def addI : D → D → Option D
  | .int i, .int j => some (.int (i + j))
  | _, _ => none
def addS : D → D → Option D
  | .str s, .str t => if s.length + t.length ≤ sizeLine then some (.str (s ++ t)) else none
  | _, _ => none
def addT : D → D → Option D
  | .tup xs, .tup ys => if xs.length + ys.length ≤ sizeLine then some (.tup (xs ++ ys)) else none
  | _, _ => none
def addL : D → D → Option D
  | .lst xs, .lst ys => if xs.length + ys.length ≤ sizeLine then some (.lst (xs ++ ys)) else none
  | _, _ => none
theorem ox_addI : OpX X cm (binaryOp .Add) addI := opI0_mk op_add fun a b c z => by
  unfold addI at z
  split at z
  · cases z; exact ⟨_, _, rfl, rfl, rfl⟩
  · cases z
theorem ox_addS : OpX X cm (binaryOp .Add) addS := by
  refine ⟨_, op_add_str, fun HF H0 H σ e x y a b c Q l rl dx dy z q => ?_⟩
  unfold addS at z
  split at z
  · split at z
    · rename_i hl
      cases z
      cases dx
      cases dy
      exact ⟨_, _, rfl, rfl, hl, q H0 H _ (Same.refl _) rl (.str _)⟩
    · cases z
  · cases z
theorem ox_addT : OpX X cm (binaryOp .Add) addT := by
  refine ⟨_, op_catA, fun HF H0 H σ e x y a b c Q l rl dx dy z q => ?_⟩
  unfold addT at z
  split at z
  · split at z
    · rename_i hl
      cases z
      cases dx with
      | tup h1 d1 =>
      cases dy with
      | tup h2 d2 =>
      rename_i p1 v1 p2 v2
      refine ⟨_, _, _, _, rfl, rfl, seqT rl.fro h1, seqT rl.fro h2, by rw [d1.length, d2.length]; exact hl, fun hx => ?_, fun hx hy => ?_, fun hx hy p hp => ?_⟩
      · subst hx
        cases d1
        exact q H0 H _ (Same.refl _) rl (.tup h2 d2)
      · subst hy
        cases d2
        rw [List.append_nil] at q
        exact q H0 H _ (Same.refl _) rl (.tup h1 d1)
      · obtain ⟨r2, s2⟩ := rl.laid hp (.tup (v1 ++ v2))
        exact q _ _ _ s2 r2 (.tup (SqT.of upd_same) ((d1.append d2).mono s2))
    · cases z
  · cases z
theorem ox_addL : OpX X cm (binaryOp .Add) addL := by
  refine ⟨_, op_cat, fun HF H0 H σ e x y a b c Q l rl dx dy z q => ?_⟩
  unfold addL at z
  split at z
  · split at z
    · rename_i hl
      cases z
      cases dx with
      | lst h1 d1 =>
      cases dy with
      | lst h2 d2 =>
      rename_i p1 v1 p2 v2
      refine ⟨_, _, _, _, rfl, rfl, rl.fro _ _ h1, rl.fro _ _ h2, by rw [d1.length, d2.length]; exact hl, fun p hp => ?_⟩
      obtain ⟨r2, s2⟩ := rl.laid hp (.lst (v1 ++ v2))
      exact q _ _ _ s2 r2 (.lst upd_same ((d1.append d2).mono s2))
    · cases z
  · cases z
theorem ox_add : OpX X cm (binaryOp .Add) addD := by
  refine opX_or ox_addI (opX_or ox_addS (opX_or ox_addT ox_addL (f := fun a b => match addT a b with | some c => some c | none => addL a b) ?_) (f := fun a b => match addS a b with | some c => some c | none => match addT a b with | some c => some c | none => addL a b) ?_) ?_
  · intro a b c z
    cases q : addT a b with
    | some c' => rw [q] at z; exact .inl z
    | none => rw [q] at z; exact .inr ⟨rfl, z⟩
  · intro a b c z
    cases q : addS a b with
    | some c' => rw [q] at z; exact .inl z
    | none => rw [q] at z; exact .inr ⟨rfl, z⟩
  · intro a b c z
    cases a <;> cases b <;> first
      | exact .inl z
      | exact .inr ⟨rfl, by simpa [addS, addT, addL, addD] using z⟩
      | exact .inr ⟨rfl, by simp only [addS, addT, addL, addD] at z ⊢; exact z⟩
      | (simp only [addD] at z; split at z <;> first | cases z; done | (rename_i hl; cases z; exact .inr ⟨rfl, by simp [addS, addT, addL, hl]⟩))
theorem ox_sub : OpX X cm (binaryOp .Sub) subD := opI0_mk op_sub fun a b c z => by
  unfold subD at z
  split at z
  · cases z; exact ⟨_, _, rfl, rfl, rfl⟩
  · cases z
theorem mul_any : OpR X (binaryOp .Mult) (rI (fun i j => mulOk i j = true) fun i j => .int (i * j)) := opI fun i j _ _ _ _ _ hc q => by
  refine PyProof.Rows.mul_int q ?_
  unfold mulOk at hc
  rw [Bool.or_eq_true, Bool.or_eq_true] at hc
  rcases hc with (h | h) | h
  · have h := of_decide_eq_true h
    exact CMul.ok (.inl ⟨by omega, by omega⟩)
  · have h := of_decide_eq_true h
    exact CMul.ok (.inr ⟨by omega, by omega⟩)
  · exact CMulW.ok (show i.natAbs.log2 + j.natAbs.log2 < 1000000 from of_decide_eq_true h)
theorem ox_mul : OpX X cm (binaryOp .Mult) mulD := opI_mk mul_any fun a b c z => by
  unfold mulD at z
  split at z
  · split at z
    · rename_i h
      cases z
      exact ⟨_, _, rfl, rfl, h, rfl⟩
    · cases z
  · cases z
theorem ox_fdiv : OpX X cm (binaryOp .FloorDiv) fdivD := opI_mk op_fdivW fun a b c z => by
  unfold fdivD at z
  split at z
  · split at z
    · rename_i h
      cases z
      exact ⟨_, _, rfl, rfl, h, rfl⟩
    · cases z
  · cases z
theorem ox_mod : OpX X cm (binaryOp .Mod) modD := opI_mk op_mod fun a b c z => by
  unfold modD at z
  split at z
  · split at z
    · rename_i h
      cases z
      exact ⟨_, _, rfl, rfl, h, rfl⟩
    · cases z
  · cases z
theorem ox_pow : OpX X cm (binaryOp .Pow) powD := opI_mk op_pow fun a b c z => by
  unfold powD at z
  split at z
  · split at z
    · rename_i h
      cases z
      exact ⟨_, _, rfl, rfl, h, rfl⟩
    · cases z
  · cases z
theorem ox_shl : OpX X cm (binaryOp .LShift) shlD := opI_mk op_shl fun a b c z => by
  unfold shlD at z
  split at z
  · split at z
    · rename_i h
      cases z
      exact ⟨_, _, rfl, rfl, h, rfl⟩
    · cases z
  · cases z
theorem ox_shr : OpX X cm (binaryOp .RShift) shrD := opI_mk op_shr fun a b c z => by
  unfold shrD at z
  split at z
  · split at z
    · rename_i h
      cases z
      exact ⟨_, _, rfl, rfl, h, rfl⟩
    · cases z
  · cases z
theorem ox_band : OpX X cm (binaryOp .BitAnd) bandD := opI0_mk op_and fun a b c z => by
  unfold bandD at z
  split at z
  · cases z; exact ⟨_, _, rfl, rfl, rfl⟩
  · cases z
theorem ox_bor : OpX X cm (binaryOp .BitOr) borD := opI0_mk op_or fun a b c z => by
  unfold borD at z
  split at z
  · cases z; exact ⟨_, _, rfl, rfl, rfl⟩
  · cases z
theorem ux_neg : UnX X cm (unaryOp .USub) negD := by
  refine ⟨_, un_neg, fun HF H0 H σ e x a c Q l rl dx z q => ?_⟩
  unfold negD at z
  split at z
  · cases z
    cases dx
    exact ⟨_, rfl, q H0 H _ (Same.refl _) rl (.int _)⟩
  · cases z
def ltI : D → D → Option D
  | .int i, .int j => some (.bl (decide (i < j)))
  | _, _ => none
def ltS : D → D → Option D
  | .str s, .str t => some (.bl (decide (s.cps.toList < t.cps.toList)))
  | _, _ => none
def ltT : D → D → Option D
  | .tup xs, .tup ys => match intsOf xs, intsOf ys with
    | some ns, some ms => some (.bl (HT.lexLt ns ms))
    | _, _ => none
  | _, _ => none
theorem ox_lt (hu : X.A.units + 100 < cLine) : OpX X cm (compareOp .Lt) ltD := by
  refine opX_or (f1 := ltI) (opB0_mk op_lt fun a b c z => ?_) (opX_or (f1 := ltS) (f2 := ltT) (opS_mk op_lt_str fun a b c z => ?_) ⟨_, op_ltT (by omega), fun HF H0 H σ e x y a b c Q l rl dx dy z q => ?_⟩ (f := fun a b => match ltS a b with | some c => some c | none => ltT a b) ?_) ?_
  · unfold ltI at z
    split at z
    · cases z; exact ⟨_, _, rfl, rfl, rfl⟩
    · cases z
  · unfold ltS at z
    split at z
    · cases z; exact ⟨_, _, rfl, rfl, rfl⟩
    · cases z
  · unfold ltT at z
    split at z
    · rename_i xs ys
      split at z
      · rename_i ns ms h1 h2
        cases z
        rw [intsOf_some h1] at dx
        rw [intsOf_some h2] at dy
        cases dx with
        | tup t1 d1 =>
        cases dy with
        | tup t2 d2 =>
        refine ⟨_, _, ns, ms, rfl, rfl, ?_, ?_, q H0 H _ (Same.refl _) rl (.bl _)⟩
        · rw [← d1.ints_inv]; exact seqT rl.fro t1
        · rw [← d2.ints_inv]; exact seqT rl.fro t2
      · cases z
    · cases z
  · intro a b c z
    cases q : ltS a b with
    | some c' => rw [q] at z; exact .inl z
    | none => rw [q] at z; exact .inr ⟨rfl, z⟩
  · intro a b c z
    cases a <;> cases b <;> first
      | exact .inl z
      | exact .inr ⟨rfl, z⟩
theorem ox_le : OpX X cm (compareOp .LtE) leD := opB0_mk op_le fun a b c z => by
  unfold leD at z
  split at z
  · cases z; exact ⟨_, _, rfl, rfl, rfl⟩
  · cases z
theorem ox_ge : OpX X cm (compareOp .GtE) geD := opB0_mk op_ge fun a b c z => by
  unfold geD at z
  split at z
  · cases z; exact ⟨_, _, rfl, rfl, rfl⟩
  · cases z
def gtI : D → D → Option D
  | .int i, .int j => some (.bl (decide (j < i)))
  | _, _ => none
def gtS : D → D → Option D
  | .str s, .str t => some (.bl (decide (t.cps.toList < s.cps.toList)))
  | _, _ => none
theorem ox_gt : OpX X cm (compareOp .Gt) gtD := by
  refine opX_or (f1 := gtI) (f2 := gtS) (opB0_mk op_gt fun a b c z => ?_) (opS_mk op_gt_str fun a b c z => ?_) ?_
  · unfold gtI at z
    split at z
    · cases z; exact ⟨_, _, rfl, rfl, rfl⟩
    · cases z
  · unfold gtS at z
    split at z
    · cases z; exact ⟨_, _, rfl, rfl, rfl⟩
    · cases z
  · intro a b c z
    cases a <;> cases b <;> first
      | exact .inl z
      | exact .inr ⟨rfl, z⟩
theorem Dt.okUp {HF H0 H : Hp} {σ : St} {e : En} {v : V} {d : D} (r : Rl K cm HF H0 H σ e) (h : Dt K cm H0 v d) (q : d.okEq = true) : Dp K H v d.toPy ∧ SeqAt.shaped d.toPy = true := (h.mono r.fro).okDp q
theorem ox_eq (hu : X.A.units + 100 < cLine) : OpX X cm (compareOp .Eq) eqD := by
  refine ⟨_, op_eqD (by omega), fun HF H0 H σ e x y a b c Q l rl dx dy z q => ?_⟩
  unfold eqD at z
  split at z
  · rename_i h
    cases z
    obtain ⟨p1, q1⟩ := Dt.okUp rl dx h.1
    obtain ⟨p2, q2⟩ := Dt.okUp rl dy h.2
    exact ⟨_, _, p1, p2, q1, q2, q H0 H _ (Same.refl _) rl (.bl _)⟩
  · cases z
theorem ox_ne (hu : X.A.units + 100 < cLine) : OpX X cm (compareOp .NotEq) neD := by
  refine ⟨_, op_neD (by omega), fun HF H0 H σ e x y a b c Q l rl dx dy z q => ?_⟩
  unfold neD at z
  split at z
  · rename_i h
    cases z
    obtain ⟨p1, q1⟩ := Dt.okUp rl dx h.1
    obtain ⟨p2, q2⟩ := Dt.okUp rl dy h.2
    exact ⟨_, _, p1, p2, q1, q2, q H0 H _ (Same.refl _) rl (.bl _)⟩
  · cases z
theorem isNone_of {H : Hp} {x : V} {a : D} (h : Dt K cm H x a) : decide (x = .non) = isNoneD a := by
  cases h <;> simp [isNoneD]
def isN : D → D → Option D
  | a, .non => some (.bl (isNoneD a))
  | _, _ => none
def isB : D → D → Option D
  | .bl a, .bl b => some (.bl (decide (a = b)))
  | _, _ => none
def isntN : D → D → Option D
  | a, .non => some (.bl (!isNoneD a))
  | _, _ => none
def isntB : D → D → Option D
  | .bl a, .bl b => some (.bl (!decide (a = b)))
  | _, _ => none
theorem ox_is : OpX X cm (compareOp .Is) isD := by
  refine opX_or (f1 := isN) (f2 := isB) ⟨_, op_isN, fun HF H0 H σ e x y a b c Q l rl dx dy z q => ?_⟩ ⟨_, op_is_bl, fun HF H0 H σ e x y a b c Q l rl dx dy z q => ?_⟩ ?_
  · unfold isN at z
    split at z
    · cases z
      have w := isNone_of dx
      cases dy
      exact ⟨rfl, by rw [w]; exact q H0 H _ (Same.refl _) rl (.bl _)⟩
    · cases z
  · unfold isB at z
    split at z
    · cases z
      cases dx
      cases dy
      exact ⟨_, _, rfl, rfl, q H0 H _ (Same.refl _) rl (.bl _)⟩
    · cases z
  · intro a b c z
    cases a <;> cases b <;> first
      | exact .inl z
      | exact .inr ⟨rfl, z⟩
theorem ox_isnt : OpX X cm (compareOp .IsNot) isntD := by
  refine opX_or (f1 := isntN) (f2 := isntB) ⟨_, op_notN, fun HF H0 H σ e x y a b c Q l rl dx dy z q => ?_⟩ ⟨_, op_isnot_bl, fun HF H0 H σ e x y a b c Q l rl dx dy z q => ?_⟩ ?_
  · unfold isntN at z
    split at z
    · cases z
      have w := isNone_of dx
      cases dy
      exact ⟨rfl, by rw [w]; exact q H0 H _ (Same.refl _) rl (.bl _)⟩
    · cases z
  · unfold isntB at z
    split at z
    · cases z
      cases dx
      cases dy
      exact ⟨_, _, rfl, rfl, q H0 H _ (Same.refl _) rl (.bl _)⟩
    · cases z
  · intro a b c z
    cases a <;> cases b <;> first
      | exact .inl z
      | exact .inr ⟨rfl, z⟩

/-! x in a tuple, deep -/
def rInT (K : PySem.W.Frag) (neg : Bool) : R2 := fun x y H Q => ∃ d ds, Dp K H x d ∧ Dp K H y (.tuple ds) ∧ SeqAt.shaped d = true ∧ SeqAt.shaped (.tuple ds) = true ∧ Q (.bl (if neg then !(ds.any fun z => PyData.eqv z d) else ds.any fun z => PyData.eqv z d)) H
theorem op_inT (hu : X.A.units + 65 < cLine) : OpR X (compareOp .In) (rInT X.K false) := by
  intro pins s σ H x y v u Q I rx ry h
  obtain ⟨d, ds, hd, he, sd, se, q⟩ := h
  obtain ⟨as, r1⟩ := Dp.reads I d x v hd rx
  obtain ⟨bs, r2⟩ := Dp.reads I (.tuple ds) y u he ry
  exact SeqAt.in_tuple_reads r2 r1 (SeqAt.canLay_of_shaped se) (SeqAt.canLay_of_shaped sd) (PyProof.Rows.room_in_shaped sd hu) ⟨.bl _, H, I, rfl, q⟩
theorem op_notInT (hu : X.A.units + 65 < cLine) : OpR X (compareOp .NotIn) (rInT X.K true) := by
  intro pins s σ H x y v u Q I rx ry h
  obtain ⟨d, ds, hd, he, sd, se, q⟩ := h
  obtain ⟨as, r1⟩ := Dp.reads I d x v hd rx
  obtain ⟨bs, r2⟩ := Dp.reads I (.tuple ds) y u he ry
  exact SeqAt.notIn_tuple_reads r2 r1 (SeqAt.canLay_of_shaped se) (SeqAt.canLay_of_shaped sd) (PyProof.Rows.room_in_shaped sd hu) ⟨.bl _, H, I, rfl, q⟩
theorem any_toPys (xs : List D) (a : D) : ((D.toPys xs).any fun z => PyData.eqv z a.toPy) = xs.any fun z => z.eqv a := by
  rw [toPys_map, List.any_map]
  rfl
def inS : D → D → Option D
  | .str s, .str t => some (.bl (strIn s t))
  | _, _ => none
def inL : D → D → Option D
  | a, .lst xs => if a.okEq = true ∧ (D.lst xs).okEq = true then some (.bl (xs.any fun z => z.eqv a)) else none
  | _, _ => none
def inT : D → D → Option D
  | a, .tup xs => if a.okEq = true ∧ (D.tup xs).okEq = true then some (.bl (xs.any fun z => z.eqv a)) else none
  | _, _ => none
theorem ox_in (hu : X.A.units + 100 < cLine) : OpX X cm (compareOp .In) inD := by
  refine opX_or (f1 := inS) (opS_mk op_in_str fun a b c z => ?_) (opX_or (f1 := inL) (f2 := inT) ⟨_, op_inD (by omega), fun HF H0 H σ e x y a b c Q l rl dx dy z q => ?_⟩ ⟨_, op_inT (by omega), fun HF H0 H σ e x y a b c Q l rl dx dy z q => ?_⟩
    (f := fun a b => match inL a b with | some c => some c | none => inT a b) ?_) ?_
  · unfold inS at z
    split at z
    · cases z; exact ⟨_, _, rfl, rfl, rfl⟩
    · cases z
  · unfold inL at z
    split at z
    · split at z
      · rename_i h
        cases z
        obtain ⟨p1, q1⟩ := Dt.okUp rl dx h.1
        obtain ⟨p2, q2⟩ := Dt.okUp rl dy h.2
        refine ⟨_, _, p1, p2, q1, q2, ?_⟩
        rw [any_toPys]
        exact q H0 H _ (Same.refl _) rl (.bl _)
      · cases z
    · cases z
  · unfold inT at z
    split at z
    · split at z
      · rename_i h
        cases z
        obtain ⟨p1, q1⟩ := Dt.okUp rl dx h.1
        obtain ⟨p2, q2⟩ := Dt.okUp rl dy h.2
        refine ⟨_, _, p1, p2, q1, q2, ?_⟩
        rw [if_neg Bool.false_ne_true, any_toPys]
        exact q H0 H _ (Same.refl _) rl (.bl _)
      · cases z
    · cases z
  · intro a b c z
    cases q : inL a b with
    | some c' => rw [q] at z; exact .inl z
    | none => rw [q] at z; exact .inr ⟨rfl, z⟩
  · intro a b c z
    cases b with
    | str t => cases a <;> first | exact .inl z | cases z
    | lst xs =>
      refine .inr ⟨by cases a <;> rfl, ?_⟩
      have z' : inL a (.lst xs) = some c := by cases a <;> exact z
      show (match inL a (.lst xs) with | some c => some c | none => inT a (.lst xs)) = some c
      rw [z']
    | tup xs =>
      refine .inr ⟨by cases a <;> rfl, ?_⟩
      have z' : inT a (.tup xs) = some c := by cases a <;> exact z
      show (match inL a (.tup xs) with | some c => some c | none => inT a (.tup xs)) = some c
      rw [z']
      cases a <;> rfl
    | _ => cases a <;> cases z
def notInS : D → D → Option D
  | .str s, .str t => some (.bl (!strIn s t))
  | _, _ => none
def notInL : D → D → Option D
  | a, .lst xs => if a.okEq = true ∧ (D.lst xs).okEq = true then some (.bl (!(xs.any fun z => z.eqv a))) else none
  | _, _ => none
def notInT : D → D → Option D
  | a, .tup xs => if a.okEq = true ∧ (D.tup xs).okEq = true then some (.bl (!(xs.any fun z => z.eqv a))) else none
  | _, _ => none
theorem ox_notIn (hu : X.A.units + 100 < cLine) : OpX X cm (compareOp .NotIn) notInD := by
  refine opX_or (f1 := notInS) (opS_mk op_notIn_str fun a b c z => ?_) (opX_or (f1 := notInL) (f2 := notInT) ⟨_, op_notInD (by omega), fun HF H0 H σ e x y a b c Q l rl dx dy z q => ?_⟩ ⟨_, op_notInT (by omega), fun HF H0 H σ e x y a b c Q l rl dx dy z q => ?_⟩
    (f := fun a b => match notInL a b with | some c => some c | none => notInT a b) ?_) ?_
  · unfold notInS at z
    split at z
    · cases z; exact ⟨_, _, rfl, rfl, rfl⟩
    · cases z
  · unfold notInL at z
    split at z
    · split at z
      · rename_i h
        cases z
        obtain ⟨p1, q1⟩ := Dt.okUp rl dx h.1
        obtain ⟨p2, q2⟩ := Dt.okUp rl dy h.2
        refine ⟨_, _, p1, p2, q1, q2, ?_⟩
        rw [any_toPys]
        exact q H0 H _ (Same.refl _) rl (.bl _)
      · cases z
    · cases z
  · unfold notInT at z
    split at z
    · split at z
      · rename_i h
        cases z
        obtain ⟨p1, q1⟩ := Dt.okUp rl dx h.1
        obtain ⟨p2, q2⟩ := Dt.okUp rl dy h.2
        refine ⟨_, _, p1, p2, q1, q2, ?_⟩
        rw [if_pos rfl, any_toPys]
        exact q H0 H _ (Same.refl _) rl (.bl _)
      · cases z
    · cases z
  · intro a b c z
    cases q : notInL a b with
    | some c' => rw [q] at z; exact .inl z
    | none => rw [q] at z; exact .inr ⟨rfl, z⟩
  · intro a b c z
    unfold notInD at z
    split at z
    · rename_i k hk
      cases z
      cases b with
      | str t =>
        cases a <;> first
          | (cases hk; exact .inl rfl)
          | cases hk
      | lst xs =>
        refine .inr ⟨by cases a <;> rfl, ?_⟩
        have z' : inL a (.lst xs) = some (.bl k) := by cases a <;> exact hk
        have z2 : notInL a (.lst xs) = some (.bl (!k)) := by
          unfold inL at z'
          unfold notInL
          dsimp only at z' ⊢
          split at z'
          · cases z'
            rename_i h
            rw [if_pos h]
          · cases z'
        show (match notInL a (.lst xs) with | some c => some c | none => notInT a (.lst xs)) = _
        rw [z2]
      | tup xs =>
        refine .inr ⟨by cases a <;> rfl, ?_⟩
        have z' : inT a (.tup xs) = some (.bl k) := by cases a <;> exact hk
        have z2 : notInT a (.tup xs) = some (.bl (!k)) := by
          unfold inT at z'
          unfold notInT
          dsimp only at z' ⊢
          split at z'
          · cases z'
            rename_i h
            rw [if_pos h]
          · cases z'
        show (match notInL a (.tup xs) with | some c => some c | none => notInT a (.tup xs)) = _
        rw [z2]
        cases a <;> rfl
      | _ => cases a <;> cases hk
    · cases z
end

/-! ### items and slices -/
def ixD : D → D → Option D
  | .lst xs, .int i => atI xs i
  | .tup xs, .int i => atI xs i
  | .str s, .int i => if s.length ≤ sizeLine then (atI s.cps.toList i).map fun c => .str ⟨#[c]⟩ else none
  | _, _ => none
def cutL {α : Type} (xs : List α) (lo hi : Option Int) : List α := (xs.drop (HT.sIx xs.length 0 lo)).take (HT.sIx xs.length xs.length hi - HT.sIx xs.length 0 lo)
def sliceD : D → Option Int → Option Int → Option D
  | .lst xs, lo, hi => some (.lst (cutL xs lo hi))
  | .tup xs, lo, hi => some (.tup (cutL xs lo hi))
  | .str s, lo, hi => if s.length ≤ sizeLine then some (.str (cutS s lo hi)) else none
  | _, _, _ => none
def partD (m : M D) : M (Option Int) := m.bnd fun d => M.opt (match d with | .int i => some (some i) | _ => none)
def partN : M (Option Int) := M.ret none
def slice3 (m : M D) (lo hi : M (Option Int)) : M D := m.bnd fun d => lo.bnd fun l => hi.bnd fun h => M.opt (sliceD d l h)
section
variable {X : Cx} {cm : CM} {W : WX} {a b : Expr} {fa fb : M D} {pos p2 : Pos} {lo hi : Option Expr} {ml mh : M (Option Int)}
theorem IxR.impI {r r' : R2} (h : IxR X r) (hi : ∀ x y H Q, Lens X.K H → r' x y H Q → r x y H Q) : IxR X r' :=
  fun value slice pins s σ H x y v u Q I rx ry q => h value slice pins s σ H x y v u Q I rx ry (hi x y H Q (Inv.lens I) q)
theorem Dts.atI {K : PySem.W.Frag} {H : Hp} {vs : List V} {ds : List D} {i : Int} {d : D} (h : Dts K cm H vs ds) (e : L2.atI ds i = some d) : ∃ v, L2.atI vs i = some v ∧ Dt K cm H v d := by
  unfold L2.atI at e ⊢
  rw [h.length]
  cases q : ixN ds.length i with
  | none => rw [q] at e; cases e
  | some j =>
    rw [q] at e
    exact h.getD e
theorem de_ix (ha : DE X cm W a fa) (hb : DE X cm W b fb) (hs : PlainIx b := by exact fun _ _ => rfl) : DE X cm W (.Subscript a b pos) (op2 ixD fa fb) := by
  refine PE.impI (pe_ix ix_seq ha hb hs) fun σ H Q l h => ?_
  obtain ⟨e, HF, H0, rl, p⟩ := h
  refine ⟨e, HF, H0, rl, p.bnd.imp fun x e1 H1 H' s1 r1 p1 v dv => ?_⟩
  refine ⟨e1, HF, H1, r1, p1.bnd.imp fun y e2 H2 H'' s2 r2 p2 u du => ?_⟩
  obtain ⟨d, hf, q⟩ := p2.opt r2
  have dv2 := dv.mono s2
  unfold ixD at hf
  split at hf
  · cases dv2 with
    | lst h1 d1 =>
    cases du
    obtain ⟨w, hw, dw⟩ := d1.atI hf
    exact .inl ⟨_, _, _, w, rfl, rfl, SqL.of (r2.fro _ _ h1), hw, q H2 H'' (Same.refl _) r2 w dw⟩
  · cases dv2 with
    | tup h1 d1 =>
    cases du
    obtain ⟨w, hw, dw⟩ := d1.atI hf
    exact .inr (.inl ⟨_, _, _, w, rfl, rfl, seqT r2.fro h1, hw, q H2 H'' (Same.refl _) r2 w dw⟩)
  · split at hf
    · rename_i hl
      cases dv2
      cases du
      obtain ⟨c, hc, rfl⟩ := Option.map_eq_some_iff.mp hf
      exact .inr (.inr ⟨_, _, c, rfl, rfl, hl, hc, q H2 H'' (Same.refl _) r2 _ (.str _)⟩)
    · cases hf
  · cases hf
def tDO (K : PySem.W.Frag) (cm : CM) (W : WX) (f : M (Option Int)) : TO := fun σ H Q => ∃ e HF H0, Rl K cm HF H0 H σ e ∧ Post K cm W HF σ H0 (f e) (fun o _ _ H' => Q o H')
abbrev DO (X : Cx) (cm : CM) (W : WX) (e : Option Expr) (f : M (Option Int)) : Prop := PO X e (tDO X.K cm W f)
theorem PO.imp {t t' : TO} {e : Option Expr} (h : PO X e t) (hi : ∀ σ H Q, t' σ H Q → t σ H Q) : PO X e t' := ⟨fun pins s σ H Q I q => h.run pins s σ H Q I (hi σ H Q q)⟩
theorem do_none : DO X cm W none partN := PO.imp po_none fun σ H Q h => by
  obtain ⟨e, HF, H0, rl, p⟩ := h
  exact p.ret rl
theorem do_some (h : DE X cm W a fa) : DO X cm W (some a) (partD fa) := PO.imp (po_some h) fun σ H Q q => by
  obtain ⟨e, HF, H0, rl, p⟩ := q
  refine ⟨e, HF, H0, rl, p.bnd.imp fun x e1 H1 H' s1 r1 p1 v dv => ?_⟩
  obtain ⟨o, ho, q⟩ := p1.opt r1
  cases x with
  | int i =>
    cases ho
    cases dv
    exact ⟨i, rfl, q H1 H' (Same.refl _) r1⟩
  | _ => cases ho
theorem Dts.cut {K : PySem.W.Frag} {H : Hp} {vs : List V} {ds : List D} (h : Dts K cm H vs ds) (lo hi : Option Int) : Dts K cm H (cutV vs lo hi) (cutL ds lo hi) := by
  unfold cutV cutL
  rw [h.length]
  exact (h.drop _).take _
theorem cutL_whole {α : Type} {xs : List α} {lo hi : Option Int} (h : HT.sIx xs.length 0 lo = 0 ∧ HT.sIx xs.length xs.length hi = xs.length) : cutL xs lo hi = xs := by
  unfold cutL
  rw [h.1, h.2]
  simp
theorem de_slice (he : DE X cm W a fa) (hl : DO X cm W lo ml) (hh : DO X cm W hi mh) : DE X cm W (.Subscript a (.Slice lo hi none p2) pos) (slice3 fa ml mh) := by
  refine PE.impI (pe_slice (SlR.or sl_list (SlR.or sl_tupA sl_str)) he hl hh) fun σ H Q l h => ?_
  obtain ⟨e, HF, H0, rl, p⟩ := h
  refine ⟨e, HF, H0, rl, p.bnd.imp fun x e1 H1 H' s1 r1 p1 v dv => ?_⟩
  refine ⟨e1, HF, H1, r1, p1.bnd.imp fun lo' e2 H2 H'' s2 r2 p2 => ?_⟩
  refine ⟨e2, HF, H2, r2, p2.bnd.imp fun hi' e3 H3 H3' s3 r3 p3 => ?_⟩
  obtain ⟨d, hf, q⟩ := p3.opt r3
  have dv3 := (dv.mono s2).mono s3
  unfold sliceD at hf
  split at hf
  · cases hf
    cases dv3 with
    | lst h1 d1 =>
    refine .inl ⟨_, _, rfl, SqL.of (r3.fro _ _ h1), fun a ha => ?_⟩
    obtain ⟨r4, s4⟩ := r3.laid ha _
    exact q _ _ s4 r4 _ (.lst upd_same ((d1.cut _ _).mono s4))
  · cases hf
    cases dv3 with
    | tup h1 d1 =>
    refine .inr (.inl ⟨_, _, rfl, seqT r3.fro h1, fun hw => ?_, fun hw a ha => ?_⟩)
    · rw [d1.length] at hw
      rw [cutL_whole hw] at q
      exact q H3 H3' (Same.refl _) r3 _ (.tup h1 d1)
    · obtain ⟨r4, s4⟩ := r3.laid ha _
      exact q _ _ s4 r4 _ (.tup (SqT.of upd_same) ((d1.cut _ _).mono s4))
  · split at hf
    · rename_i hl
      cases hf
      cases dv3
      exact .inr (.inr ⟨_, rfl, hl, q H3 H3' (Same.refl _) r3 _ (.str _)⟩)
    · cases hf
  · cases hf
end
end DL
set_option maxRecDepth 100000
/-! # DL4: statements, loops, comprehensions, lists of one's own. -/
namespace DL
open PySem L2

inductive Fl where
  | nx | bk | ct | rt (d : D)
def PostS (K : PySem.W.Frag) (cm : CM) (W : WX) (HF : Hp) (H0 : Hp) (r : R Fl) (Dn : Ends) : Prop :=
  match r with
  | .ok fl e' => ∀ σ' H0' H', Same H0 H0' → Rl K cm HF H0' H' σ' e' → match fl with
    | .nx => Dn.nx σ' H'
    | .bk => Dn.bk σ' H'
    | .ct => Dn.ct σ' H'
    | .rt d => ∀ v, Dt K cm H0' v d → Dn.rt v H'
  | .ex c fs e' => ∀ σ' H0' H' d fv, Same H0 H0' → Rl K cm HF H0' H' σ' e' → H' d = some (.xd fv) → Dfs K cm H0' fv fs → W (.ref (cm c)) (some d) σ' H'
  | .no => False
def tDS (K : PySem.W.Frag) (cm : CM) (W : WX) (f : M Fl) : TS := fun Dn σ H => ∃ e HF H0, Rl K cm HF H0 H σ e ∧ PostS K cm W HF H0 (f e) Dn
abbrev DS (X : Cx) (cm : CM) (W : WX) (st : Stmt) (f : M Fl) : Prop := PS X st (tDS X.K cm W f)
abbrev DSs (X : Cx) (cm : CM) (W : WX) (st : List Stmt) (f : M Fl) : Prop := PSs X st (tDS X.K cm W f)

section
variable {K : PySem.W.Frag} {cm : CM} {W : WX} {HF : Hp} {σ : St} {H0 H0' H : Hp} {α : Type} {Dn : Ends}
theorem PostS.mono (s : Same H0 H0') {r : R Fl} (h : PostS K cm W HF H0 r Dn) : PostS K cm W HF H0' r Dn := by
  cases r with
  | ok a e => exact fun σ' H1 H' s1 r1 => h σ' H1 H' (s.trans s1) r1
  | ex c fs e => exact fun σ' H1 H' d fv s1 r1 => h σ' H1 H' d fv (s.trans s1) r1
  | no => exact h
/-- an expression ahead -/
theorem PostS.bnd {m : M α} {k : α → M Fl} {e : En} (h : PostS K cm W HF H0 (M.bnd m k e) Dn) : Post K cm W HF σ H0 (m e) (fun a e' H1 H' => PostS K cm W HF H1 (k a e') Dn) := by
  unfold M.bnd at h
  cases q : m e with
  | ok a e' =>
    rw [q] at h
    exact fun H1 H' s1 r1 => PostS.mono s1 h
  | ex c fs e' =>
    rw [q] at h
    exact fun H1 H' d fv s1 r1 => h σ H1 H' d fv s1 r1
  | no =>
    rw [q] at h
    exact h
/-- a statement ahead -/
def seqM (m n : M Fl) : M Fl := fun e => match m e with
  | .ok .nx e' => n e'
  | r => r
theorem PostS.seq {m n : M Fl} {e : En} (h : PostS K cm W HF H0 (seqM m n e) Dn) : PostS K cm W HF H0 (m e) { Dn with nx := fun σ' H' => ∃ e' HF H0', Rl K cm HF H0' H' σ' e' ∧ PostS K cm W HF H0' (n e') Dn } := by
  unfold seqM at h
  cases q : m e with
  | ok a e' =>
    rw [q] at h
    cases a with
    | nx => exact fun σ' H1 H' s1 r1 => ⟨e', HF, H1, r1, PostS.mono s1 h⟩
    | bk => exact h
    | ct => exact h
    | rt d => exact h
  | ex c fs e' =>
    rw [q] at h
    exact h
  | no =>
    rw [q] at h
    exact h
end

section
variable {X : Cx} {cm : CM} {W : WX} {a b c : Expr} {es : List Expr} {fa fb : M D} {ma mb : M Bool} {pos : Pos} {st : Stmt} {sts rest orelse : List Stmt} {m n : M Fl}
def nxM : M Fl := M.ret .nx
theorem dss_nil : DSs X cm W [] nxM := PSs.impI pss_nil fun D σ H l h => by
  obtain ⟨e, HF, H0, rl, p⟩ := h
  exact p σ H0 H (Same.refl _) rl
theorem dss_cons (h1 : DS X cm W st m) (h2 : DSs X cm W rest n) : DSs X cm W (st :: rest) (seqM m n) := PSs.impI (pss_cons h1 h2) fun D σ H l h => by
  obtain ⟨e, HF, H0, rl, p⟩ := h
  exact ⟨e, HF, H0, rl, p.seq⟩
theorem dss_one (h1 : DS X cm W st m) : DSs X cm W [st] m := pss_one h1
theorem ds_pass : DS X cm W (.Pass pos) nxM := PS.impI ps_pass fun D σ H l h => by
  obtain ⟨e, HF, H0, rl, p⟩ := h
  exact p σ H0 H (Same.refl _) rl
theorem ds_break : DS X cm W (.Break pos) (M.ret .bk) := PS.impI ps_break fun D σ H l h => by
  obtain ⟨e, HF, H0, rl, p⟩ := h
  exact p σ H0 H (Same.refl _) rl
theorem ds_continue : DS X cm W (.Continue pos) (M.ret .ct) := PS.impI ps_continue fun D σ H l h => by
  obtain ⟨e, HF, H0, rl, p⟩ := h
  exact p σ H0 H (Same.refl _) rl
def retM (m : M D) : M Fl := m.bnd fun d => M.ret (.rt d)
theorem ds_ret (h : DE X cm W a fa) : DS X cm W (.Return (some a) pos) (retM fa) := PS.impI (ps_ret h) fun D σ H l h => by
  obtain ⟨e, HF, H0, rl, p⟩ := h
  exact ⟨e, HF, H0, rl, p.bnd.imp fun d e1 H1 H' s1 r1 p1 v dv => p1 σ H1 H' (Same.refl _) r1 v dv⟩
theorem ds_retN : DS X cm W (.Return none pos) (M.ret (.rt .non)) := PS.impI ps_retN fun D σ H l h => by
  obtain ⟨e, HF, H0, rl, p⟩ := h
  exact p σ H0 H (Same.refl _) rl _ .non
def dropM (m : M D) : M Fl := m.bnd fun _ => M.ret .nx
theorem ds_expr (h : DE X cm W a fa) (hs : swapsWith a none pos.line X.env = pure false := by rfl) : DS X cm W (.Expr a pos) (dropM fa) := PS.impI (ps_expr h hs) fun D σ H l h => by
  obtain ⟨e, HF, H0, rl, p⟩ := h
  refine ⟨e, HF, H0, rl, p.bnd.imp fun d e1 H1 H' s1 r1 p1 v dv => p1 σ H1 H' (Same.refl _) r1⟩
theorem ds_doc {x j pos' pos''} : DS X cm W (.Expr (.Constant (.str x) j pos') pos'') nxM := PS.impI ps_doc fun D σ H l h => by
  obtain ⟨e, HF, H0, rl, p⟩ := h
  exact p σ H0 H (Same.refl _) rl
def ifM (t : M Bool) (m n : M Fl) : M Fl := t.bnd fun b => if b = true then m else n
theorem PostS.isT {K : PySem.W.Frag} {HF H0 : Hp} {Dn : Ends} {e : En} {m n : M Fl} (h : PostS K cm W HF H0 ((if true = true then m else n) e) Dn) : PostS K cm W HF H0 (m e) Dn := by rw [if_pos rfl] at h; exact h
theorem PostS.isF {K : PySem.W.Frag} {HF H0 : Hp} {Dn : Ends} {e : En} {m n : M Fl} (h : PostS K cm W HF H0 ((if false = true then m else n) e) Dn) : PostS K cm W HF H0 (n e) Dn := by rw [if_neg Bool.false_ne_true] at h; exact h
theorem ds_if (hc : DT X cm W a ma) (h1 : DSs X cm W sts m) (h2 : DSs X cm W rest n) : DS X cm W (.If a sts rest pos) (ifM ma m n) := PS.impI (ps_if hc h1 h2) fun D σ H l h => by
  obtain ⟨e, HF, H0, rl, p⟩ := h
  refine ⟨e, HF, H0, rl, p.bnd.imp fun k e1 H1 H' s1 r1 p1 => ?_⟩
  cases k with
  | true =>
    rw [if_pos rfl]
    exact ⟨e1, HF, H1, r1, p1.isT⟩
  | false =>
    rw [if_neg Bool.false_ne_true]
    exact ⟨e1, HF, H1, r1, p1.isF⟩

/-! ### targets -/
/-- a target's work on the slots: pure; ss: the slots that it may change -/
def tDG (K : PySem.W.Frag) (cm : CM) (ss : List Nat) (t : D → En → Option En) : TG := fun v σ H Q => ∃ e HF H0 d e', Rl K cm HF H0 H σ e ∧ Dt K cm H0 v d ∧ t d e = some e' ∧ ∀ σ', Rl K cm HF H0 H σ' e' → σ'.length = σ.length → (∀ j, j ∉ ss → σ'[j]? = σ[j]?) → Q σ' H
def tDGs (K : PySem.W.Frag) (cm : CM) (ss : List Nat) (t : List D → En → Option En) : TGs := fun vs σ H Q => ∃ e HF H0 ds e', Rl K cm HF H0 H σ e ∧ Dts K cm H0 vs ds ∧ t ds e = some e' ∧ ∀ σ', Rl K cm HF H0 H σ' e' → σ'.length = σ.length → (∀ j, j ∉ ss → σ'[j]? = σ[j]?) → Q σ' H
abbrev DG (X : Cx) (cm : CM) (ss : List Nat) (tg : Expr) (t : D → En → Option En) : Prop := PG X tg (tDG X.K cm ss t)
abbrev DGs (X : Cx) (cm : CM) (ss : List Nat) (tgs : List Expr) (t : List D → En → Option En) : Prop := PGs X tgs (tDGs X.K cm ss t)
theorem PG.imp {tg : Expr} {t t' : TG} (h : PG X tg t) (hi : ∀ v σ H Q, t' v σ H Q → t v σ H Q) : PG X tg t' := ⟨fun pins s σ H v u Q I r q => h.run pins s σ H v u Q I r (hi v σ H Q q)⟩
theorem PGs.imp {tg : List Expr} {t t' : TGs} (h : PGs X tg t) (hi : ∀ v σ H Q, t' v σ H Q → t v σ H Q) : PGs X tg t' := ⟨fun pins s σ H v u Q I r q => h.run pins s σ H v u Q I r (hi v σ H Q q)⟩
def gSet (i : Nat) : D → En → Option En := fun d e => some (e.set i (.dat d))
theorem dg_name {i : Nat} {x : Str} (hN : X.N.Nodup) (hi : X.N[i]? = some x) (hx : Loc X.env.scope x) (hf : X.fn x = true ∨ X.env.scope.names.lookup x = some .local := by first | exact .inl rfl | exact .inr rfl | assumption) :
    DG X cm [i] (.Name x pos) (gSet i) := PG.imp (pg_name hN hi hx hf) fun v σ H Q h => by
  obtain ⟨e, HF, H0, d, e', rl, dv, he, q⟩ := h
  cases he
  refine q _ (rl.put dv) (by simp) fun j hj => ?_
  rw [List.getElem?_set_ne]
  exact fun z => hj (by rw [z]; exact List.mem_singleton.mpr rfl)
def gsNil : List D → En → Option En := fun ds e => match ds with
  | [] => some e
  | _ :: _ => none
def gsCons (t : D → En → Option En) (u : List D → En → Option En) : List D → En → Option En := fun ds e => match ds with
  | [] => none
  | d :: r => match t d e with
    | some e' => u r e'
    | none => none
theorem dgs_nil : DGs X cm [] [] gsNil := PGs.imp pgs_nil fun v σ H Q h => by
  obtain ⟨e, HF, H0, d, e', rl, dv, he, q⟩ := h
  cases d with
  | nil => cases he; cases dv; exact ⟨rfl, q _ rl rfl fun _ _ => rfl⟩
  | cons _ _ => cases he
theorem dgs_cons {tg : Expr} {tgs : List Expr} {s1 s2 : List Nat} {t : D → En → Option En} {u : List D → En → Option En} (h1 : DG X cm s1 tg t) (h2 : DGs X cm s2 tgs u)
    (hs : (assignEach (tg :: tgs) X.env).map (·.2) = assign tg X.env :: (assignEach tgs X.env).map (·.2) := by rfl) : DGs X cm (s1 ++ s2) (tg :: tgs) (gsCons t u) := PGs.imp (pgs_cons h1 h2 hs) fun v σ H Q h => by
  obtain ⟨e, HF, H0, d, e', rl, dv, he, q⟩ := h
  cases d with
  | nil => cases he
  | cons d r =>
    cases dv with
    | cons dv dvs =>
    unfold gsCons at he
    dsimp only at he
    split at he
    · rename_i e1 h1
      exact ⟨_, _, rfl, e, HF, H0, d, e1, rl, dv, h1, fun σ' rl' l1 k => ⟨e1, HF, H0, r, e', rl', dvs, he, fun σ2 rl2 l2 k2 => q σ2 rl2 (l2.trans l1) fun j hj => (k2 j fun z => hj (List.mem_append_right _ z)).trans (k j fun z => hj (List.mem_append_left _ z))⟩⟩
    · cases he
def gTupD (n : Nat) (u : List D → En → Option En) : D → En → Option En := fun d e => match d with
  | .tup ds => if ds.length = n then u ds e else none
  | _ => none
theorem dg_tup {tgs : List Expr} {k n : Nat} {ss : List Nat} {u : List D → En → Option En} (hc : X.calm = true) (h : DGs X cm ss tgs u) (hn : (assignEach tgs X.env).length = n := by rfl) (hst : (assignEach tgs X.env).findIdx? (·.1) = none := by rfl) :
    DG X cm ss (.Tuple tgs k pos) (gTupD n u) := PG.imp (pg_tup hc h hn hst) fun v σ H Q h => by
  obtain ⟨e, HF, H0, d, e', rl, dv, he, q⟩ := h
  unfold gTupD at he
  split at he
  · split at he
    · rename_i ds hl
      cases dv with
      | tup h1 d1 => exact ⟨_, _, rfl, seqT rl.fro h1, by rw [d1.length]; exact hl, e, HF, H0, ds, e', rl, d1, he, q⟩
    · cases he
  · cases he
def asgM (m : M D) (t : D → En → Option En) : M Fl := m.bnd fun d => fun e => match t d e with
  | some e' => .ok .nx e'
  | none => .no
theorem asg_post {K : PySem.W.Frag} {HF H1 H' : Hp} {σ : St} {e1 : En} {Dn : Ends} {t : D → En → Option En} {ss : List Nat} {d : D} {v : V} (p : PostS K cm W HF H1 (match t d e1 with | some e' => R.ok Fl.nx e' | none => R.no) Dn) (r : Rl K cm HF H1 H' σ e1) (dv : Dt K cm H1 v d) :
    tDG K cm ss t v σ H' Dn.nx := by
  cases q : t d e1 with
  | none => rw [q] at p; exact p.elim
  | some e' =>
    rw [q] at p
    exact ⟨e1, HF, H1, d, e', r, dv, q, fun σ' r' _ _ => p σ' H1 H' (Same.refl _) r'⟩
theorem ds_asg {tg : Expr} {ss : List Nat} {t : D → En → Option En} (he : DE X cm W a fa) (hg : DG X cm ss tg t) (hs : swapsWithSole [tg] a pos.line X.env = pure false := by rfl) (hw : swappedStores [tg] a X.env = pure none := by rfl) (h1 : (assignEach [tg] X.env).map (·.2) = [assign tg X.env] := by rfl) :
    DS X cm W (.Assign [tg] a pos) (asgM fa t) := PS.impI (ps_asg he hg hs hw h1) fun D σ H l h => by
  obtain ⟨e, HF, H0, rl, p⟩ := h
  refine ⟨e, HF, H0, rl, p.bnd.imp fun d e1 H1 H' s1 r1 p1 v dv => ?_⟩
  exact asg_post p1 r1 dv
def setM (i : Nat) (m : M D) : M Fl := m.bnd fun d => fun e => .ok .nx (e.set i (.dat d))
theorem ds_set {i : Nat} {x : Str} {pos' : Pos} (hN : X.N.Nodup) (hi : X.N[i]? = some x) (hx : Loc X.env.scope x) (he : DE X cm W a fa) (hs : swapsWith a (some (.Name x pos')) pos.line X.env = pure false := by rfl)
    (hf : X.fn x = true ∨ X.env.scope.names.lookup x = some .local := by first | exact .inl rfl | exact .inr rfl | assumption) : DS X cm W (.Assign [.Name x pos'] a pos) (setM i fa) := PS.impI (ps_set hN hi hx he hs hf) fun D σ H l h => by
  obtain ⟨e, HF, H0, rl, p⟩ := h
  refine ⟨e, HF, H0, rl, p.bnd.imp fun d e1 H1 H' s1 r1 p1 v dv => ?_⟩
  exact p1 _ H1 H' (Same.refl _) (r1.put dv)
/-- a, b = x, y with plain local names -/
def parM (i j : Nat) (m : M (List D)) : M Fl := m.bnd fun ds => fun e => match ds with
  | [x, y] => .ok .nx ((e.set i (.dat x)).set j (.dat y))
  | _ => .no
theorem ds_par {i j : Nat} {x y : Str} {px py pt : Pos} {kt k2 pt2} {fs : M (List D)} (hc : X.calm = true) (hN : X.N.Nodup) (hi : X.N[i]? = some x) (hj : X.N[j]? = some y) (hij : i ≠ j)
    (hx : X.env.scope.names.lookup x = some .local) (hy : X.env.scope.names.lookup y = some .local) (ha : DA X cm W [a, b] fs)
    (hw : swappedStores [.Tuple [.Name x px, .Name y py] kt pt] (.Tuple [a, b] k2 pt2) X.env = pure (some [x, y]))
    (hs : swapsWithSole [.Tuple [.Name x px, .Name y py] kt pt] (.Tuple [a, b] k2 pt2) pos.line X.env = pure false := by rfl) :
    DS X cm W (.Assign [.Tuple [.Name x px, .Name y py] kt pt] (.Tuple [a, b] k2 pt2) pos) (parM i j fs) := PS.impI (ps_par hc hN hi hj hij hx hy ha hw hs) fun D σ H l h => by
  obtain ⟨e, HF, H0, rl, p⟩ := h
  refine ⟨e, HF, H0, rl, p.bnd.imp fun ds e1 H1 H' s1 r1 p1 vs dvs => ?_⟩
  cases dvs with
  | nil => exact p1.elim
  | cons d1 r =>
  cases r with
  | nil => exact p1.elim
  | cons d2 r =>
  cases r with
  | nil => exact ⟨_, _, rfl, p1 _ H1 H' (Same.refl _) ((r1.put d1).put d2)⟩
  | cons _ _ => exact p1.elim
/-- x += e on ints and texts and tuples -/
def augM (i : Nat) (f : D → D → Option D) (m : M D) : M Fl := fun e => match e[i]? with
  | some (.dat x) => (m.bnd fun y => (M.opt (f x y)).bnd fun z => fun e' => .ok .nx (e'.set i (.dat z))) e
  | _ => .no
theorem ds_aug {i : Nat} {x : Str} {op : Operator} {pos' : Pos} {f : D → D → Option D} (hN : X.N.Nodup) (hi : X.N[i]? = some x) (hx : Loc X.env.scope x) (ho : OpX X cm (inplaceOp op) f) (he : DE X cm W a fa)
    (hf : X.fn x = true ∨ X.env.scope.names.lookup x = some .local := by first | exact .inl rfl | exact .inr rfl | assumption) : DS X cm W (.AugAssign (.Name x pos') op a pos) (augM i f fa) := by
  obtain ⟨r, h1, h2⟩ := ho.ex
  refine PS.impI (ps_aug (ti := fun x y H Q => Lens X.K H → r x y H Q) hN hi hx he (fun pins s σ H x y v u Q I rx ry q => h1 pins s σ H x y v u Q I rx ry (q (Inv.lens I))) hf) fun D σ H l h => ?_
  obtain ⟨e, HF, H0, rl, p⟩ := h
  unfold augM at p
  split at p
  · rename_i x q
    obtain ⟨v, hv, dv⟩ := rl.dat q
    refine ⟨v, hv, e, HF, H0, rl, p.bnd.imp fun y e1 H1 H' s1 r1 p1 u du l2 => ?_⟩
    have p2 := (PostS.bnd (σ := σ) p1).opt r1
    obtain ⟨z, hz, q2⟩ := p2
    refine h2 HF H1 H' σ e1 v u x y z _ l2 r1 (dv.mono s1) du hz fun H2 H'' w s2 r2 dw => ?_
    exact q2 H1 H' (Same.refl _) r1 _ H2 H'' s2 (r2.put dw)
  · exact p.elim
theorem ox_iadd : OpX X cm (inplaceOp .Add) addI := opI0_mk iop_add fun a b c z => by
  unfold addI at z
  split at z
  · cases z; exact ⟨_, _, rfl, rfl, rfl⟩
  · cases z
theorem ox_isub : OpX X cm (inplaceOp .Sub) subD := opI0_mk iop_sub fun a b c z => by
  unfold subD at z
  split at z
  · cases z; exact ⟨_, _, rfl, rfl, rfl⟩
  · cases z

/-! ### what is walked -/
structure ItD (K : PySem.W.Frag) (cm : CM) (J : It) (ds : List D) (H1 : Hp) : Prop where
  go : ∀ (i : Nat) (HF H0 H : Hp) (σ : St) (e : En), i < ds.length → Same H1 H0 → Rl K cm HF H0 H σ e → J.go i H
  stop : ∀ (HF H0 H : Hp) (σ : St) (e : En), Same H1 H0 → Rl K cm HF H0 H σ e → J.stop ds.length H
  yld : ∀ (i : Nat) (d : D) (HF H0 H : Hp) (σ : St) (e : En) (x : V) (H' : Hp), ds[i]? = some d → Same H1 H0 → Rl K cm HF H0 H σ e → J.yld i H x H' → (∀ b o, H b = some o → H' b = some o) ∧ ∃ H0', Same H0 H0' ∧ Rl K cm HF H0' H' σ e ∧ Dt K cm H0' x d
def tDI (K : PySem.W.Frag) (cm : CM) (W : WX) (f : M (List D)) : TI := fun σ H R => ∃ e HF H0, Rl K cm HF H0 H σ e ∧ Post K cm W HF σ H0 (f e) (fun ds _ H1 H' => ∀ J : It, ItD K cm J ds H1 → R J H')
abbrev DI (X : Cx) (cm : CM) (W : WX) (tg iter : Expr) (f : M (List D)) : Prop := PI X tg iter (tDI X.K cm W f)
theorem PI.imp {tg iter : Expr} {t t' : TI} (h : PI X tg iter t) (hi : ∀ σ H Q, t' σ H Q → t σ H Q) : PI X tg iter t' := ⟨fun pins s σ H Q I q => h.run pins s σ H Q I (hi σ H Q q)⟩
theorem PI.or {tg iter : Expr} {t t' : TI} (h : PI X tg iter t) (h' : PI X tg iter t') : PI X tg iter (fun σ H Q => t σ H Q ∨ t' σ H Q) :=
  ⟨fun pins s σ H Q I q => q.elim (h.run pins s σ H Q I) (h'.run pins s σ H Q I)⟩
/-- the injectivity of what is read -/
structure Injs (K : PySem.W.Frag) (H : Hp) : Prop where
  l : ∀ a xs ys, SqL K H a xs → SqL K H a ys → xs = ys
  t : ∀ a xs ys, SqT K H a xs → SqT K H a ys → xs = ys
theorem Inv.injs {X : Cx} {pins : List (Addr × Obj)} {σ : St} {H : Hp} {s : Shared} (I : Inv X pins σ H s) : Injs X.K H :=
  ⟨fun _ _ _ h h' => I.list_inj h h', fun _ _ _ h h' => I.tuple_inj h h'⟩

theorem itD_list {K : PySem.W.Frag} {H1 : Hp} {a : Addr} {vs : List V} {ds : List D} (h : H1 a = some (.lst vs)) (d1 : Dts K cm H1 vs ds) : ItD K cm (Itl K a) ds H1 where
  go := fun i HF H0 H σ e hi s r => by
    have ha := r.fro _ _ (s _ _ h)
    obtain ⟨v, hv⟩ : ∃ v, vs[i]? = some v := ⟨_, List.getElem?_eq_getElem (by rw [d1.length]; exact hi)⟩
    exact ⟨vs, v, SqL.of ha, hv⟩
  stop := fun HF H0 H σ e s r => ⟨vs, SqL.of (r.fro _ _ (s _ _ h)), by rw [d1.length]; exact Nat.le_refl _⟩
  yld := fun i d HF H0 H σ e x H' hd s r y => by
    obtain ⟨rfl, hy⟩ := y
    obtain ⟨v, hv, dv⟩ := d1.getD hd
    have q := hy vs (SqL.of (r.fro _ _ (s _ _ h)))
    rw [hv] at q
    cases q
    exact ⟨fun _ _ z => z, H0, Same.refl _, r, dv.mono s⟩
theorem itD_tup {K : PySem.W.Frag} {H1 : Hp} {a : Addr} {vs : List V} {ds : List D} (h : SqT K H1 a vs) (d1 : Dts K cm H1 vs ds) : ItD K cm (Itt K a) ds H1 where
  go := fun i HF H0 H σ e hi s r => by
    have ha := seqT r.fro (seqT s h)
    obtain ⟨v, hv⟩ : ∃ v, vs[i]? = some v := ⟨_, List.getElem?_eq_getElem (by rw [d1.length]; exact hi)⟩
    exact ⟨vs, v, ha, hv⟩
  stop := fun HF H0 H σ e s r => ⟨vs, seqT r.fro (seqT s h), by rw [d1.length]; exact Nat.le_refl _⟩
  yld := fun i d HF H0 H σ e x H' hd s r y => by
    obtain ⟨rfl, hy⟩ := y
    obtain ⟨v, hv, dv⟩ := d1.getD hd
    have q := hy vs (seqT r.fro (seqT s h))
    rw [hv] at q
    cases q
    exact ⟨fun _ _ z => z, H0, Same.refl _, r, dv.mono s⟩
def rangeL (lo : Int) (n : Nat) : List D := (List.range n).map fun i : Nat => D.int (lo + (i : Int))
theorem rangeL_length (lo : Int) (n : Nat) : (rangeL lo n).length = n := by simp [rangeL]
theorem itD_range {K : PySem.W.Frag} {H1 : Hp} {lo : Int} {n : Nat} : ItD K cm (Itr lo n) (rangeL lo n) H1 where
  go := fun i HF H0 H σ e hi s r => by rw [rangeL_length] at hi; exact hi
  stop := fun HF H0 H σ e s r => by rw [rangeL_length]; exact Nat.le_refl _
  yld := fun i d HF H0 H σ e x H' hd s r y => by
    obtain ⟨rfl, rfl⟩ := y
    have hi : i < n := by
      have := (List.getElem?_eq_some_iff.mp hd).1
      rwa [rangeL_length] at this
    have q : (rangeL lo n)[i]? = some (.int (lo + i)) := by simp [rangeL, List.getElem?_range hi]
    rw [q] at hd
    cases hd
    exact ⟨fun _ _ z => z, H0, Same.refl _, r, .int _⟩
def seqOf : D → Option (List D)
  | .lst xs => some xs
  | .tup xs => some xs
  | _ => none
def itSeq (m : M D) : M (List D) := m.bnd fun d => M.opt (seqOf d)
theorem di_seq {tg : Expr} (he : DE X cm W a fa) : DI X cm W tg a (itSeq fa) := by
  refine ⟨fun pins s σ H R I h => ?_⟩
  obtain ⟨e, HF, H0, rl, p⟩ := h
  -- one run of the expression, then by what it is
  have hl : PE X a (fun σ H Q => tDE X.K cm W fa σ H Q) := he
  refine thn (he.run pins s σ H (fun v H' => ∃ d e1 H1, Rl X.K cm HF H1 H' σ e1 ∧ Dt X.K cm H1 v d ∧ Post X.K cm W HF σ H1 (M.opt (seqOf d) e1) (fun ds _ H2 H'' => ∀ J : It, ItD X.K cm J ds H2 → R J H'')) I
    ⟨e, HF, H0, rl, p.bnd.imp fun d e1 H1 H' s1 r1 p1 v dv => ⟨d, e1, H1, r1, dv, p1⟩⟩) fun v s1 hv => ?_
  obtain ⟨x, H', I1, rx, d, e1, H1, r1, dv, p1⟩ := hv
  obtain ⟨ds, hd, q⟩ := p1.opt r1
  unfold seqOf at hd
  split at hd
  · cases hd
    cases dv with
    | lst h1 d1 =>
    rename_i p' vs
    cases rx
    obtain ⟨its, rv, pl, hz⟩ := I1.list (SqL.of (r1.fro _ _ h1))
    refine wpAny_pyIter_list pl.isList ?_
    refine ⟨s1.heap.objs.size, [s1.heap.objs.size], _, _, H', rfl, I1.kept (t' := s1.toks) fun b o e => Heap.get?_push_of_some _ e, turn_list p' _, ⟨_, Heap.get?_push_size _ rfl, rfl, rfl⟩, fun b hb => ?_, q H1 H' (Same.refl _) r1 _ (itD_list h1 d1)⟩
    have eb : b = s1.heap.objs.size := by simpa using hb
    subst eb
    exact I1.fpOk (Nat.le_refl _) (I1.hok.fresh (Nat.le_refl _))
  · cases hd
    cases dv with
    | tup h1 d1 =>
    rename_i p' vs
    cases rx
    obtain ⟨its, rv, pl, hz⟩ := I1.tuple (seqT r1.fro h1)
    refine wpAny_pyIter_tuple pl ?_
    refine ⟨s1.heap.objs.size, [s1.heap.objs.size], _, _, H', rfl, I1.kept (t' := s1.toks) fun b o e => Heap.get?_push_of_some _ e, turn_tuple p' _, ⟨_, Heap.get?_push_size _ rfl, rfl, rfl⟩, fun b hb => ?_, q H1 H' (Same.refl _) r1 _ (itD_tup h1 d1)⟩
    have eb : b = s1.heap.objs.size := by simpa using hb
    subst eb
    exact I1.fpOk (Nat.le_refl _) (I1.hok.fresh (Nat.le_refl _))
  · cases hd
def itRange1 (m : M (List D)) : M (List D) := m.bnd fun ds => M.opt (match ds with | [.int j] => if -(2 ^ 62) ≤ j ∧ j < 2 ^ 62 then some (rangeL 0 j.toNat) else none | _ => none)
def itRange2 (m : M (List D)) : M (List D) := m.bnd fun ds => M.opt (match ds with | [.int i, .int j] => if -(2 ^ 62) ≤ i ∧ i < 2 ^ 62 ∧ -(2 ^ 62) ≤ j ∧ j < 2 ^ 62 then some (rangeL i (j - i).toNat) else none | _ => none)
theorem Dts.int1 {K : PySem.W.Frag} {H : Hp} {vs : List V} {j : Int} (h : Dts K cm H vs [.int j]) : vs = [.int j] := by
  cases h with
  | cons h1 h2 =>
  cases h1
  cases h2
  rfl
theorem Dts.int2 {K : PySem.W.Frag} {H : Hp} {vs : List V} {i j : Int} (h : Dts K cm H vs [.int i, .int j]) : vs = [.int i, .int j] := by
  cases h with
  | cons h1 h2 =>
  cases h1
  rw [h2.int1]
theorem di_range1 {tg : Expr} {p : Pos} {fs : M (List D)} (hg : Gl X "range") (hm : X.mg "range" = none) (he : DA X cm W [a] fs) (hst : starEach [a] X.env = [(false, eval a X.env)] := by rfl) : DI X cm W tg (.Call (.Name "range" p) [a] [] pos) (itRange1 fs) := by
  refine PI.imp (pi_range1 hg hm he hst) fun σ H Q h => ?_
  obtain ⟨e, HF, H0, rl, p⟩ := h
  refine ⟨e, HF, H0, rl, p.bnd.imp fun d e1 H1 H' s1 r1 p1 v dv => ?_⟩
  obtain ⟨ds, hd, q⟩ := p1.opt r1
  split at hd
  · split at hd
    · rename_i hb
      cases hd
      exact ⟨_, dv.int1, hb.1, hb.2, q H1 H' (Same.refl _) r1 _ itD_range⟩
    · cases hd
  · cases hd
theorem di_range2 {tg : Expr} {p : Pos} {fs : M (List D)} (hg : Gl X "range") (hm : X.mg "range" = none) (he : DA X cm W [a, b] fs) (hst : starEach [a, b] X.env = [(false, eval a X.env), (false, eval b X.env)] := by rfl) (hpl : starEach [b] X.env = [(false, eval b X.env)] := by rfl) : DI X cm W tg (.Call (.Name "range" p) [a, b] [] pos) (itRange2 fs) := by
  refine PI.imp (pi_range2 hg hm he hst hpl) fun σ H Q h => ?_
  obtain ⟨e, HF, H0, rl, p⟩ := h
  refine ⟨e, HF, H0, rl, p.bnd.imp fun d e1 H1 H' s1 r1 p1 v dv => ?_⟩
  obtain ⟨ds, hd, q⟩ := p1.opt r1
  split at hd
  · split at hd
    · rename_i hb
      cases hd
      exact ⟨_, _, dv.int2, hb, q H1 H' (Same.refl _) r1 _ itD_range⟩
    · cases hd
  · cases hd

/-! ### for -/
def forL (t : D → En → Option En) (body : M Fl) : List D → M Fl
  | [] => nxM
  | d :: ds => fun e => match t d e with
    | none => .no
    | some e1 => match body e1 with
      | .ok .nx e2 => forL t body ds e2
      | .ok .ct e2 => forL t body ds e2
      | .ok .bk e2 => .ok .nx e2
      | r => r
def forM (it : M (List D)) (t : D → En → Option En) (body : M Fl) : M Fl := it.bnd fun ds => forL t body ds
theorem PostS.body {K : PySem.W.Frag} {HF H0 : Hp} {t : D → En → Option En} {body : M Fl} {ds : List D} {e1 : En} {Dn : Ends}
    (h : PostS K cm W HF H0 (match body e1 with
      | .ok .nx e2 => forL t body ds e2
      | .ok .ct e2 => forL t body ds e2
      | .ok .bk e2 => .ok .nx e2
      | r => r) Dn) (N : St → Hp → Prop) (hN : ∀ σ' H0' H' e', Same H0 H0' → Rl K cm HF H0' H' σ' e' → PostS K cm W HF H0' (forL t body ds e') Dn → N σ' H') : PostS K cm W HF H0 (body e1) { Dn with nx := N, ct := N, bk := Dn.nx } := by
  cases q : body e1 with
  | ok fl e2 =>
    rw [q] at h
    cases fl with
    | nx => exact fun σ' H0' H' s r => hN σ' H0' H' e2 s r (PostS.mono s h)
    | ct => exact fun σ' H0' H' s r => hN σ' H0' H' e2 s r (PostS.mono s h)
    | bk => exact h
    | rt d => exact h
  | ex c fs e2 =>
    rw [q] at h
    exact h
  | no =>
    rw [q] at h
    exact h
theorem ds_for {tg iter : Expr} {ss : List Nat} {t : D → En → Option En} {it : M (List D)} {body : List Stmt} (hp : PassesOwn (model X.prog X.w) X.A X.env X.xe) (hc : X.calm = true) (hi : DI X cm W tg iter it) (hg : DG X cm ss tg t) (hb : DSs X cm W body m)
    (hs : ∀ x, foldedSetIterable iter X.env x = pure x := by intro _; rfl) : DS X cm W (.For tg iter body [] pos) (forM it t m) := by
  refine PS.impI (ps_for hp hc hi hg hb hs) fun D σ H l h => ?_
  obtain ⟨e, HF, H0, rl, p⟩ := h
  refine ⟨e, HF, H0, rl, p.bnd.imp fun ds e1 H1 H' s1 r1 p1 J hJ => ?_⟩
  refine ⟨fun i k σ H => k = ds.length - i ∧ i ≤ ds.length ∧ ∃ e2 H2, Same H1 H2 ∧ Rl X.K cm HF H2 H σ e2 ∧ PostS X.K cm W HF H2 (forL t m (ds.drop i) e2) D, ⟨ds.length, by simp, Nat.zero_le _, e1, H1, Same.refl _, r1, by simpa using p1⟩, ?_⟩
  rintro i k σ2 H2 ⟨rfl, hi, e2, H02, s2, r2, p2⟩
  by_cases hlt : i < ds.length
  · refine .inr ⟨hJ.go i HF H02 H2 σ2 e2 hlt s2 r2, fun σ3 H3 => ∃ e3 H03, Same H1 H03 ∧ Rl X.K cm HF H03 H3 σ3 e3 ∧ PostS X.K cm W HF H03 (forL t m (ds.drop (i + 1)) e3) D, fun σ3 H3 hN => ⟨_, (by omega : ds.length - (i + 1) < ds.length - i), rfl, by omega, hN⟩, fun x H3 hy => ?_⟩
    have hd : ds[i]? = some ds[i] := List.getElem?_eq_getElem hlt
    obtain ⟨_, H03, s3, r3, dx⟩ := hJ.yld i _ HF H02 H2 σ2 e2 x H3 hd s2 r2 hy
    rw [List.drop_eq_getElem_cons hlt] at p2
    have p2 : PostS X.K cm W HF H02 (match t ds[i] e2 with
      | none => .no
      | some e1 => match m e1 with
        | .ok .nx e2 => forL t m (ds.drop (i + 1)) e2
        | .ok .ct e2 => forL t m (ds.drop (i + 1)) e2
        | .ok .bk e2 => .ok .nx e2
        | r => r) D := p2
    cases ht : t ds[i] e2 with
    | none => rw [ht] at p2; exact p2.elim
    | some e3 =>
      rw [ht] at p2
      refine ⟨e2, HF, H03, _, e3, r3, dx, ht, fun σ' r' _ _ => ⟨e3, HF, H03, r', ?_⟩⟩
      exact PostS.body (PostS.mono s3 p2) _ fun σ4 H04 H4 e4 s4 r4 p4 => ⟨e4, H04, (s2.trans s3).trans s4, r4, p4⟩
  · have e : i = ds.length := by omega
    subst e
    refine .inl ⟨hJ.stop HF H02 H2 σ2 e2 s2 r2, ?_⟩
    rw [List.drop_length] at p2
    exact p2 σ2 H02 H2 (Same.refl _) r2

/-! ### while -/
def whileN (c : M Bool) (body : M Fl) : Nat → M Fl
  | 0 => fun _ => .no
  | k + 1 => c.bnd fun b => if b = true then fun e => match body e with
      | .ok .nx e2 => whileN c body k e2
      | .ok .ct e2 => whileN c body k e2
      | .ok .bk e2 => .ok .nx e2
      | r => r
    else nxM
/-- bnd tells how many turns are enough -/
def whileM (bound : En → Nat) (c : M Bool) (body : M Fl) : M Fl := fun e => whileN c body (bound e) e
theorem ds_while {body : List Stmt} (bound : En → Nat) (hp : PassesOwn (model X.prog X.w) X.A X.env X.xe) (hc : DT X cm W a ma) (hb : DSs X cm W body m) : DS X cm W (.While a body [] pos) (whileM bound ma m) := by
  refine PS.impI (ps_while hp hc hb) fun D σ H l h => ?_
  obtain ⟨e, HF, H0, rl, p⟩ := h
  refine ⟨fun k σ H => ∃ e H0, Rl X.K cm HF H0 H σ e ∧ PostS X.K cm W HF H0 (whileN ma m k e) D, ⟨bound e, e, H0, rl, p⟩, ?_⟩
  rintro k σ2 H2 ⟨e2, H02, r2, p2⟩
  cases k with
  | zero => exact p2.elim
  | succ k =>
    refine ⟨e2, HF, H02, r2, (PostS.bnd p2).imp fun b e3 H3 H' s3 r3 p3 => ?_⟩
    cases b with
    | false =>
      rw [if_neg Bool.false_ne_true]
      exact p3.isF σ2 H3 H' (Same.refl _) r3
    | true =>
      rw [if_pos rfl]
      refine ⟨fun σ' H' => ∃ e H0, Rl X.K cm HF H0 H' σ' e ∧ PostS X.K cm W HF H0 (whileN ma m k e) D, fun σ' H' hN => ⟨k, Nat.lt_succ_self k, hN⟩, e3, HF, H3, r3, ?_⟩
      have p4 := p3.isT
      cases q : m e3 with
      | ok fl e4 =>
        rw [q] at p4
        cases fl with
        | nx => exact fun σ' H0' H' s r => ⟨e4, H0', r, PostS.mono s p4⟩
        | ct => exact fun σ' H0' H' s r => ⟨e4, H0', r, PostS.mono s p4⟩
        | bk => exact p4
        | rt d => exact p4
      | ex c fs e4 =>
        rw [q] at p4
        exact p4
      | no =>
        rw [q] at p4
        exact p4
end
end DL
set_option maxRecDepth 100000
/-! # DL5: fresh objects, comprehensions, methods of lists of one's own. -/
namespace DL
open PySem L2

/-- a fresh object of one's own -/
def FreshAt (K : PySem.W.Frag) (cm : CM) (HF H1 H' : Hp) (σ : St) (e : En) (o : Ob) (p : Addr) : Prop :=
  H1 p = none ∧ HF p = none ∧ (∀ j t u, e[j]? = some (.own t u) → vat σ j ≠ some (.ref p)) ∧ ObOk K cm H1 H' p o
def tDF (K : PySem.W.Frag) (cm : CM) (W : WX) (f : M Ob) : TE := fun σ H Q => ∃ e HF H0, Rl K cm HF H0 H σ e ∧ Post K cm W HF σ H0 (f e) (fun o e' H1 H' => ∀ p, FreshAt K cm HF H1 H' σ e' o p → Q (.ref p) H')
abbrev DF (X : Cx) (cm : CM) (W : WX) (e : Expr) (f : M Ob) : Prop := PE X e (tDF X.K cm W f)

section
variable {K : PySem.W.Frag} {cm : CM} {W : WX} {HF H0 H H1 H' : Hp} {σ : St} {e : En}
theorem Rl.own_ne (r : Rl K cm HF H0 H σ e) {p : Addr} (hp : H p = none) : ∀ j t u, e[j]? = some (.own t u) → vat σ j ≠ some (.ref p) := fun j t u h z => by
  obtain ⟨l, hl, _, _, _, ob⟩ := r.own h
  obtain ⟨w, hw⟩ := ob.there
  rw [vat_of hl] at z
  cases z
  rw [hp] at hw
  cases hw
/-- a fresh list that was laid -/
theorem Rl.freshL (r : Rl K cm HF H0 H σ e) {p : Addr} (hp : H p = none) {vs : List V} {ds : List D} (d : Dts K cm H0 vs ds) : Rl K cm HF H0 (upd H p (.lst vs)) σ e ∧ FreshAt K cm HF H0 (upd H p (.lst vs)) σ e (.lst ds) p :=
  ⟨r.laidOwn hp _, r.fro.free hp, r.frm.free hp, r.own_ne hp, vs, upd_same, d⟩
/-- what stands apart is frozen -/
theorem Rl.freezeAt (r : Rl K cm HF H1 H' σ e) {p : Addr} {u : HO} (h1 : H1 p = none) (hf : HF p = none) (hn : ∀ j t o, e[j]? = some (.own t o) → vat σ j ≠ some (.ref p)) (hp : H' p = some u) : Same H1 (upd H1 p u) ∧ Rl K cm HF (upd H1 p u) H' σ e := by
  have s0 : Same H1 (upd H1 p u) := fun b o q => by rw [upd_ne (ne_of_none q h1)]; exact q
  refine ⟨s0, ⟨fun b w hb => ?_, r.frm, fun a o ha => ?_, r.len, fun j s hs => ?_, r.sep⟩⟩
  · by_cases q : b = p
    · subst q
      rw [upd_same] at hb
      cases hb
      exact hp
    · rw [upd_ne q] at hb
      exact r.fro b w hb
  · rw [upd_ne (ne_of_none ha hf)]
    exact r.dis a o ha
  · have z := r.sl j s hs
    cases s with
    | un => trivial
    | dat d =>
      obtain ⟨x, a, b⟩ := z
      exact ⟨x, a, b.mono s0⟩
    | xv c fs => exact z.mono (Same.refl _) s0
    | own t o =>
      obtain ⟨l, a, b, c, d, ob⟩ := z
      have ne : l ≠ p := fun y => hn j t o hs (by rw [a, y])
      exact ⟨l, a, b, (upd_ne ne).trans c, d, ob.mono s0 rfl⟩
end

section
variable {X : Cx} {cm : CM} {W : WX} {a b c : Expr} {es : List Expr} {fa fb : M D} {ma mb : M Bool} {pos : Pos} {fo : M Ob}
def lstM (m : M (List D)) : M Ob := m.bnd fun ds => M.opt (if ds.length ≤ sizeLine then some (.lst ds) else none)
theorem df_lst {fs : M (List D)} (h : DA X cm W es fs) : DF X cm W (.List es pos) (lstM fs) := by
  refine PE.impI (pe_lst h) fun σ H Q l q => ?_
  obtain ⟨e, HF, H0, rl, p⟩ := q
  refine ⟨e, HF, H0, rl, p.bnd.imp fun ds e1 H1 H' s1 r1 p1 vs dvs => ?_⟩
  obtain ⟨d, hd, q⟩ := p1.opt r1
  split at hd
  · rename_i hl
    cases hd
    refine ⟨by rw [dvs.length]; exact hl, fun a ha => ?_⟩
    obtain ⟨r2, f2⟩ := r1.freshL ha dvs
    exact q H1 _ (Same.refl _) r2 a f2
  · cases hd
/-- a fresh object, as data -/
def frzO : Ob → Option D
  | .lst xs => some (.lst xs)
  | .ins c fs => some (.ins c fs)
  | _ => none
def datM (m : M Ob) : M D := m.bnd fun o => M.opt (frzO o)
theorem de_fresh (h : DF X cm W a fo) : DE X cm W a (datM fo) := by
  refine PE.impI h fun σ H Q l q => ?_
  obtain ⟨e, HF, H0, rl, p⟩ := q
  refine ⟨e, HF, H0, rl, p.bnd.imp fun o e1 H1 H' s1 r1 p1 a ⟨f1, f2, f3, ob⟩ => ?_⟩
  obtain ⟨d, hd, q⟩ := p1.opt r1
  cases o with
  | lst xs =>
    cases hd
    obtain ⟨vs, hv, dv⟩ := ob
    obtain ⟨s2, r2⟩ := r1.freezeAt f1 f2 f3 hv
    exact q _ _ s2 r2 _ (.lst upd_same (dv.mono s2))
  | ins c fs =>
    cases hd
    obtain ⟨h3, dx, vs, hv, dv⟩ := ob
    obtain ⟨s2, r2⟩ := r1.freezeAt f1 f2 f3 hv
    exact q _ _ s2 r2 _ (.ins h3 upd_same (dv.mono s2))
  | dct _ => cases hd
  | bag _ => cases hd
/-- x = a fresh object: it is the slot's own -/
def ownM (i : Nat) (m : M Ob) : M Fl := m.bnd fun o => fun e => .ok .nx (e.set i (.own none o))
theorem ds_own {i : Nat} {x : Str} {pos' : Pos} (hN : X.N.Nodup) (hi : X.N[i]? = some x) (hx : Loc X.env.scope x) (he : DF X cm W a fo) (hs : swapsWith a (some (.Name x pos')) pos.line X.env = pure false := by rfl)
    (hf : X.fn x = true ∨ X.env.scope.names.lookup x = some .local := by first | exact .inl rfl | exact .inr rfl | assumption) : DS X cm W (.Assign [.Name x pos'] a pos) (ownM i fo) := PS.impI (ps_set hN hi hx he hs hf) fun D σ H l h => by
  obtain ⟨e, HF, H0, rl, p⟩ := h
  refine ⟨e, HF, H0, rl, p.bnd.imp fun d e1 H1 H' s1 r1 p1 v ⟨f1, f2, f3, ob⟩ => ?_⟩
  exact p1 _ H1 H' (Same.refl _) (r1.putOwn f1 f2 ob fun j t u _ h => f3 j t u h)

/-! ### comprehensions -/
def wipeE (e : En) : List Nat → En
  | [] => e
  | v :: vs => (wipeE e vs).set v .un
theorem wipeE_length (e : En) : ∀ vs : List Nat, (wipeE e vs).length = e.length
  | [] => rfl
  | v :: vs => by unfold wipeE; rw [List.length_set, wipeE_length e vs]
theorem Rl.wipe {K : PySem.W.Frag} {HF H0 H : Hp} {σ : St} {e : En} (r : Rl K cm HF H0 H σ e) : ∀ vs : List Nat, Rl K cm HF H0 H (wipe σ vs) (wipeE e vs)
  | [] => r
  | v :: vs => (Rl.wipe r vs).forget v none
theorem wipeE_get {e : En} {j : Nat} {s : Sl} : ∀ {vs : List Nat}, (wipeE e vs)[j]? = some s → s = .un ∨ (j ∉ vs ∧ e[j]? = some s)
  | [], h => .inr ⟨by simp, h⟩
  | v :: vs, h => by
    unfold wipeE at h
    rcases get_set_eq h with ⟨rfl, rfl⟩ | ⟨q, h⟩
    · exact .inl rfl
    · rcases wipeE_get h with z | ⟨z1, z2⟩
      · exact .inl z
      · exact .inr ⟨by simp [q, z1], z2⟩
/-- back to slots that differ in vs alone -/
theorem Rl.back {K : PySem.W.Frag} {HF H0 H : Hp} {σ σ2 : St} {e : En} {vs : List Nat} (r : Rl K cm HF H0 H σ2 e) (hl : σ.length = σ2.length) (hv : ∀ j, j ∉ vs → vat σ j = vat σ2 j) : Rl K cm HF H0 H σ (wipeE e vs) := by
  refine ⟨r.fro, r.frm, r.dis, by rw [wipeE_length, r.len, hl], fun j s hs => ?_, fun j k t u o o' l h1 h2 h3 h4 => ?_⟩
  · rcases wipeE_get hs with rfl | ⟨z1, z2⟩
    · trivial
    · rw [hv j z1]
      exact r.sl j s z2
  · rcases wipeE_get h1 with z | ⟨z1, z2⟩
    · cases z
    rcases wipeE_get h2 with z | ⟨y1, y2⟩
    · cases z
    rw [hv j z1] at h3
    rw [hv k y1] at h4
    exact r.sep j k t u o o' l z2 y2 h3 h4
theorem vat_wipe {σ : St} {vs : List Nat} {j : Nat} (h : j ∉ vs) : vat (wipe σ vs) j = vat σ j := by
  unfold vat
  rw [wipe_out h]
theorem wipe_in {σ : St} {j : Nat} : ∀ {vs : List Nat}, j ∈ vs → (wipe σ vs)[j]? = if j < σ.length then some none else none
  | [], h => by cases h
  | v :: vs, h => by
    unfold wipe
    by_cases q : v = j
    · subst q
      rw [List.getElem?_set]
      simp [wipe_length]
    · rw [List.getElem?_set_ne q]
      exact wipe_in (by simpa [Ne.symm q] using h)
theorem wipe_eq {σ σ2 : St} {vs : List Nat} (hl : σ2.length = σ.length) (h : ∀ j, j ∉ vs → σ2[j]? = (wipe σ vs)[j]?) : wipe σ2 vs = wipe σ vs := by
  apply List.ext_getElem?
  intro j
  by_cases q : j ∈ vs
  · rw [wipe_in q, wipe_in q, hl]
  · rw [wipe_out q, h j q]
/-- the frame takes an object that stands apart, or another one in its place -/
theorem Rl.frame {K : PySem.W.Frag} {HF H0 H : Hp} {σ : St} {e : En} {p : Addr} {u : HO} (r : Rl K cm HF H0 H σ e) (h0 : H0 p = none) (hn : ∀ j t o, e[j]? = some (.own t o) → vat σ j ≠ some (.ref p)) (hp : H p = some u) : Rl K cm (upd HF p u) H0 H σ e := by
  refine ⟨r.fro, fun b o hb => ?_, fun a o ha => ?_, r.len, fun j s hs => ?_, r.sep⟩
  · by_cases q : b = p
    · subst q
      rw [upd_same] at hb
      cases hb
      exact hp
    · rw [upd_ne q] at hb
      exact r.frm b o hb
  · by_cases q : a = p
    · rw [q]; exact h0
    · rw [upd_ne q] at ha
      exact r.dis a o ha
  · have z := r.sl j s hs
    cases s with
    | un => trivial
    | dat d => exact z
    | xv c fs =>
      refine z.mono (fun b o hb => ?_) (Same.refl _)
      by_cases y : b = p
      · subst y
        rw [upd_same, ← hp]
        exact r.frm _ _ hb
      · rw [upd_ne y]
        exact hb
    | own t o =>
      obtain ⟨l, a, b, c, d, ob⟩ := z
      have ne : l ≠ p := fun y => hn j t o hs (by rw [a, y])
      exact ⟨l, a, b, c, (upd_ne ne).trans d, ob⟩
/-- the framed object is another one -/
theorem Rl.reframe {K : PySem.W.Frag} {HF H0 H : Hp} {σ : St} {e : En} {p : Addr} {u u' : HO} (r : Rl K cm (upd HF p u) H0 H σ e) (hu : ∀ z, u ≠ .xd z := by intro z w; cases w) : Rl K cm (upd HF p u') H0 (upd H p u') σ e := by
  have h0 : H0 p = none := r.dis p u upd_same
  refine ⟨fun b o hb => ?_, fun b o hb => ?_, fun a o ha => ?_, r.len, fun j s hs => ?_, r.sep⟩
  · rw [upd_ne (ne_of_none hb h0)]
    exact r.fro b o hb
  · by_cases q : b = p
    · subst q
      rw [upd_same] at hb ⊢
      exact hb
    · rw [upd_ne q] at hb ⊢
      exact r.frm b o (by rw [upd_ne q]; exact hb)
  · by_cases q : a = p
    · rw [q]; exact h0
    · exact r.dis a o (by rw [upd_ne q]; rw [upd_ne q] at ha; exact ha)
  · have z := r.sl j s hs
    cases s with
    | un => trivial
    | dat d => exact z
    | xv c fs =>
      obtain ⟨a, b, fv, z, d⟩ := z
      refine ⟨a, b, fv, z.imp (fun q => ?_) id, d⟩
      by_cases y : cm 1 = p
      · rw [y, upd_same] at q
        exact absurd (Option.some.inj q) (hu _)
      · rw [upd_ne y] at q ⊢
        exact q
    | own t o =>
      obtain ⟨l, a, b, c, d, ob⟩ := z
      have ne : l ≠ p := fun y => by subst y; rw [upd_same] at d; cases d
      rw [upd_ne ne] at d
      exact ⟨l, a, b, c, (upd_ne ne).trans d, ob.mono (Same.refl _) (upd_ne ne)⟩
theorem Rl.unframe {K : PySem.W.Frag} {HF H0 H : Hp} {σ : St} {e : En} {p : Addr} {u : HO} (r : Rl K cm (upd HF p u) H0 H σ e) (hf : HF p = none) (hu : ∀ z, u ≠ .xd z := by intro z w; cases w) : Rl K cm HF H0 H σ e ∧ H0 p = none ∧ H p = some u ∧ ∀ j t o, e[j]? = some (.own t o) → vat σ j ≠ some (.ref p) := by
  have h0 : H0 p = none := r.dis p u upd_same
  have le : Same HF (upd HF p u) := fun b o hb => by rw [upd_ne (ne_of_none hb hf)]; exact hb
  refine ⟨⟨r.fro, fun b o hb => r.frm b o (le b o hb), fun a o ha => r.dis a o (le a o ha), r.len, fun j s hs => ?_, r.sep⟩, h0, r.frm _ _ upd_same, fun j t o hs z => ?_⟩
  · have z := r.sl j s hs
    cases s with
    | un => trivial
    | dat d => exact z
    | xv c fs =>
      obtain ⟨a, b, fv, z, d⟩ := z
      refine ⟨a, b, fv, z.imp (fun q => ?_) id, d⟩
      by_cases y : cm 1 = p
      · rw [y, upd_same] at q
        exact absurd (Option.some.inj q) (hu _)
      · rw [upd_ne y] at q
        exact q
    | own t o =>
      obtain ⟨l, a, b, c, d, ob⟩ := z
      exact ⟨l, a, b, c, le.free d, ob⟩
  · obtain ⟨l, a, b, c, d, ob⟩ := r.sl j _ hs
    rw [a] at z
    cases z
    rw [upd_same] at d
    cases d

/-- one element after another; a turn's own slots are wiped; an exception has no meaning here -/
def compL (vs : List Nat) (t : D → En → Option En) (c : M Bool) (el : M D) : List D → M (List D)
  | [] => M.ret []
  | d :: ds => fun e => match t d e with
    | none => .no
    | some e1 => match c e1 with
      | .ok true e2 => match el e2 with
        | .ok y e3 => match compL vs t c el ds (wipeE e3 vs) with
          | .ok ys e4 => .ok (y :: ys) e4
          | _ => .no
        | _ => .no
      | .ok false e2 => compL vs t c el ds (wipeE e2 vs)
      | _ => .no
def compM (vs : List Nat) (it : M (List D)) (t : D → En → Option En) (c : M Bool) (el : M D) : M Ob := it.bnd fun ds => fun e =>
  if ds.length ≤ sizeLine then match compL vs t c el ds (wipeE e vs) with
    | .ok ys e' => .ok (.lst ys) (wipeE e' vs)
    | _ => .no
  else .no
def W0 : WX := fun _ _ _ _ => False
def tDTs (K : PySem.W.Frag) (cm : CM) (f : M Bool) : TT := tDT K cm W0 f
theorem dts_yes {X : Cx} : PTs X [] (tDT X.K cm W0 (M.ret true)) := ⟨fun pins s σ H Q I h => pts_nil.run pins s σ H Q I (by
  obtain ⟨e, HF, H0, rl, p⟩ := h
  exact p.ret rl)⟩
theorem dts_one {X : Cx} (h : DT X cm W0 a ma) : PTs X [a] (tDT X.K cm W0 ma) := pts_one h
theorem lc_read {K : PySem.W.Frag} {it : M (List D)} {vs ss : List Nat} {t : D → En → Option En} (hss : ∀ j ∈ ss, j ∈ vs) {σ : St} {H : Hp} {Q : VK} (h : tDF K cm W (compM vs it t ma fa) σ H Q) :
    tLc (tDI K cm W it) (tDG K cm ss t) (tDT K cm W0 ma) (tDE K cm W0 fa) vs σ H Q := by
  obtain ⟨e, HF, H0, rl, p⟩ := h
  refine ⟨e, HF, H0, rl, p.bnd.imp fun ds e1 H1 H' s1 r1 p1 J hJ D hD => ?_⟩
  have hf : HF D = none := r1.frm.free hD
  split at p1
  case isFalse => exact p1.elim
  rename_i hsz
  obtain ⟨ys0, e0, hc, p2⟩ : ∃ ys e', compL vs t ma fa ds (wipeE e1 vs) = .ok ys e' ∧ Post K cm W HF σ H1 (R.ok (Ob.lst ys) (wipeE e' vs)) (fun o e' H1 H' => ∀ p, FreshAt K cm HF H1 H' σ e' o p → Q (.ref p) H') := by
    cases q : compL vs t ma fa ds (wipeE e1 vs) with
    | ok ys e' => rw [q] at p1; exact ⟨ys, e', rfl, p1⟩
    | ex c fs e' => rw [q] at p1; exact p1.elim
    | no => rw [q] at p1; exact p1.elim
  -- what has been made, and what is to be made, are the whole
  refine ⟨fun i k H => k = ds.length - i ∧ i ≤ ds.length ∧ ∃ e2 H2 acc out, Same H1 H2 ∧ Rl K cm (upd HF D (.lst acc)) H2 H (wipe σ vs) e2 ∧ Dts K cm H2 acc out ∧ out.length ≤ i ∧
      ∃ ys, compL vs t ma fa (ds.drop i) e2 = .ok ys e0 ∧ out ++ ys = ys0, ⟨ds.length, by simp, Nat.zero_le _, wipeE e1 vs, H1, [], [], Same.refl _, ?_, .nil, Nat.le_refl _, ys0, by simpa using hc, rfl⟩, ?_⟩
  · exact (((r1.laidOwn hD _).frame (r1.fro.free hD) (r1.own_ne hD) upd_same)).wipe vs
  rintro i k H2' ⟨rfl, hi, e2, H2, acc, out, s2, r2, dacc, hout, ys, hys, hcat⟩
  by_cases hlt : i < ds.length
  · refine .inr ⟨hJ.go i _ H2 H2' _ e2 hlt s2 r2, fun H3' => ∃ e3 H3 acc out, Same H1 H3 ∧ Rl K cm (upd HF D (.lst acc)) H3 H3' (wipe σ vs) e3 ∧ Dts K cm H3 acc out ∧ out.length ≤ i + 1 ∧
      ∃ ys, compL vs t ma fa (ds.drop (i + 1)) e3 = .ok ys e0 ∧ out ++ ys = ys0, fun H3' hN => ⟨_, (by omega : ds.length - (i + 1) < ds.length - i), rfl, by omega, hN⟩, fun x H3' hy => ?_⟩
    have hd : ds[i]? = some ds[i] := List.getElem?_eq_getElem hlt
    obtain ⟨_, H3, s3, r3, dx⟩ := hJ.yld i _ _ H2 H2' _ e2 x H3' hd s2 r2 hy
    rw [List.drop_eq_getElem_cons hlt] at hys
    unfold compL at hys
    split at hys
    · cases hys
    rename_i e3 ht
    refine ⟨e2, _, H3, _, e3, r3, dx, ht, fun σ' r' hl' ks => ?_⟩
    have ks' : ∀ j, j ∉ vs → σ'[j]? = (wipe σ vs)[j]? := fun j hj => ks j fun z => hj (hss j z)
    refine ⟨wipe_eq (by rw [hl', wipe_length]) ks', e3, _, H3, r', ?_⟩
    have bk : ∀ {HF' H4 H4' : Hp} {e4 : En}, Rl K cm HF' H4 H4' σ' e4 → Rl K cm HF' H4 H4' (wipe σ vs) (wipeE e4 vs) := fun r4 => r4.back hl'.symm fun j hj => by
      unfold vat
      rw [ks' j hj]
    cases qc : ma e3 with
    | ex c fs e4 => rw [qc] at hys; cases hys
    | no => rw [qc] at hys; cases hys
    | ok bb e4 =>
      rw [qc] at hys
      intro H4 H4' s4 r4
      cases bb with
      | false =>
        rw [if_neg Bool.false_ne_true]
        exact ⟨wipeE e4 vs, H4, acc, out, (s2.trans s3).trans s4, bk r4, (dacc.mono s3).mono s4, by omega, ys, hys, hcat⟩
      | true =>
        rw [if_pos rfl]
        refine ⟨e4, _, H4, r4, ?_⟩
        dsimp only at hys
        cases qe : fa e4 with
        | ex c fs e5 => rw [qe] at hys; cases hys
        | no => rw [qe] at hys; cases hys
        | ok y e5 =>
          rw [qe] at hys
          intro H5 H5' s5 r5 v dv
          dsimp only at hys
          split at hys
          · rename_i ys' e6 hys'
            cases hys
            refine ⟨acc, r5.frm _ _ upd_same, by rw [dacc.length]; omega, wipeE e5 vs, H5, acc ++ [v], out ++ [y], ((s2.trans s3).trans s4).trans s5, bk r5.reframe, (((dacc.mono s3).mono s4).mono s5).append (.cons dv .nil), ?_, ys', hys', ?_⟩
            · rw [List.length_append, List.length_singleton]
              omega
            · rw [← hcat, List.append_assoc]
              rfl
          · cases hys
  · have e : i = ds.length := by omega
    subst e
    refine .inl ⟨hJ.stop _ H2 H2' _ e2 s2 r2, ?_⟩
    rw [List.drop_length] at hys
    have hys : R.ok ([] : List DL.D) e2 = R.ok ys e0 := hys
    injection hys with q1 q2
    subst q1
    subst q2
    rw [List.append_nil] at hcat
    subst hcat
    obtain ⟨r3, z1, z2, z3⟩ := r2.unframe hf
    have r4 : Rl K cm HF H2 H2' σ (wipeE e2 vs) := r3.back (by rw [wipe_length]) fun j hj => (vat_wipe hj).symm
    refine p2 H2 H2' s2 r4 D ⟨z1, hf, fun j t u hj => ?_, acc, z2, dacc⟩
    rcases wipeE_get hj with q | ⟨q1, q2⟩
    · cases q
    · rw [← vat_wipe q1]
      exact z3 j t u q2
/-- [elt for tg in iter if ..] -/
theorem df_lc {elt tg iter : Expr} {ifs : List Expr} {scope : Scope} {own : List (Str × Nat)} {it : M (List D)} {ss : List Nat} {t : D → En → Option En} (hc : X.calm = true) (hN : X.N.Nodup) (hi : DI X cm W tg iter it) (ok : BlkOk X.N X.env.scope scope own)
    (hss : ∀ j ∈ ss, j ∈ own.map (·.2))
    (hg : ∀ (s : Shared) (H : Hp) (C : Addr) (cl : List (Str × Addr)) (fp : List Addr), DG (X.blk s H scope (compEnvC scope cl C X.env) fp) cm ss tg t) (ht : ∀ (s : Shared) (H : Hp) (C : Addr) (cl : List (Str × Addr)) (fp : List Addr), PTs (X.blk s H scope (compEnvC scope cl C X.env) fp) ifs (tDT X.K cm W0 ma))
    (he : ∀ (s : Shared) (H : Hp) (C : Addr) (cl : List (Str × Addr)) (fp : List Addr), DE (X.blk s H scope (compEnvC scope cl C X.env) fp) cm W0 elt fa) (hs : ∀ x, foldedSetIterable iter X.env x = pure x := by intro _; rfl) :
    DF X cm W (.ListComp elt [⟨tg, iter, ifs, 0⟩] scope pos) (compM (own.map (·.2)) it t ma fa) :=
  PE.impI (pe_lc hc hN hi ok hg ht he hs) fun σ H Q l h => lc_read hss h
theorem ds_setLc {i : Nat} {y : Str} {py : Pos} {elt tg iter : Expr} {ifs : List Expr} {scope : Scope} {own : List (Str × Nat)} {spos : Pos} {it : M (List D)} {ss : List Nat} {t : D → En → Option En} (hc : X.calm = true) (hN : X.N.Nodup) (hy : X.N[i]? = some y) (hyl : X.env.scope.names.lookup y = some .local)
    (hsw : swapsWith (.ListComp elt [⟨tg, iter, ifs, 0⟩] scope pos) (some (.Name y py)) spos.line X.env = pure true) (hi : DI X cm W tg iter it) (ok : BlkOk X.N X.env.scope scope own)
    (hss : ∀ j ∈ ss, j ∈ own.map (·.2))
    (hg : ∀ (s : Shared) (H : Hp) (C : Addr) (cl : List (Str × Addr)) (fp : List Addr), DG (X.blk s H scope (compEnvC scope cl C X.env) fp) cm ss tg t) (ht : ∀ (s : Shared) (H : Hp) (C : Addr) (cl : List (Str × Addr)) (fp : List Addr), PTs (X.blk s H scope (compEnvC scope cl C X.env) fp) ifs (tDT X.K cm W0 ma))
    (he : ∀ (s : Shared) (H : Hp) (C : Addr) (cl : List (Str × Addr)) (fp : List Addr), DE (X.blk s H scope (compEnvC scope cl C X.env) fp) cm W0 elt fa) (hs : ∀ x, foldedSetIterable iter X.env x = pure x := by intro _; rfl) :
    DS X cm W (.Assign [.Name y py] (.ListComp elt [⟨tg, iter, ifs, 0⟩] scope pos) spos) (ownM i (compM (own.map (·.2)) it t ma fa)) :=
  PS.impI (ps_setLc hc hN hy hyl hsw hi ok hg ht he hs) fun D σ H l h => by
    obtain ⟨e, HF, H0, rl, p⟩ := h
    refine lc_read hss ⟨e, HF, H0, rl, p.bnd.imp fun d e1 H1 H' s1 r1 p1 v ⟨f1, f2, f3, ob⟩ => ?_⟩
    exact p1 _ H1 H' (Same.refl _) (r1.putOwn f1 f2 ob fun j t u _ h => f3 j t u h)
end
end DL
set_option maxRecDepth 100000
/-! # DL6: lists of one's own lent for a while; their methods. -/
namespace DL
open PySem L2

mutual
def D.noLst : D → Bool
  | .non | .bl _ | .int _ | .str _ => true
  | .lst _ => false
  | .tup xs => D.noLsts xs
  | .ins _ fs => D.noLstf fs
def D.noLsts : List D → Bool
  | [] => true
  | d :: ds => d.noLst && D.noLsts ds
def D.noLstf : List (Str × D) → Bool
  | [] => true
  | (_, d) :: ds => d.noLst && D.noLstf ds
end
def notL : HO → Bool
  | .lst _ => false
  | _ => true
/-- what is no list is the same in both -/
def SameNL (H H' : Hp) : Prop := ∀ a o, H a = some o → notL o = true → H' a = some o
section
variable {K : PySem.W.Frag} {cm : CM} {H H' : Hp}
theorem seqTNL {a : Addr} {xs : List V} (e : SameNL H H') (h : SqT K H a xs) : SqT K H' a xs := by
  rcases h with (h | ⟨o, h⟩) | h
  · exact .inl (.inl (e _ _ h rfl))
  · exact .inl (.inr ⟨o, e _ _ h rfl⟩)
  · exact .inr h
mutual
theorem Dt.nl (e : SameNL H H') : ∀ {v : V} {d : D}, Dt K cm H v d → d.noLst = true → Dt K cm H' v d
  | _, _, .non, _ => .non
  | _, _, .bl b, _ => .bl b
  | _, _, .int i, _ => .int i
  | _, _, .str s, _ => .str s
  | _, _, .lst _ _, q => by cases q
  | _, _, .tup h hs, q => .tup (seqTNL e h) (Dts.nl e hs q)
  | _, _, .ins hc h hs, q => .ins hc (e _ _ h rfl) (Dfs.nl e hs q)
theorem Dts.nl (e : SameNL H H') : ∀ {v : List V} {d : List D}, Dts K cm H v d → D.noLsts d = true → Dts K cm H' v d
  | _, _, .nil, _ => .nil
  | _, _, .cons h hs, q => by
    have q' := (Bool.and_eq_true _ _ ▸ q : _ ∧ _)
    exact .cons (Dt.nl e h q'.1) (Dts.nl e hs q'.2)
theorem Dfs.nl (e : SameNL H H') : ∀ {v : List (Str × V)} {d : List (Str × D)}, Dfs K cm H v d → D.noLstf d = true → Dfs K cm H' v d
  | _, _, .nil, _ => .nil
  | _, _, .cons h hs, q => by
    have q' := (Bool.and_eq_true _ _ ▸ q : _ ∧ _)
    exact .cons (Dt.nl e h q'.1) (Dfs.nl e hs q'.2)
end
end

def frozS : Sl → Sl
  | .own t (.lst xs) => .dat (.lst xs)
  | .own t (.bag b) => .own t (.bag b)
  | .own _ (.dct _) => .un
  | .own _ (.ins _ _) => .un
  | .dat d => .dat d
  | .un => .un
  | .xv c fs => .xv c fs
def thawS : Sl → Sl → Option Sl
  | .own t (.bag b), .own _ (.bag b') => if b'.lc = b.lc ∧ b'.cs = b.cs then some (.own t (.bag b')) else none
  | .own _ (.bag _), _ => none
  | s, _ => some s
def thawE : En → En → Option En
  | [], [] => some []
  | s :: e, s' :: e' => match thawS s s' with
    | some u => (thawE e e').map (u :: ·)
    | none => none
  | _, _ => none
theorem thawE_get : ∀ {e e' e2 : En} {i : Nat} {s2 : Sl}, thawE e e' = some e2 → e2[i]? = some s2 → ∃ s s', e[i]? = some s ∧ e'[i]? = some s' ∧ thawS s s' = some s2
  | [], [], _, i, s2, h, hi => by cases h; simp at hi
  | [], _ :: _, _, _, _, h, _ => by cases h
  | _ :: _, [], _, _, _, h, _ => by cases h
  | s :: e, s' :: e', e2, i, s2, h, hi => by
    unfold thawE at h
    split at h
    · rename_i u hu
      cases q : thawE e e' with
      | none => rw [q] at h; cases h
      | some e3 =>
        rw [q] at h
        cases h
        cases i with
        | zero =>
          simp at hi
          subst hi
          exact ⟨s, s', rfl, rfl, hu⟩
        | succ i =>
          obtain ⟨a, b, h1, h2, h3⟩ := thawE_get (i := i) q (by simpa using hi)
          exact ⟨a, b, by simpa using h1, by simpa using h2, h3⟩
    · cases h
theorem thawE_length : ∀ {e e' e2 : En}, thawE e e' = some e2 → e2.length = e.length
  | [], [], _, h => by cases h; rfl
  | [], _ :: _, _, h => by cases h
  | _ :: _, [], _, h => by cases h
  | s :: e, s' :: e', e2, h => by
    unfold thawE at h
    split at h
    · rename_i u hu
      cases q : thawE e e' with
      | none => rw [q] at h; cases h
      | some e3 =>
        rw [q] at h
        cases h
        exact congrArg (· + 1) (thawE_length q)
    · cases h

/-- a slot's own list, or dict or instance, stands at a -/
def OwnL (σ : St) (e : En) (a : Addr) : Prop := ∃ i t xs, e[i]? = some (.own t (.lst xs)) ∧ vat σ i = some (.ref a)
def OwnO (σ : St) (e : En) (a : Addr) : Prop := ∃ i t o, e[i]? = some (.own t o) ∧ (frozS (.own t o) = .un) ∧ vat σ i = some (.ref a)
open Classical in
noncomputable def lendH (σ : St) (e : En) (H0 H : Hp) : Hp := fun a => if OwnL σ e a then H a else H0 a
open Classical in
noncomputable def lendF (σ : St) (e : En) (HF H : Hp) : Hp := fun a => if OwnO σ e a then H a else HF a
open Classical in
noncomputable def backH (σ : St) (e : En) (H1 : Hp) : Hp := fun a => if OwnL σ e a then none else H1 a
section
variable {K : PySem.W.Frag} {cm : CM} {HF H0 H H1 H' : Hp} {σ : St} {e e' e2 : En}
theorem OwnL.apart (r : Rl K cm HF H0 H σ e) {a : Addr} (h : OwnL σ e a) : H0 a = none ∧ HF a = none ∧ ¬ OwnO σ e a ∧ ∃ vs, H a = some (.lst vs) := by
  obtain ⟨i, t, xs, hi, hv⟩ := h
  obtain ⟨l, e1, _, h0, hf, vs, hl, _⟩ := r.own hi
  rw [vat_of e1] at hv
  cases hv
  refine ⟨h0, hf, ?_, vs, hl⟩
  rintro ⟨j, u, o, hj, hu, hw⟩
  have ij := r.sep i j t u _ o _ hi hj (vat_of e1) hw
  subst ij
  rw [hi] at hj
  cases hj
  cases hu
theorem OwnO.apart (r : Rl K cm HF H0 H σ e) {a : Addr} (h : OwnO σ e a) : H0 a = none ∧ HF a = none ∧ ¬ OwnL σ e a := by
  obtain ⟨i, t, o, hi, ho, hv⟩ := h
  obtain ⟨l, e1, _, h0, hf, _⟩ := r.own hi
  rw [vat_of e1] at hv
  cases hv
  refine ⟨h0, hf, ?_⟩
  rintro ⟨j, u, xs, hj, hw⟩
  have ij := r.sep i j t u o _ _ hi hj (vat_of e1) hw
  subst ij
  rw [hi] at hj
  cases hj
  cases ho
theorem lend_same (r : Rl K cm HF H0 H σ e) : Same H0 (lendH σ e H0 H) := fun a o h => by
  unfold lendH
  rw [if_neg]
  · exact h
  · intro w
    rw [(w.apart r).1] at h
    cases h
theorem map_get {i : Nat} {s : Sl} (h : (e.map frozS)[i]? = some s) : ∃ s0, e[i]? = some s0 ∧ s = frozS s0 := by
  rw [List.getElem?_map] at h
  cases q : e[i]? with
  | none => rw [q] at h; cases h
  | some s0 => rw [q] at h; cases h; exact ⟨s0, rfl, rfl⟩
theorem Rl.lend (r : Rl K cm HF H0 H σ e) : Rl K cm (lendF σ e HF H) (lendH σ e H0 H) H σ (e.map frozS) := by
  refine ⟨fun a o h => ?_, fun a o h => ?_, fun a o h => ?_, by rw [List.length_map, r.len], fun i s hs => ?_, fun i j t u o o' l h1 h2 h3 h4 => ?_⟩
  · unfold lendH at h
    split at h
    · exact h
    · exact r.fro a o h
  · unfold lendF at h
    split at h
    · exact h
    · exact r.frm a o h
  · unfold lendF at h
    unfold lendH
    split at h
    · rename_i w
      rw [if_neg (w.apart r).2.2]
      exact (w.apart r).1
    · rename_i w
      have h0 := r.dis a o h
      rw [if_neg]
      · exact h0
      · intro w2
        rw [(w2.apart r).2.1] at h
        cases h
  · obtain ⟨s0, hs0, rfl⟩ := map_get hs
    have z := r.sl i s0 hs0
    cases s0 with
    | un => trivial
    | dat d =>
      obtain ⟨x, a, b⟩ := z
      exact ⟨x, a, b.mono (lend_same r)⟩
    | xv c fs => exact z.mono (fun a o h => by unfold lendF; rw [if_neg]; exact h; intro w; rw [(w.apart r).2.1] at h; cases h) (lend_same r)
    | own t o =>
      obtain ⟨l, a, b, c, d, ob⟩ := z
      cases o with
      | lst xs =>
        obtain ⟨vs, hl, dv⟩ := ob
        refine ⟨.ref l, a, .lst (vs := vs) ?_ (dv.mono (lend_same r))⟩
        unfold lendH
        rw [if_pos ⟨i, t, xs, hs0, a⟩]
        exact hl
      | bag bb =>
        have nO : ¬ OwnO σ e l := by
          rintro ⟨j, u, o2, hj, hu, hw⟩
          have ij := r.sep i j t u _ o2 l hs0 hj a hw
          subst ij
          rw [hs0] at hj
          cases hj
          cases hu
        have nL : ¬ OwnL σ e l := by
          rintro ⟨j, u, xs, hj, hw⟩
          have ij := r.sep i j t u _ _ l hs0 hj a hw
          subst ij
          rw [hs0] at hj
          cases hj
        refine ⟨l, a, b, ?_, ?_, ob.mono (lend_same r) rfl⟩
        · unfold lendH
          rw [if_neg nL]
          exact c
        · unfold lendF
          rw [if_neg nO]
          exact d
      | dct _ => trivial
      | ins _ _ => trivial
  · obtain ⟨s1, g1, q1⟩ := map_get h1
    obtain ⟨s2, g2, q2⟩ := map_get h2
    cases s1 with
    | un => cases q1
    | dat _ => cases q1
    | xv _ _ => cases q1
    | own t1 o1 =>
      cases s2 with
      | un => cases q2
      | dat _ => cases q2
      | xv _ _ => cases q2
      | own t2 o2 => exact r.sep i j t1 t2 o1 o2 l g1 g2 h3 h4
theorem Rl.unlend (r : Rl K cm HF H0 H σ e) (s : Same (lendH σ e H0 H) H1) (r' : Rl K cm (lendF σ e HF H) H1 H' σ e') (ht : thawE e e' = some e2) : Same H0 (backH σ e H1) ∧ Rl K cm HF (backH σ e H1) H' σ e2 ∧ SameNL H1 (backH σ e H1) := by
  have s0 : Same H0 (backH σ e H1) := fun a o h => by
    unfold backH
    rw [if_neg]
    · exact s _ _ (lend_same r _ _ h)
    · intro w
      rw [(w.apart r).1] at h
      cases h
  have lf : Same HF (lendF σ e HF H) := fun a o h => by
    unfold lendF
    rw [if_neg]
    · exact h
    · intro w
      rw [(w.apart r).2.1] at h
      cases h
  have keep : ∀ {a u}, OwnO σ e a → H a = some u → H' a = some u ∧ H1 a = none := fun {a u} w hu => by
    have q : lendF σ e HF H a = some u := by unfold lendF; rw [if_pos w]; exact hu
    exact ⟨r'.frm _ _ q, r'.dis _ _ q⟩
  have keepL : ∀ {a u}, OwnL σ e a → H a = some u → H' a = some u ∧ H1 a = some u := fun {a u} w hu => by
    have q : lendH σ e H0 H a = some u := by unfold lendH; rw [if_pos w]; exact hu
    exact ⟨r'.fro _ _ (s _ _ q), s _ _ q⟩
  have own2 : ∀ {j : Nat} {t2 : Option Addr} {o2 : Ob}, e2[j]? = some (.own t2 o2) → ∃ o1, e[j]? = some (.own t2 o1) := fun {j t2 o2} hj => by
    obtain ⟨sa, sb, ha, hb, hc⟩ := thawE_get ht hj
    cases sa with
    | un => cases hc
    | dat _ => cases hc
    | xv _ _ => cases hc
    | own t1 o1 =>
      cases o1 with
      | bag b1 =>
        cases sb with
        | own t3 o3 =>
          cases o3 with
          | bag b3 =>
            simp only [thawS] at hc
            split at hc
            · cases hc; exact ⟨_, ha⟩
            · cases hc
          | _ => cases hc
        | _ => cases hc
      | lst xs => cases hc; exact ⟨_, ha⟩
      | dct xs => cases hc; exact ⟨_, ha⟩
      | ins c xs => cases hc; exact ⟨_, ha⟩
  refine ⟨s0, ⟨fun a o h => ?_, fun a o h => r'.frm a o (lf a o h), fun a o h => ?_, by rw [thawE_length ht, r.len], fun i s2 hs => ?_, fun i j t u o o' l h1 h2 h3 h4 => ?_⟩, fun a o h nl => ?_⟩
  · unfold backH at h
    split at h
    · cases h
    · exact r'.fro a o h
  · unfold backH
    split
    · rfl
    · exact r'.dis a o (lf a o h)
  · obtain ⟨sa, sb, ha, hb, hc⟩ := thawE_get ht hs
    have z := r.sl i sa ha
    cases sa with
    | un => cases hc; trivial
    | dat d =>
      cases hc
      obtain ⟨x, a, b⟩ := z
      exact ⟨x, a, b.mono s0⟩
    | xv c fs =>
      cases hc
      exact z.mono (Same.refl _) s0
    | own t1 o1 =>
      obtain ⟨l, a, b, c, d, ob⟩ := z
      cases o1 with
      | lst xs =>
        cases hc
        obtain ⟨vs, hl, dv⟩ := ob
        have w : OwnL σ e l := ⟨i, t1, xs, ha, a⟩
        exact ⟨l, a, b, by unfold backH; rw [if_pos w], d, vs, (keepL w hl).1, dv.mono s0⟩
      | dct xs =>
        cases hc
        obtain ⟨vs, hl, dv⟩ := ob
        have w : OwnO σ e l := ⟨i, t1, _, ha, rfl, a⟩
        exact ⟨l, a, b, by unfold backH; rw [if_neg (w.apart r).2.2]; exact (keep w hl).2, d, vs, (keep w hl).1, dv.mono s0⟩
      | ins cc xs =>
        cases hc
        obtain ⟨h3, dx, vs, hl, dv⟩ := ob
        have w : OwnO σ e l := ⟨i, t1, _, ha, rfl, a⟩
        exact ⟨l, a, b, by unfold backH; rw [if_neg (w.apart r).2.2]; exact (keep w hl).2, d, h3, dx, vs, (keep w hl).1, dv.mono s0⟩
      | bag b1 =>
        cases sb with
        | own t3 o3 =>
          cases o3 with
          | bag b3 =>
            simp only [thawS] at hc
            split at hc
            · rename_i hbb
              cases hc
              obtain ⟨l3, a3, _, c3, d3, ob3⟩ := r'.sl i _ hb
              rw [a] at a3
              cases a3
              refine ⟨l, a, b, ?_, d, ob3.1, ?_⟩
              · unfold backH
                split
                · rfl
                · exact c3
              · rw [hbb.1, hbb.2]
                exact s0 _ _ ob.2
            · cases hc
          | _ => cases hc
        | _ => cases hc
  · obtain ⟨_, g1⟩ := own2 h1
    obtain ⟨_, g2⟩ := own2 h2
    exact r.sep i j _ _ _ _ l g1 g2 h3 h4
  · unfold backH
    rw [if_neg]
    · exact h
    · intro w
      obtain ⟨_, _, _, vs, hv⟩ := w.apart r
      have := (keepL w hv).2
      rw [this] at h
      cases h
      cases nl
end
def peekG {α : Type} (nl : α → Bool) (f : M α) : M α := fun e => match f (e.map frozS) with
  | .ok d e' => match thawE e e' with
    | some e2 => if nl d = true then .ok d e2 else .no
    | none => .no
  | .ex c fs e' => match thawE e e' with
    | some e2 => if D.noLstf fs = true then .ex c fs e2 else .no
    | none => .no
  | .no => .no
def peekM (f : M D) : M D := peekG D.noLst f
def peekB (f : M Bool) : M Bool := peekG (fun _ => true) f
section
variable {X : Cx} {cm : CM} {W : WX} {a b c : Expr} {es : List Expr} {fa fb : M D} {ma mb : M Bool} {pos : Pos} {fo : M Ob}
theorem Post.peek {K : PySem.W.Frag} {HF H0 H : Hp} {σ : St} {e : En} {α : Type} {f : M α} {Q : α → En → Hp → Hp → Prop} (r0 : Rl K cm HF H0 H σ e) (nl : α → Bool) (h : Post K cm W HF σ H0 (peekG nl f e) Q) :
    Post K cm W (lendF σ e HF H) σ (lendH σ e H0 H) (f (e.map frozS)) (fun d _ H1 H' => ∃ e2 H2, SameNL H1 H2 ∧ nl d = true ∧ Rl K cm HF H2 H' σ e2 ∧ Q d e2 H2 H') := by
  unfold peekG at h
  cases q : f (e.map frozS) with
  | no => rw [q] at h; exact h
  | ok d e' =>
    rw [q] at h
    dsimp only at h
    intro H1 H' s1 r1
    split at h
    · rename_i e2 ht
      split at h
      · rename_i hn
        obtain ⟨s0, r2, nl⟩ := r0.unlend s1 r1 ht
        exact ⟨e2, _, nl, hn, r2, h _ _ s0 r2⟩
      · exact h.elim
    · exact h.elim
  | ex c fs e' =>
    rw [q] at h
    dsimp only at h
    intro H1 H' d fv s1 r1 hd hf
    split at h
    · rename_i e2 ht
      split at h
      · rename_i hn
        obtain ⟨s0, r2, nl⟩ := r0.unlend s1 r1 ht
        exact h _ _ d fv s0 r2 hd (hf.nl nl hn)
      · exact h.elim
    · exact h.elim
/-- lists of one's own are lent while the expression is evaluated; its value holds no list -/
theorem de_peek (h : DE X cm W a fa) : DE X cm W a (peekM fa) := by
  refine PE.impI h fun σ H Q l q => ?_
  obtain ⟨e, HF, H0, rl, p⟩ := q
  exact ⟨_, _, _, rl.lend, (Post.peek rl D.noLst p).imp fun d e1 H1 H' s1 r1 ⟨e2, H2, nl, hn, _, q⟩ v dv => q v (dv.nl nl hn)⟩
theorem dt_peek (h : DT X cm W a ma) : DT X cm W a (peekB ma) := by
  refine PT.impI h fun σ H Q l q => ?_
  obtain ⟨e, HF, H0, rl, p⟩ := q
  exact ⟨_, _, _, rl.lend, (Post.peek rl (fun _ => true) p).imp fun d e1 H1 H' s1 r1 ⟨e2, H2, nl, hn, _, q⟩ => q⟩

/-! ### methods of lists of one's own -/
/-- the value of a name: where the slot's own object lies -/
theorem tyL {K : PySem.W.Frag} {H : Hp} {l : Addr} {vs : List V} (h : H l = some (.lst vs)) : tyV K "list" (.ref l) H := .inl ⟨rfl, _, SqL.of h⟩
def ownL (e : En) (i : Nat) : Option (Option Addr × List D) := match e[i]? with
  | some (.own t (.lst xs)) => some (t, xs)
  | _ => none
theorem ownL_some {e : En} {i : Nat} {t : Option Addr} {xs : List D} (h : ownL e i = some (t, xs)) : e[i]? = some (.own t (.lst xs)) := by
  unfold ownL at h
  split at h
  · cases h; assumption
  · cases h
/-- x.append(e) -/
def appendM (i : Nat) (m : M D) : M D := fun e => match ownL e i with
  | some _ => (m.bnd fun d => fun e => match ownL e i with
    | some (t, xs) => if xs.length < sizeLine then .ok .non (e.set i (.own t (.lst (xs ++ [d])))) else .no
    | none => .no) e
  | none => .no
theorem de_append (i : Nat) {x : Str} {p1 p2 pos : Pos} (hN : X.N[i]? = some x := by rfl) (hv : Vis X.env.scope x := by first | exact Or.inl rfl | exact Or.inr (Or.inl rfl) | exact Or.inr (Or.inr rfl)) (hd : (x == ("__debug__" : Str)) = false := by decide)
    (hcd : (x == ("__classdict__" : Str)) = false := by decide) (he : DE X cm W a fa)
    (hbase : attributeBase (.Name x p1) "append" X.env (eval (.Name x p1) X.env) = eval (.Name x p1) X.env := by rfl)
    (hfew : ((backTo pos (starEach [a] X.env)).all (fun x => !x.1) && (backToKw pos (keywordEach [] X.env)).all (fun x => x.1.isSome) && decide (([a] : List Expr).length + ([] : List Keyword).length + (if ([] : List Keyword).isEmpty then 0 else 1) < 30)) = true := by rfl)
    (hline : (p2.endLine == pos.line) = true := by rfl) (hs : starEach [a] X.env = (false, eval a X.env) :: starEach [] X.env := by rfl) (hplain : (backTo pos (starEach [] X.env)).any (·.1) = false := by rfl) :
    DE X cm W (.Call (.Attribute (.Name x p1) "append" p2) [a] [] pos) (appendM i fa) := by
  refine PE.impI (pe_bm PySem.F.plainAttrs_list PySem.F.slot_list_append PySem.F.type_list_append mt_append (pe_var hN hv hd hcd) (pa_cons he pa_nil hs) hbase hfew hline hs hplain) fun σ H Q l h => ?_
  obtain ⟨e, HF, H0, rl, p⟩ := h
  unfold appendM at p
  split at p
  · rename_i tx h0
    obtain ⟨t, xs⟩ := tx
    obtain ⟨l0, e1, _, _, _, vs, hl, _⟩ := rl.own (ownL_some h0)
    refine ⟨.ref l0, e1, tyL hl, e, HF, H0, rl, p.bnd.imp fun d e2 H1 H' s1 r1 p1 v dv => ?_⟩
    split at p1
    · rename_i t' xs' h1
      split at p1
      · rename_i hz
        obtain ⟨l1, e2', tg, _, _, vs1, hl1, dv1⟩ := r1.own (ownL_some h1)
        rw [e1] at e2'
        cases e2'
        refine ⟨l0, vs1, v, rfl, rfl, hl1, by rw [dv1.length]; exact hz, ?_⟩
        exact p1 H1 _ (Same.refl _) (r1.write (ownL_some h1) e1 ⟨_, upd_same, dv1.append (.cons dv .nil)⟩) _ .non
      · exact p1.elim
    · exact p1.elim
  · exact p.elim
def extendM (i : Nat) (m : M D) : M D := fun e => match ownL e i with
  | some _ => (m.bnd fun d => fun e => match d, ownL e i with
    | .lst ys, some (t, xs) => if xs.length + ys.length ≤ sizeLine then .ok .non (e.set i (.own t (.lst (xs ++ ys)))) else .no
    | _, _ => .no) e
  | none => .no
theorem de_extend (i : Nat) {x : Str} {p1 p2 pos : Pos} (hN : X.N[i]? = some x := by rfl) (hv : Vis X.env.scope x := by first | exact Or.inl rfl | exact Or.inr (Or.inl rfl) | exact Or.inr (Or.inr rfl)) (hd : (x == ("__debug__" : Str)) = false := by decide)
    (hcd : (x == ("__classdict__" : Str)) = false := by decide) (he : DE X cm W a fa)
    (hbase : attributeBase (.Name x p1) "extend" X.env (eval (.Name x p1) X.env) = eval (.Name x p1) X.env := by rfl)
    (hfew : ((backTo pos (starEach [a] X.env)).all (fun x => !x.1) && (backToKw pos (keywordEach [] X.env)).all (fun x => x.1.isSome) && decide (([a] : List Expr).length + ([] : List Keyword).length + (if ([] : List Keyword).isEmpty then 0 else 1) < 30)) = true := by rfl)
    (hline : (p2.endLine == pos.line) = true := by rfl) (hs : starEach [a] X.env = (false, eval a X.env) :: starEach [] X.env := by rfl) (hplain : (backTo pos (starEach [] X.env)).any (·.1) = false := by rfl) :
    DE X cm W (.Call (.Attribute (.Name x p1) "extend" p2) [a] [] pos) (extendM i fa) := by
  refine PE.impI (pe_bm PySem.F.plainAttrs_list PySem.F.slot_list_extend PySem.F.type_list_extend mt_extend (pe_var hN hv hd hcd) (pa_cons he pa_nil hs) hbase hfew hline hs hplain) fun σ H Q l h => ?_
  obtain ⟨e, HF, H0, rl, p⟩ := h
  unfold extendM at p
  split at p
  · rename_i tx h0
    obtain ⟨t, xs⟩ := tx
    obtain ⟨l0, e1, _, _, _, vs, hl, _⟩ := rl.own (ownL_some h0)
    refine ⟨.ref l0, e1, tyL hl, e, HF, H0, rl, p.bnd.imp fun d e2 H1 H' s1 r1 p1 v dv => ?_⟩
    split at p1
    · rename_i ys t' xs' h1
      split at p1
      · rename_i hz
        obtain ⟨l1, e2', tg, _, _, vs1, hl1, dv1⟩ := r1.own (ownL_some h1)
        rw [e1] at e2'
        cases e2'
        cases dv with
        | lst hy dy =>
        refine ⟨l0, _, vs1, _, rfl, rfl, hl1, r1.fro _ _ hy, by rw [dv1.length, dy.length]; exact hz, ?_⟩
        exact p1 H1 _ (Same.refl _) (r1.write (ownL_some h1) e1 ⟨_, upd_same, dv1.append dy⟩) _ .non
      · exact p1.elim
    · exact p1.elim
  · exact p.elim
def popM (i : Nat) : M D := fun e => match ownL e i with
  | some (t, xs) => match xs[xs.length - 1]? with
    | some d => .ok d (e.set i (.own t (.lst xs.dropLast)))
    | none => .no
  | none => .no
theorem Dts.dropLast {K : PySem.W.Frag} {H : Hp} {vs : List V} {ds : List D} (h : Dts K cm H vs ds) : Dts K cm H vs.dropLast ds.dropLast := by
  rw [List.dropLast_eq_take, List.dropLast_eq_take, h.length]
  exact h.take _
theorem de_pop (i : Nat) {x : Str} {p1 p2 pos : Pos} (hN : X.N[i]? = some x := by rfl) (hv : Vis X.env.scope x := by first | exact Or.inl rfl | exact Or.inr (Or.inl rfl) | exact Or.inr (Or.inr rfl)) (hd : (x == ("__debug__" : Str)) = false := by decide)
    (hcd : (x == ("__classdict__" : Str)) = false := by decide)
    (hbase : attributeBase (.Name x p1) "pop" X.env (eval (.Name x p1) X.env) = eval (.Name x p1) X.env := by rfl) (hline : (p2.endLine == pos.line) = true := by rfl) :
    DE X cm W (.Call (.Attribute (.Name x p1) "pop" p2) [] [] pos) (popM i) := by
  refine PE.impI (pe_bm0 PySem.F.plainAttrs_list PySem.F.slot_list_pop PySem.F.type_list_pop mt_pop (pe_var hN hv hd hcd) hbase hline) fun σ H Q l h => ?_
  obtain ⟨e, HF, H0, rl, p⟩ := h
  unfold popM at p
  split at p
  · rename_i t xs h0
    split at p
    · rename_i d hd
      obtain ⟨l0, e1, tg, _, _, vs, hl, dv⟩ := rl.own (ownL_some h0)
      obtain ⟨v, hv', dd⟩ := dv.getD hd
      refine ⟨.ref l0, e1, tyL hl, l0, vs, v, rfl, rfl, hl, by rw [dv.length]; exact hv', ?_⟩
      exact p H0 _ (Same.refl _) (rl.write (ownL_some h0) e1 ⟨_, upd_same, dv.dropLast⟩) _ dd
    · exact p.elim
  · exact p.elim
/-- x.pop(e) -/
def popAtM (i : Nat) (m : M D) : M D := fun e => match ownL e i with
  | some _ => (m.bnd fun d => fun e => match d, ownL e i with
    | .int j, some (t, xs) => match ixN xs.length j with
      | some k => match xs[k]? with
        | some d => if -(2 ^ 63) ≤ j ∧ j < 2 ^ 63 then .ok d (e.set i (.own t (.lst (xs.eraseIdx k)))) else .no
        | none => .no
      | none => .no
    | _, _ => .no) e
  | none => .no
theorem de_popAt (i : Nat) {x : Str} {p1 p2 pos : Pos} (hN : X.N[i]? = some x := by rfl) (hv : Vis X.env.scope x := by first | exact Or.inl rfl | exact Or.inr (Or.inl rfl) | exact Or.inr (Or.inr rfl)) (hd : (x == ("__debug__" : Str)) = false := by decide)
    (hcd : (x == ("__classdict__" : Str)) = false := by decide) (he : DE X cm W a fa)
    (hbase : attributeBase (.Name x p1) "pop" X.env (eval (.Name x p1) X.env) = eval (.Name x p1) X.env := by rfl)
    (hfew : ((backTo pos (starEach [a] X.env)).all (fun x => !x.1) && (backToKw pos (keywordEach [] X.env)).all (fun x => x.1.isSome) && decide (([a] : List Expr).length + ([] : List Keyword).length + (if ([] : List Keyword).isEmpty then 0 else 1) < 30)) = true := by rfl)
    (hline : (p2.endLine == pos.line) = true := by rfl) (hs : starEach [a] X.env = (false, eval a X.env) :: starEach [] X.env := by rfl) (hplain : (backTo pos (starEach [] X.env)).any (·.1) = false := by rfl) :
    DE X cm W (.Call (.Attribute (.Name x p1) "pop" p2) [a] [] pos) (popAtM i fa) := by
  refine PE.impI (pe_bm PySem.F.plainAttrs_list PySem.F.slot_list_pop PySem.F.type_list_pop mt_popAt (pe_var hN hv hd hcd) (pa_cons he pa_nil hs) hbase hfew hline hs hplain) fun σ H Q l h => ?_
  obtain ⟨e, HF, H0, rl, p⟩ := h
  unfold popAtM at p
  split at p
  · rename_i tx h0
    obtain ⟨t, xs⟩ := tx
    obtain ⟨l0, e1, _, _, _, vs, hl, _⟩ := rl.own (ownL_some h0)
    refine ⟨.ref l0, e1, tyL hl, e, HF, H0, rl, p.bnd.imp fun d e2 H1 H' s1 r1 p1 v dv => ?_⟩
    split at p1
    · rename_i j t' xs' h1
      split at p1
      · rename_i k hk
        split at p1
        · rename_i d hd
          split at p1
          · rename_i hb
            obtain ⟨l1, e2', tg, _, _, vs1, hl1, dv1⟩ := r1.own (ownL_some h1)
            rw [e1] at e2'
            cases e2'
            cases dv
            obtain ⟨w, hw, dw⟩ := dv1.getD hd
            refine ⟨l0, vs1, j, k, w, rfl, rfl, hl1, hb.1, hb.2, ?_, hw, ?_⟩
            · rw [dv1.length]
              exact (ixN_seq hk).1
            · exact p1 H1 _ (Same.refl _) (r1.write (ownL_some h1) e1 ⟨_, upd_same, dv1.eraseIdx k⟩) _ dw
          · exact p1.elim
        · exact p1.elim
      · exact p1.elim
    · exact p1.elim
  · exact p.elim
/-- x.insert(e, e') -/
def insertM (i : Nat) (m : M (List D)) : M D := fun e => match ownL e i with
  | some _ => (m.bnd fun ds => fun e => match ds, ownL e i with
    | [.int j, d], some (t, xs) => if xs.length < sizeLine ∧ 0 ≤ j ∧ j < 2 ^ 63 then .ok .non (e.set i (.own t (.lst (xs.take j.toNat ++ [d] ++ xs.drop j.toNat)))) else .no
    | _, _ => .no) e
  | none => .no
theorem de_insert (i : Nat) {x : Str} {p1 p2 pos : Pos} {fs : M (List D)} (hN : X.N[i]? = some x := by rfl) (hv : Vis X.env.scope x := by first | exact Or.inl rfl | exact Or.inr (Or.inl rfl) | exact Or.inr (Or.inr rfl)) (hd : (x == ("__debug__" : Str)) = false := by decide)
    (hcd : (x == ("__classdict__" : Str)) = false := by decide) (he : DA X cm W [a, b] fs)
    (hbase : attributeBase (.Name x p1) "insert" X.env (eval (.Name x p1) X.env) = eval (.Name x p1) X.env := by rfl)
    (hfew : ((backTo pos (starEach [a, b] X.env)).all (fun x => !x.1) && (backToKw pos (keywordEach [] X.env)).all (fun x => x.1.isSome) && decide (([a, b] : List Expr).length + ([] : List Keyword).length + (if ([] : List Keyword).isEmpty then 0 else 1) < 30)) = true := by rfl)
    (hline : (p2.endLine == pos.line) = true := by rfl) (hs : starEach [a, b] X.env = (false, eval a X.env) :: starEach [b] X.env := by rfl) (hplain : (backTo pos (starEach [b] X.env)).any (·.1) = false := by rfl) :
    DE X cm W (.Call (.Attribute (.Name x p1) "insert" p2) [a, b] [] pos) (insertM i fs) := by
  refine PE.impI (pe_bm PySem.F.plainAttrs_list PySem.F.slot_list_insert PySem.F.type_list_insert mt_insert (pe_var hN hv hd hcd) he hbase hfew hline hs hplain) fun σ H Q l h => ?_
  obtain ⟨e, HF, H0, rl, p⟩ := h
  unfold insertM at p
  split at p
  · rename_i tx h0
    obtain ⟨t, xs⟩ := tx
    obtain ⟨l0, e1, _, _, _, vs, hl, _⟩ := rl.own (ownL_some h0)
    refine ⟨.ref l0, e1, tyL hl, e, HF, H0, rl, p.bnd.imp fun ds e2 H1 H' s1 r1 p1 ws dws => ?_⟩
    split at p1
    · rename_i j d t' xs' h1
      split at p1
      · rename_i hz
        obtain ⟨l1, e2', tg, _, _, vs1, hl1, dv1⟩ := r1.own (ownL_some h1)
        rw [e1] at e2'
        cases e2'
        cases dws with
        | cons dj dr =>
        cases dr with
        | cons dd dr =>
        cases dr
        cases dj
        refine ⟨l0, vs1, j, _, rfl, rfl, hl1, by rw [dv1.length]; exact hz.1, hz.2.1, hz.2.2, ?_⟩
        exact p1 H1 _ (Same.refl _) (r1.write (ownL_some h1) e1 ⟨_, upd_same, ((dv1.take _).append (.cons dd .nil)).append (dv1.drop _)⟩) _ .non
      · exact p1.elim
    · exact p1.elim
  · exact p.elim
/-- x[j] = e, x a list of one's own -/
def setAtM (i : Nat) (m j : M D) : M Fl := m.bnd fun d => fun e => match ownL e i with
  | some _ => (j.bnd fun k => fun e => match k, ownL e i with
    | .int k, some (t, xs) => match ixN xs.length k with
      | some n => .ok .nx (e.set i (.own t (.lst (xs.set n d))))
      | none => .no
    | _, _ => .no) e
  | none => .no
theorem ds_setAt (i : Nat) {x : Str} {p1 p2 pos : Pos} (hN : X.N[i]? = some x) (hv : Vis X.env.scope x) (hm : DE X cm W a fa) (hj : DE X cm W b fb) (hd : (x == ("__debug__" : Str)) = false := by decide) (hcd : (x == ("__classdict__" : Str)) = false := by decide)
    (ha : ∀ v, assign (.Subscript (.Name x p1) b p2) X.env v = (do
      let ov ← holding [v] (eval (.Name x p1) X.env)
      let iv ← holding [v, ov] (eval b X.env)
      standAt p2
      holding [v, ov, iv] (setItem ov iv v)
      release [v, ov, iv] []) := by intro _; rfl)
    (hs : swapsWithSole [.Subscript (.Name x p1) b p2] a pos.line X.env = pure false := by rfl) (hw : swappedStores [.Subscript (.Name x p1) b p2] a X.env = pure none := by rfl) (h1 : (assignEach [.Subscript (.Name x p1) b p2] X.env).map (·.2) = [assign (.Subscript (.Name x p1) b p2) X.env] := by rfl) :
    DS X cm W (.Assign [.Subscript (.Name x p1) b p2] a pos) (setAtM i fa fb) := by
  refine PS.impI (ps_asg hm (pg_sub (pe_var hN hv hd hcd) hj set_list ha) hs hw h1) fun D σ H l h => ?_
  obtain ⟨e, HF, H0, rl, p⟩ := h
  refine ⟨e, HF, H0, rl, p.bnd.imp fun d e1 H1 H' s1 r1 p1 v dv => ?_⟩
  split at p1
  · rename_i tx h0
    obtain ⟨t, xs⟩ := tx
    obtain ⟨l0, e1', _, _, _, vs, hl, _⟩ := r1.own (ownL_some h0)
    refine ⟨.ref l0, e1', e1, HF, H1, r1, (PostS.bnd p1).imp fun k e2 H2 H'' s2 r2 p2 u du => ?_⟩
    split at p2
    · rename_i j t' xs' h1
      split at p2
      · rename_i n hn
        obtain ⟨l1, e2', tg, _, _, vs1, hl1, dv1⟩ := r2.own (ownL_some h1)
        rw [e1'] at e2'
        cases e2'
        cases du
        refine ⟨l0, vs1, j, n, rfl, rfl, hl1, by rw [dv1.length]; exact hn, ?_⟩
        exact p2 σ H2 _ (Same.refl _) (r2.write (ownL_some h1) e1' ⟨_, upd_same, Dts.set (dv.mono s2) n dv1⟩)
      · exact p2.elim
    · exact p2.elim
  · exact p1.elim
end
end DL
set_option maxRecDepth 100000
/-! # DL7: defs by what they do with data; calls. -/
namespace DL
open PySem L2 PyProof.Rows

/-- an argument: data, or an object that is lent to be changed -/
inductive Ag where
  | d (d : D) | o (o : Ob)
/-- a def's answer -/
inductive Rt where
  | ret (d : D) | exc (c : Nat) (fs : List (Str × D))
/-- what a def does: from the arguments the answer, and what the lent objects have become -/
abbrev FS := List Ag → Option (Rt × List Ob)

def agsF (adr : Nat → Addr) : Nat → List Ag → En
  | _, [] => []
  | i, .d d :: r => .dat d :: agsF adr (i + 1) r
  | i, .o o :: r => .own (some (adr i)) o :: agsF adr (i + 1) r
def putO : List Ag → List Ob → List Ag
  | [], _ => []
  | .d d :: r, os => .d d :: putO r os
  | .o _ :: r, o :: os => .o o :: putO r os
  | .o x :: r, [] => .o x :: putO r []
def adrOf (vs : List V) (i : Nat) : Addr := match vs[i]? with
  | some (.ref l) => l
  | _ => 0
theorem agsF_length (adr : Nat → Addr) : ∀ (i : Nat) (gs : List Ag), (agsF adr i gs).length = gs.length
  | _, [] => rfl
  | i, .d _ :: r => congrArg (· + 1) (agsF_length adr (i + 1) r)
  | i, .o _ :: r => congrArg (· + 1) (agsF_length adr (i + 1) r)
theorem agsF_get {adr : Nat → Addr} : ∀ {i : Nat} {gs : List Ag} {j : Nat}, (agsF adr i gs)[j]? = (gs[j]?).map fun g => match g with | .d d => Sl.dat d | .o o => Sl.own (some (adr (i + j))) o
  | _, [], _ => rfl
  | i, .d _ :: r, 0 => rfl
  | i, .o _ :: r, 0 => rfl
  | i, .d _ :: r, j + 1 => by
    have := agsF_get (adr := adr) (i := i + 1) (gs := r) (j := j)
    rw [show i + 1 + j = i + (j + 1) by omega] at this
    exact this
  | i, .o _ :: r, j + 1 => by
    have := agsF_get (adr := adr) (i := i + 1) (gs := r) (j := j)
    rw [show i + 1 + j = i + (j + 1) by omega] at this
    exact this
theorem putO_ds : ∀ (ds : List D) (os : List Ob), putO (ds.map Ag.d) os = ds.map Ag.d
  | [], _ => rfl
  | d :: r, os => congrArg (Ag.d d :: ·) (putO_ds r os)
theorem putO_length : ∀ (gs : List Ag) (os : List Ob), (putO gs os).length = gs.length
  | [], _ => rfl
  | .d _ :: r, os => congrArg (· + 1) (putO_length r os)
  | .o _ :: r, _ :: os => congrArg (· + 1) (putO_length r os)
  | .o _ :: r, [] => congrArg (· + 1) (putO_length r [])

def spD (K : PySem.W.Frag) (cm : CM) (F : FS) : Sp := fun vs H Q E => ∃ gs HF H0, vs.length = gs.length ∧ Rl K cm HF H0 H (vs.map some) (agsF (adrOf vs) 0 gs) ∧
  match F gs with
  | some (.ret d, os) => ∀ v H' H0', Same H0 H0' → Rl K cm HF H0' H' (vs.map some) (agsF (adrOf vs) 0 (putO gs os)) → Dt K cm H0' v d → Q v H'
  | some (.exc c fs, os) => ∀ H0' H' d fv, Same H0 H0' → Rl K cm HF H0' H' (vs.map some) (agsF (adrOf vs) 0 (putO gs os)) → H' d = some (.xd fv) → Dfs K cm H0' fv fs → E (.ref (cm c)) (some d) H'
  | none => False
/-- a def at f, at level k, does F -/
abbrev DFn (P : Program) (w : World) (K : PySem.W.Frag) (mg : Str → Option Value) (base : Heap) (cm : CM) (k : Nat) (f : Addr) (F : FS) : Prop := FnR P w K mg base (L2.CX P w) k f (spD K cm F)

/-! ### a def by its body -/
/-- the slots at the entry -/
def ini (adr : Nat → Addr) (gs : List Ag) (n : Nat) : En := agsF adr 0 gs ++ List.replicate (n - gs.length) .un
/-- what the lent objects are at the end -/
def outs (adr : Nat → Addr) : Nat → List Ag → En → Option (List Ob)
  | _, [], _ => some []
  | i, .d _ :: r, e => outs adr (i + 1) r e
  | i, .o _ :: r, e => match e[i]? with
    | some (.own (some a) o) => if a = adr i then (outs adr (i + 1) r e).map (o :: ·) else none
    | _ => none
def fin (adr : Nat → Addr) (gs : List Ag) (r : R Fl) : Option (Rt × List Ob) := match r with
  | .ok (.rt d) e => (outs adr 0 gs e).map fun os => (.ret d, os)
  | .ok .nx e => (outs adr 0 gs e).map fun os => (.ret .non, os)
  | .ex c fs e => (outs adr 0 gs e).map fun os => (.exc c fs, os)
  | _ => none
/-- F is what the body m (of n slots) does -/
def Does (m : M Fl) (n : Nat) (F : FS) : Prop := ∀ adr gs r, F gs = some r → fin adr gs (m (ini adr gs n)) = some r

section
variable {K : PySem.W.Frag} {cm : CM} {HF H0 H0' H H' : Hp}
theorem outs_get {adr : Nat → Addr} {e : En} : ∀ {i : Nat} {gs : List Ag} {os : List Ob}, outs adr i gs e = some os → ∀ (j : Nat) (o : Ob), (putO gs os)[j]? = some (.o o) → e[i + j]? = some (.own (some (adr (i + j))) o)
  | _, [], _, _, _, _, h => by simp [putO] at h
  | i, .d _ :: r, os, h, j, o, hj => by
    cases j with
    | zero => simp [putO] at hj
    | succ j =>
      have := outs_get (i := i + 1) (gs := r) (os := os) h j o (by simpa [putO] using hj)
      rw [show i + 1 + j = i + (j + 1) by omega] at this
      exact this
  | i, .o x :: r, os, h, j, o, hj => by
    unfold outs at h
    split at h
    · rename_i a o' q
      split at h
      · rename_i ha
        cases q2 : outs adr (i + 1) r e with
        | none => rw [q2] at h; cases h
        | some os' =>
          rw [q2] at h
          cases h
          cases j with
          | zero =>
            have hj' : Ag.o o' = Ag.o o := by simpa [putO] using hj
            cases hj'
            subst ha
            exact q
          | succ j =>
            have := outs_get (i := i + 1) (gs := r) (os := os') q2 j o (by simpa [putO] using hj)
            rw [show i + 1 + j = i + (j + 1) by omega] at this
            exact this
      · cases h
    · cases h
theorem putO_d {gs : List Ag} : ∀ {os : List Ob} {j : Nat} {d : D}, (putO gs os)[j]? = some (.d d) → gs[j]? = some (.d d) := by
  induction gs with
  | nil => intro os j d h; simp [putO] at h
  | cons g gs ih =>
    intro os j d h
    cases g with
    | d x =>
      cases j with
      | zero => simpa [putO] using h
      | succ j => simpa using ih (by simpa [putO] using h)
    | o x =>
      cases os with
      | nil =>
        cases j with
        | zero => simp [putO] at h
        | succ j => simpa using ih (by simpa [putO] using h)
      | cons o os =>
        cases j with
        | zero => simp [putO] at h
        | succ j => simpa using ih (by simpa [putO] using h)
theorem putO_o {gs : List Ag} : ∀ {os : List Ob} {j : Nat} {o : Ob}, (putO gs os)[j]? = some (.o o) → ∃ o', gs[j]? = some (.o o') := by
  induction gs with
  | nil => intro os j d h; simp [putO] at h
  | cons g gs ih =>
    intro os j d h
    cases g with
    | d x =>
      cases j with
      | zero => simp [putO] at h
      | succ j => simpa using ih (by simpa [putO] using h)
    | o x =>
      cases os with
      | nil =>
        cases j with
        | zero => exact ⟨x, rfl⟩
        | succ j => simpa using ih (by simpa [putO] using h)
      | cons o os =>
        cases j with
        | zero => exact ⟨x, rfl⟩
        | succ j => simpa using ih (by simpa [putO] using h)
theorem agsF_dat {adr : Nat → Addr} {gs : List Ag} {j : Nat} {d : D} (h : (agsF adr 0 gs)[j]? = some (.dat d)) : gs[j]? = some (.d d) := by
  rw [agsF_get] at h
  cases q : gs[j]? with
  | none => rw [q] at h; cases h
  | some g =>
    rw [q] at h
    cases g with
    | d x => cases h; rfl
    | o x => cases h
theorem agsF_own {adr : Nat → Addr} {gs : List Ag} {j : Nat} {t : Option Addr} {o : Ob} (h : (agsF adr 0 gs)[j]? = some (.own t o)) : gs[j]? = some (.o o) ∧ t = some (adr j) := by
  rw [agsF_get] at h
  cases q : gs[j]? with
  | none => rw [q] at h; cases h
  | some g =>
    rw [q] at h
    cases g with
    | d x => cases h
    | o x => cases h; exact ⟨rfl, by rw [Nat.zero_add]⟩
theorem agsF_d {adr : Nat → Addr} {gs : List Ag} {j : Nat} {d : D} (h : gs[j]? = some (.d d)) : (agsF adr 0 gs)[j]? = some (.dat d) := by
  rw [agsF_get, h]
  rfl
theorem agsF_o {adr : Nat → Addr} {gs : List Ag} {j : Nat} {o : Ob} (h : gs[j]? = some (.o o)) : (agsF adr 0 gs)[j]? = some (.own (some (adr j)) o) := by
  rw [agsF_get, h]
  show some (Sl.own (some (adr (0 + j))) o) = _
  rw [Nat.zero_add]
theorem agsF_un {adr : Nat → Addr} {gs : List Ag} {j : Nat} : (agsF adr 0 gs)[j]? ≠ some .un := by
  rw [agsF_get]
  cases gs[j]? with
  | none => exact fun h => by cases h
  | some g => cases g <;> exact fun h => by cases h
theorem agsF_xv {adr : Nat → Addr} {gs : List Ag} {j : Nat} {c : Nat} {fs : List (Str × D)} : (agsF adr 0 gs)[j]? ≠ some (.xv c fs) := by
  rw [agsF_get]
  cases gs[j]? with
  | none => exact fun h => by cases h
  | some g => cases g <;> exact fun h => by cases h
theorem vat_map {vs : List V} {j : Nat} : vat (vs.map some) j = vs[j]? := by
  unfold vat
  rw [List.getElem?_map]
  cases vs[j]? <;> rfl
/-- the lent objects at the end, told by the arguments' slots -/
theorem Rl.args {σ' : L2.St} {e' : En} {vs : List V} {gs : List Ag} {os : List Ob} (hl : vs.length = gs.length) (r0 : Rl K cm HF H0 H (vs.map some) (agsF (adrOf vs) 0 gs)) (s : Same H0 H0') (r : Rl K cm HF H0' H' σ' e') (ho : outs (adrOf vs) 0 gs e' = some os) :
    Rl K cm HF H0' H' (vs.map some) (agsF (adrOf vs) 0 (putO gs os)) := by
  have own : ∀ {j : Nat} {t : Option Addr} {o : Ob}, (agsF (adrOf vs) 0 (putO gs os))[j]? = some (.own t o) → ∃ l, vs[j]? = some (.ref l) ∧ t = some l ∧ e'[j]? = some (.own (some l) o) ∧ vat σ' j = some (.ref l) := fun {j t o} h => by
    obtain ⟨h1, rfl⟩ := agsF_own h
    have h2 := outs_get ho j o h1
    rw [Nat.zero_add] at h2
    obtain ⟨o', h3⟩ := putO_o h1
    obtain ⟨l, hl1, tg, _⟩ := r0.sl j _ (agsF_o h3)
    rw [vat_map] at hl1
    have e1 : l = adrOf vs j := tg _ rfl
    subst e1
    obtain ⟨l2, hl2, tg2, _⟩ := r.sl j _ h2
    have e2 := tg2 _ rfl
    subst e2
    exact ⟨_, hl1, rfl, h2, hl2⟩
  refine ⟨r.fro, r.frm, r.dis, by rw [agsF_length, putO_length, List.length_map, hl], fun j x hx => ?_, fun i j t u o o' l h1 h2 h3 h4 => ?_⟩
  · cases x with
    | un => trivial
    | xv _ _ => exact absurd hx agsF_xv
    | dat d =>
      have h1 := putO_d (agsF_dat hx)
      obtain ⟨v, hv, dv⟩ := r0.sl j _ (agsF_d (adr := adrOf vs) h1)
      exact ⟨v, hv, dv.mono s⟩
    | own t o =>
      obtain ⟨l, h1, rfl, h2, h3⟩ := own hx
      obtain ⟨l2, hl2, _, c, d, ob⟩ := r.sl j _ h2
      rw [h3] at hl2
      cases hl2
      exact ⟨l, by rw [vat_map]; exact h1, fun a z => by cases z; rfl, c, d, ob⟩
  · obtain ⟨l1, a1, _, b1, c1⟩ := own h1
    obtain ⟨l2, a2, _, b2, c2⟩ := own h2
    rw [vat_map, a1] at h3
    rw [vat_map, a2] at h4
    cases h3
    cases h4
    exact r.sep i j _ _ _ _ l b1 b2 c1 c2
theorem Rl.pad {vs : List V} {gs : List Ag} {N : List Str} (hl : vs.length = gs.length) (r : Rl K cm HF H0 H (vs.map some) (agsF (adrOf vs) 0 gs)) (hN : vs.length ≤ N.length) : Rl K cm HF H0 H (L2.start N vs) (ini (adrOf vs) gs N.length) := by
  have va : ∀ j, j < vs.length → vat (L2.start N vs) j = vat (vs.map some) j := fun j hj => by
    unfold vat L2.start
    rw [List.getElem?_append_left (by simpa using hj)]
  have ea : ∀ {j : Nat} {x : Sl}, (ini (adrOf vs) gs N.length)[j]? = some x → x = .un ∨ (j < vs.length ∧ (agsF (adrOf vs) 0 gs)[j]? = some x) := fun {j x} h => by
    unfold ini at h
    by_cases q : j < (agsF (adrOf vs) 0 gs).length
    · rw [List.getElem?_append_left q] at h
      rw [agsF_length, ← hl] at q
      exact .inr ⟨q, h⟩
    · rw [List.getElem?_append_right (Nat.le_of_not_lt q), List.getElem?_replicate] at h
      split at h
      · cases h; exact .inl rfl
      · cases h
  refine ⟨r.fro, r.frm, r.dis, ?_, fun j x hx => ?_, fun i j t u o o' l h1 h2 h3 h4 => ?_⟩
  · unfold ini L2.start
    rw [List.length_append, List.length_replicate, agsF_length, List.length_append, List.length_map, List.length_replicate, hl]
  · rcases ea hx with rfl | ⟨q, h⟩
    · trivial
    · rw [va j q]
      exact r.sl j x h
  · rcases ea h1 with z | ⟨q1, h1⟩
    · cases z
    rcases ea h2 with z | ⟨q2, h2⟩
    · cases z
    rw [va i q1] at h3
    rw [va j q2] at h4
    exact r.sep i j t u o o' l h1 h2 h3 h4
end
section
variable {P : Program} {w : World} {K : PySem.W.Frag} {mg : Str → Option Value} {base : Heap} {cm : CM}
/-- the reading of a body at the entry -/
theorem does_read {m : M Fl} {N : List Str} {F : FS} {vs : List V} {H : Hp} {Q : VK} {E : XK} (hd : Does m N.length F) (hN : vs.length ≤ N.length) (h : spD K cm F vs H Q E) :
    tDS K cm (fun cls d _ H => E cls d H) m { nx := fun _ H' => Q .non H', rt := Q } (L2.start N vs) H := by
  obtain ⟨gs, HF, H0, hl, r0, h⟩ := h
  refine ⟨_, HF, H0, r0.pad hl hN, ?_⟩
  cases q : F gs with
  | none => rw [q] at h; exact h.elim
  | some ro =>
    obtain ⟨rt, os⟩ := ro
    have z := hd (adrOf vs) gs _ q
    rw [q] at h
    unfold fin at z
    cases y : m (ini (adrOf vs) gs N.length) with
    | no => rw [y] at z; cases z
    | ex c fs e' =>
      rw [y] at z
      obtain ⟨os', ho, eo⟩ := Option.map_eq_some_iff.mp z
      cases eo
      exact fun σ' H0' H' d fv s r hd hf => h H0' H' d fv s (r0.args hl s r ho) hd hf
    | ok fl e' =>
      rw [y] at z
      cases fl with
      | nx =>
        obtain ⟨os', ho, eo⟩ := Option.map_eq_some_iff.mp z
        cases eo
        exact fun σ' H0' H' s r => h .non H' H0' s (r0.args hl s r ho) .non
      | rt d =>
        obtain ⟨os', ho, eo⟩ := Option.map_eq_some_iff.mp z
        cases eo
        exact fun σ' H0' H' s r v dv => h v H' H0' s (r0.args hl s r ho) dv
      | bk => cases z
      | ct => cases z
/-- the context of a body -/
abbrev bodyX (P : Program) (w : World) (K : PySem.W.Frag) (mg : Str → Option Value) (base : Heap) (N : List Str) (qual : Str) (scope : Scope) (f : Addr) (cdv : Value) (A : Around) (outer : List Env) (s : Shared) (H : Hp) (E : XK) : Cx := cxOf (L2.CX P w) P w K mg base N qual scope f cdv A outer s H E
/-- THE RULE: a def of the text, no defaults -/
theorem dfn {x qual : Str} {st : Stmt} {f : Addr} {fd : FuncData} {N ps : List Str} {k : Nat} {F : FS} {m : M Fl} (Fu : Fun K x qual st f fd) (S : FnScope N ps (defScope st)) (hb : Binds K fd ps []) (hlen : ∀ gs r, F gs = some r → gs.length = ps.length)
    (hbody : ∀ (cdv : Value) (A : Around) (outer : List Env) (s : Shared) (H : Hp) (E : XK), Room k (A.deeper (envOfC qual (defScope st) s.heap.objs.size f cdv)) → Takes (bodyX P w K mg base N qual (defScope st) f cdv A outer s H E) (fun cls d _ H => E cls d H) →
      DSs (bodyX P w K mg base N qual (defScope st) f cdv A outer s H E) cm (fun cls d _ H => E cls d H) (defBody st) m) (hd : Does m N.length F) : DFn P w K mg base cm (k + 1) f F := by
  have hlen' : ∀ vs H Q E, spD K cm F vs H Q E → vs.length = ps.length := fun vs H Q E h => by
    obtain ⟨gs, HF, H0, hl, r0, h⟩ := h
    cases q : F gs with
    | none => rw [q] at h; exact h.elim
    | some ro => rw [hl, hlen gs ro q]
  have hN : ps.length ≤ N.length := by have := congrArg List.length S.pre; rw [List.length_take] at this; omega
  have G : FnOk P w K mg base (L2.CX P w) (k + 1) f fd ps (spD K cm F) := Fu.okX S hlen' fun cdv A outer s H vs Q E hr h =>
    ⟨_, hbody cdv A outer s H E hr (takes_of rfl rfl rfl rfl), does_read hd (by rw [hlen' _ _ _ _ h]; exact hN) h⟩
  have G2 := G.raw hb .nil
  exact FnR.imp G2 fun vs H Q E h => by rw [List.append_nil]; exact h
/-- a def that calls itself: the rule at each level -/
theorem dfn_fam {x qual : Str} {st : Stmt} {f : Addr} {fd : FuncData} {N ps : List Str} {k : Nat} {F : Nat → FS} {m : Nat → M Fl} (Fu : Fun K x qual st f fd) (S : FnScope N ps (defScope st)) (hb : Binds K fd ps []) (hlen : ∀ n gs r, F n gs = some r → gs.length = ps.length)
    (h0 : ∀ gs, F 0 gs = none)
    (hbody : ∀ (n : Nat), DFn P w K mg base cm (k + n) f (F n) → ∀ (cdv : Value) (A : Around) (outer : List Env) (s : Shared) (H : Hp) (E : XK), Room (k + n) (A.deeper (envOfC qual (defScope st) s.heap.objs.size f cdv)) → Takes (bodyX P w K mg base N qual (defScope st) f cdv A outer s H E) (fun cls d _ H => E cls d H) →
      DSs (bodyX P w K mg base N qual (defScope st) f cdv A outer s H E) cm (fun cls d _ H => E cls d H) (defBody st) (m n)) (hd : ∀ n, Does (m n) N.length (F (n + 1))) : ∀ n, DFn P w K mg base cm (k + n) f (F n)
  | 0 => fun A outer s H us vs Q E hr he hv h => by
    obtain ⟨gs, HF, H0, hl, r0, h⟩ := h
    rw [h0 gs] at h
    exact h.elim
  | n + 1 => dfn Fu S hb (hlen (n + 1)) (hbody n (dfn_fam Fu S hb hlen h0 hbody hd n)) (hd n)
theorem dfn_mono {j k : Nat} {f : Addr} {F : FS} (G : DFn P w K mg base cm j f F) (h : j ≤ k) : DFn P w K mg base cm k f F := FnR.mono G h
/-- less is said -/
theorem dfn_imp {k : Nat} {f : Addr} {F F' : FS} (G : DFn P w K mg base cm k f F) (h : ∀ gs r, F' gs = some r → F gs = some r) : DFn P w K mg base cm k f F' := FnR.imp G fun vs H Q E q => by
  obtain ⟨gs, HF, H0, hl, r0, q⟩ := q
  refine ⟨gs, HF, H0, hl, r0, ?_⟩
  cases z : F' gs with
  | none => rw [z] at q; exact q.elim
  | some r =>
    rw [z] at q
    rw [h gs r z]
    exact q
/-- a def with defaults, called with fewer arguments: the defaults are data -/
theorem dfn_dflt {x qual : Str} {params : Arguments} {body : List Stmt} {scope : Scope} {dvs : List V} {kws : List (Str × V)} {f : Addr} {fd : FuncData} {N ps : List Str} {k : Nat} {F F' : FS} {m : M Fl} {dds : List D} {n : Nat} (Fu : FunD K x qual params body scope dvs kws f fd) (S : FnScope N ps scope)
    {ds : List Value} {dv2 : List V} (hv : Vals dv2 ds) (hb : Binds K fd ps ds) (hdd : ∀ H, Dts K cm H dv2 dds)
    (hlen : ∀ gs r, F gs = some r → gs.length = ps.length) (hF : ∀ gs r, F' gs = some r → F (gs ++ dds.map Ag.d) = some r)
    (hbody : ∀ (cdv : Value) (A : Around) (outer : List Env) (s : Shared) (H : Hp) (E : XK), Room k (A.deeper (envOfC qual scope s.heap.objs.size f cdv)) → Takes (bodyX P w K mg base N qual scope f cdv A outer s H E) (fun cls d _ H => E cls d H) →
      DSs (bodyX P w K mg base N qual scope f cdv A outer s H E) cm (fun cls d _ H => E cls d H) body m) (hd : Does m N.length F) : DFn P w K mg base cm (k + 1) f F' := by
  have hlen' : ∀ vs H Q E, spD K cm F vs H Q E → vs.length = ps.length := fun vs H Q E h => by
    obtain ⟨gs, HF, H0, hl, r0, h⟩ := h
    cases q : F gs with
    | none => rw [q] at h; exact h.elim
    | some ro => rw [hl, hlen gs ro q]
  have hN : ps.length ≤ N.length := by have := congrArg List.length S.pre; rw [List.length_take] at this; omega
  have G : FnOk P w K mg base (L2.CX P w) (k + 1) f fd ps (spD K cm F) := Fu.ok S hlen' fun cdv A outer s H vs Q E hr h =>
    ⟨_, hbody cdv A outer s H E hr (takes_of rfl rfl rfl rfl), does_read hd (by rw [hlen' _ _ _ _ h]; exact hN) h⟩
  refine FnR.imp (G.raw hb hv) fun vs H Q E h => ?_
  obtain ⟨gs, HF, H0, hl, r0, h⟩ := h
  have hdl : dv2.length = dds.length := (hdd H0).length
  have adr : ∀ j, j < vs.length → adrOf (vs ++ dv2) j = adrOf vs j := fun j hj => by
    unfold adrOf
    rw [List.getElem?_append_left hj]
  have ext : ∀ (g : List Ag) (_ : g.length = vs.length), ∀ {H0' H' : Hp}, (Rl K cm HF H0' H' (vs.map some) (agsF (adrOf vs) 0 g) ↔ Rl K cm HF H0' H' ((vs ++ dv2).map some) (agsF (adrOf (vs ++ dv2)) 0 (g ++ dds.map Ag.d))) := fun g hg {H0' H'} => by
    have hgl : (g ++ dds.map Ag.d).length = (vs ++ dv2).length := by simp [hg, hdl]
    constructor
    · intro r
      refine ⟨r.fro, r.frm, r.dis, by rw [agsF_length, hgl, List.length_map], fun j y hy => ?_, fun i j t u o o' l h1 h2 h3 h4 => ?_⟩
      · cases y with
        | un => trivial
        | xv _ _ => exact absurd hy agsF_xv
        | dat d =>
          have z := agsF_dat hy
          by_cases q : j < vs.length
          · rw [List.getElem?_append_left (by omega)] at z
            obtain ⟨v, a, b⟩ := r.sl j _ (agsF_d (adr := adrOf vs) z)
            rw [vat_map] at a
            exact ⟨v, by rw [vat_map, List.getElem?_append_left q]; exact a, b⟩
          · rw [List.getElem?_append_right (by omega), List.getElem?_map] at z
            obtain ⟨d', hd', ed⟩ := Option.map_eq_some_iff.mp z
            cases ed
            obtain ⟨v, hv', dv⟩ := (hdd H0').getD hd'
            exact ⟨v, by rw [vat_map, List.getElem?_append_right (by omega), ← hg]; exact hv', dv⟩
        | own t o =>
          obtain ⟨z, rfl⟩ := agsF_own hy
          by_cases q : j < vs.length
          · rw [List.getElem?_append_left (by omega)] at z
            obtain ⟨l, a, b, c⟩ := r.sl j _ (agsF_o (adr := adrOf vs) z)
            rw [vat_map] at a
            rw [adr j q]
            exact ⟨l, by rw [vat_map, List.getElem?_append_left q]; exact a, b, c⟩
          · rw [List.getElem?_append_right (by omega), List.getElem?_map] at z
            obtain ⟨d', hd', ed⟩ := Option.map_eq_some_iff.mp z
            cases ed
      · have lt : ∀ {i : Nat} {t : Option Addr} {o : Ob}, (agsF (adrOf (vs ++ dv2)) 0 (g ++ dds.map Ag.d))[i]? = some (.own t o) → i < vs.length ∧ g[i]? = some (.o o) := fun {i t o} h => by
          obtain ⟨z, rfl⟩ := agsF_own h
          by_cases q : i < vs.length
          · rw [List.getElem?_append_left (by omega)] at z
            exact ⟨q, z⟩
          · rw [List.getElem?_append_right (by omega), List.getElem?_map] at z
            obtain ⟨d', hd', ed⟩ := Option.map_eq_some_iff.mp z
            cases ed
        obtain ⟨a1, b1⟩ := lt h1
        obtain ⟨a2, b2⟩ := lt h2
        rw [vat_map, List.getElem?_append_left a1] at h3
        rw [vat_map, List.getElem?_append_left a2] at h4
        exact r.sep i j _ _ _ _ l (agsF_o b1) (agsF_o b2) (by rw [vat_map]; exact h3) (by rw [vat_map]; exact h4)
    · intro r
      refine ⟨r.fro, r.frm, r.dis, by rw [agsF_length, hg, List.length_map], fun j y hy => ?_, fun i j t u o o' l h1 h2 h3 h4 => ?_⟩
      · have hj : j < vs.length := by
          have := (List.getElem?_eq_some_iff.mp hy).1
          rw [agsF_length, hg] at this
          exact this
        cases y with
        | un => trivial
        | xv _ _ => exact absurd hy agsF_xv
        | dat d =>
          have z := agsF_dat hy
          obtain ⟨v, a, b⟩ := r.sl j _ (agsF_d (adr := adrOf (vs ++ dv2)) (by rw [List.getElem?_append_left (by omega)]; exact z))
          rw [vat_map, List.getElem?_append_left hj] at a
          exact ⟨v, by rw [vat_map]; exact a, b⟩
        | own t o =>
          obtain ⟨z, rfl⟩ := agsF_own hy
          obtain ⟨l, a, b, c⟩ := r.sl j _ (agsF_o (adr := adrOf (vs ++ dv2)) (by rw [List.getElem?_append_left (by omega)]; exact z))
          rw [vat_map, List.getElem?_append_left hj] at a
          rw [adr j hj] at b
          exact ⟨l, by rw [vat_map]; exact a, b, c⟩
      · have lt : ∀ {i : Nat} {t : Option Addr} {o : Ob}, (agsF (adrOf vs) 0 g)[i]? = some (.own t o) → i < vs.length ∧ g[i]? = some (.o o) := fun {i t o} h => by
          obtain ⟨z, rfl⟩ := agsF_own h
          have := (List.getElem?_eq_some_iff.mp z).1
          exact ⟨by omega, z⟩
        obtain ⟨a1, b1⟩ := lt h1
        obtain ⟨a2, b2⟩ := lt h2
        rw [vat_map] at h3 h4
        refine r.sep i j _ _ _ _ l (agsF_o (by rw [List.getElem?_append_left (by omega)]; exact b1)) (agsF_o (by rw [List.getElem?_append_left (by omega)]; exact b2)) ?_ ?_
        · rw [vat_map, List.getElem?_append_left a1]; exact h3
        · rw [vat_map, List.getElem?_append_left a2]; exact h4
  have pa : ∀ (g : List Ag) (os : List Ob), putO (g ++ dds.map Ag.d) os = putO g os ++ dds.map Ag.d := by
    intro g
    induction g with
    | nil =>
      intro os
      show putO (dds.map Ag.d) os = [] ++ dds.map Ag.d
      rw [List.nil_append]
      exact putO_ds dds os
    | cons x g ih =>
      intro os
      cases x with
      | d y => show Ag.d y :: putO (g ++ dds.map Ag.d) os = _; rw [ih]; rfl
      | o y =>
        cases os with
        | nil => show Ag.o y :: putO (g ++ dds.map Ag.d) [] = _; rw [ih]; rfl
        | cons o os => show Ag.o o :: putO (g ++ dds.map Ag.d) os = _; rw [ih]; rfl
  cases z : F' gs with
  | none => rw [z] at h; exact h.elim
  | some ro =>
    rw [z] at h
    have hg : gs.length = vs.length := hl.symm
    refine ⟨gs ++ dds.map Ag.d, HF, H0, by simp [hl, hdl], (ext gs hg).mp r0, ?_⟩
    rw [hF gs ro z]
    obtain ⟨rt, os⟩ := ro
    cases rt with
    | ret d => exact fun v H' H0' s r dv => h v H' H0' s ((ext _ (by rw [putO_length]; exact hg)).mpr (by rw [← pa]; exact r)) dv
    | exc c fs => exact fun H0' H' d fv s r hd hf => h H0' H' d fv s ((ext _ (by rw [putO_length]; exact hg)).mpr (by rw [← pa]; exact r)) hd hf
end
end DL
set_option maxRecDepth 100000
/-! # DL8: calls of defs, defs with *args. -/
namespace DL
open PySem L2 PyProof.Rows

/-- a written argument: data, or a slot's own object lent -/
inductive Av where
  | v (d : D) | r (i : Nat)
def AvOk (K : PySem.W.Frag) (cm : CM) (H : Hp) (σ : L2.St) : V → Av → Prop
  | v, .v d => Dt K cm H v d
  | v, .r i => vat σ i = some v
def AvsOk (K : PySem.W.Frag) (cm : CM) (H : Hp) (σ : L2.St) : List V → List Av → Prop
  | [], [] => True
  | v :: vs, a :: as => AvOk K cm H σ v a ∧ AvsOk K cm H σ vs as
  | _, _ => False
theorem AvsOk.mono {K : PySem.W.Frag} {cm : CM} {H H' : Hp} {σ : L2.St} (s : Same H H') : ∀ {vs : List V} {as : List Av}, AvsOk K cm H σ vs as → AvsOk K cm H' σ vs as
  | [], [], _ => trivial
  | [], _ :: _, h => h.elim
  | _ :: _, [], h => h.elim
  | _ :: _, .v d :: _, h => ⟨Dt.mono s h.1, AvsOk.mono s h.2⟩
  | _ :: _, .r i :: _, h => ⟨h.1, AvsOk.mono s h.2⟩
theorem AvsOk.length {K : PySem.W.Frag} {cm : CM} {H : Hp} {σ : L2.St} : ∀ {vs : List V} {as : List Av}, AvsOk K cm H σ vs as → vs.length = as.length
  | [], [], _ => rfl
  | [], _ :: _, h => h.elim
  | _ :: _, [], h => h.elim
  | _ :: _, _ :: _, h => congrArg (· + 1) (AvsOk.length h.2)
theorem AvsOk.get {K : PySem.W.Frag} {cm : CM} {H : Hp} {σ : L2.St} : ∀ {vs : List V} {as : List Av} {j : Nat} {a : Av}, AvsOk K cm H σ vs as → as[j]? = some a → ∃ v, vs[j]? = some v ∧ AvOk K cm H σ v a
  | [], [], _, _, _, e => by simp at e
  | [], _ :: _, _, _, h, _ => h.elim
  | _ :: _, [], _, _, h, _ => h.elim
  | v :: vs, a :: as, 0, b, h, e => by simp at e; subst e; exact ⟨v, rfl, h.1⟩
  | v :: vs, a :: as, j + 1, b, h, e => by
    obtain ⟨w, h1, h2⟩ := AvsOk.get (j := j) h.2 (by simpa using e)
    exact ⟨w, by simpa using h1, h2⟩
def tDV (K : PySem.W.Frag) (cm : CM) (W : WX) (f : M (List Av)) : TA := fun σ H Q => ∃ e HF H0, Rl K cm HF H0 H σ e ∧ Post K cm W HF σ H0 (f e) (fun as _ H1 H' => ∀ vs, AvsOk K cm H1 σ vs as → Q vs H')
abbrev DV (X : Cx) (cm : CM) (W : WX) (es : List Expr) (f : M (List Av)) : Prop := PA X es (tDV X.K cm W f)

/-- the arguments as the callee finds them -/
def argG (e : En) : List Av → Option (List Ag)
  | [] => some []
  | .v d :: r => (argG e r).map (.d d :: ·)
  | .r i :: r => match e[i]? with
    | some (.own _ o) => (argG e r).map (.o o :: ·)
    | _ => none
/-- what the callee leaves of the lent ones -/
def putR : En → List Av → List Ob → Option En
  | e, [], [] => some e
  | e, .v _ :: r, os => putR e r os
  | e, .r i :: r, o :: os => match e[i]? with
    | some (.own t _) => putR (e.set i (.own t o)) r os
    | _ => none
  | _, _, _ => none
def refs : List Av → List Nat
  | [] => []
  | .v _ :: r => refs r
  | .r i :: r => i :: refs r
def callM (F : FS) (args : M (List Av)) : M D := args.bnd fun as => fun e =>
  match argG e as with
  | none => .no
  | some gs => if (refs as).Nodup then match F gs with
      | some (.ret d, os) => match putR e as os with
        | some e' => .ok d e'
        | none => .no
      | some (.exc c fs, os) => match putR e as os with
        | some e' => .ex c fs e'
        | none => .no
      | none => .no
    else .no

theorem argG_get {e : En} : ∀ {as : List Av} {gs : List Ag}, argG e as = some gs → as.length = gs.length ∧ ∀ j : Nat, (∀ d, as[j]? = some (.v d) → gs[j]? = some (.d d)) ∧ (∀ i, as[j]? = some (.r i) → ∃ t o, e[i]? = some (.own t o) ∧ gs[j]? = some (.o o)) ∧ (∀ d, gs[j]? = some (.d d) → as[j]? = some (.v d)) ∧ (∀ o, gs[j]? = some (.o o) → ∃ i t, as[j]? = some (.r i) ∧ e[i]? = some (.own t o))
  | [], gs, h => by
    cases h
    exact ⟨rfl, fun j => ⟨fun d h => by simp at h, fun i h => by simp at h, fun d h => by simp at h, fun o h => by simp at h⟩⟩
  | .v d :: r, gs, h => by
    unfold argG at h
    obtain ⟨g', h1, rfl⟩ := Option.map_eq_some_iff.mp h
    obtain ⟨l, k⟩ := argG_get h1
    refine ⟨congrArg (· + 1) l, fun j => ?_⟩
    cases j with
    | zero => exact ⟨fun d' h => by simp at h; subst h; rfl, fun i h => by simp at h, fun d' h => by simp at h; subst h; rfl, fun o h => by simp at h⟩
    | succ j => simpa using k j
  | .r i :: r, gs, h => by
    unfold argG at h
    split at h
    · rename_i t o ho
      obtain ⟨g', h1, rfl⟩ := Option.map_eq_some_iff.mp h
      obtain ⟨l, k⟩ := argG_get h1
      refine ⟨congrArg (· + 1) l, fun j => ?_⟩
      cases j with
      | zero => exact ⟨fun d' h => by simp at h, fun i' h => by simp at h; subst h; exact ⟨t, o, ho, rfl⟩, fun d' h => by simp at h, fun o' h => by simp at h; subst h; exact ⟨i, t, rfl, ho⟩⟩
      | succ j => simpa using k j
    · cases h
theorem mem_refs {as : List Av} {i : Nat} : i ∈ refs as ↔ ∃ j : Nat, as[j]? = some (.r i) := by
  induction as with
  | nil => simp [refs]
  | cons a r ih =>
    cases a with
    | v d =>
      unfold refs
      rw [ih]
      constructor
      · rintro ⟨j, h⟩; exact ⟨j + 1, by simpa using h⟩
      · rintro ⟨j, h⟩
        cases j with
        | zero => simp at h
        | succ j => exact ⟨j, by simpa using h⟩
    | r k =>
      unfold refs
      rw [List.mem_cons, ih]
      constructor
      · rintro (rfl | ⟨j, h⟩)
        · exact ⟨0, rfl⟩
        · exact ⟨j + 1, by simpa using h⟩
      · rintro ⟨j, h⟩
        cases j with
        | zero => simp at h; exact .inl h.symm
        | succ j => exact .inr ⟨j, by simpa using h⟩
theorem refs_inj : ∀ {as : List Av}, (refs as).Nodup → ∀ {j k i : Nat}, as[j]? = some (.r i) → as[k]? = some (.r i) → j = k
  | [], _, j, k, i, h, _ => by simp at h
  | .v d :: r, n, 0, _, i, h, _ => by simp at h
  | .v d :: r, n, _, 0, i, _, h => by simp at h
  | .v d :: r, n, j + 1, k + 1, i, h1, h2 => congrArg (· + 1) (refs_inj (as := r) n (by simpa using h1) (by simpa using h2))
  | .r a :: r, n, 0, 0, i, _, _ => rfl
  | .r a :: r, n, 0, k + 1, i, h1, h2 => by
    simp at h1
    subst h1
    exact absurd (mem_refs.mpr ⟨k, by simpa using h2⟩) (List.nodup_cons.mp n).1
  | .r a :: r, n, j + 1, 0, i, h1, h2 => by
    simp at h2
    subst h2
    exact absurd (mem_refs.mpr ⟨j, by simpa using h1⟩) (List.nodup_cons.mp n).1
  | .r a :: r, n, j + 1, k + 1, i, h1, h2 => congrArg (· + 1) (refs_inj (as := r) (List.nodup_cons.mp n).2 (by simpa using h1) (by simpa using h2))
theorem putR_length : ∀ {e e' : En} {as : List Av} {os : List Ob}, putR e as os = some e' → e'.length = e.length
  | e, e', [], [], h => by cases h; rfl
  | e, e', [], _ :: _, h => by cases h
  | e, e', .v _ :: r, os, h => putR_length (as := r) (os := os) h
  | e, e', .r i :: r, [], h => by cases h
  | e, e', .r i :: r, o :: os, h => by
    unfold putR at h
    split at h
    · have := putR_length h
      rw [List.length_set] at this
      exact this
    · cases h
/-- what stands in a slot behind the call -/
theorem putR_get : ∀ {e e' : En} {as : List Av} {gs : List Ag} {os : List Ob}, putR e as os = some e' → argG e as = some gs → (refs as).Nodup → ∀ {i : Nat} {s : Sl}, e'[i]? = some s →
    (i ∉ refs as ∧ e[i]? = some s) ∨ ∃ (j : Nat) (t : Option Addr) (o o' : Ob), as[j]? = some (.r i) ∧ e[i]? = some (.own t o') ∧ s = .own t o ∧ (putO gs os)[j]? = some (.o o)
  | e, e', [], gs, [], h, hg, _, i, s, hs => by cases h; exact .inl ⟨by simp [refs], hs⟩
  | e, e', [], gs, _ :: _, h, _, _, _, _, _ => by cases h
  | e, e', .v d :: r, gs, os, h, hg, n, i, s, hs => by
    unfold argG at hg
    obtain ⟨g', h1, rfl⟩ := Option.map_eq_some_iff.mp hg
    rcases putR_get (as := r) (os := os) h h1 n hs with q | ⟨j, t, o, o', a, b, c, d⟩
    · exact .inl q
    · exact .inr ⟨j + 1, t, o, o', by simpa using a, b, c, by simpa [putO] using d⟩
  | e, e', .r k :: r, gs, [], h, hg, n, i, s, hs => by cases h
  | e, e', .r k :: r, gs, o :: os, h, hg, n, i, s, hs => by
    unfold putR at h
    unfold argG at hg
    split at h
    case h_2 => cases h
    rename_i t ok hk
    rw [hk] at hg
    obtain ⟨g', h1, rfl⟩ := Option.map_eq_some_iff.mp hg
    have nk : k ∉ refs r := (List.nodup_cons.mp n).1
    -- the arguments behind are those of the slots ahead of the store
    have same : ∀ {l : List Av} {g : List Ag}, (∀ x ∈ refs l, x ≠ k) → argG e l = some g → argG (e.set k (.own t o)) l = some g := by
      intro l
      induction l with
      | nil => intro g _ hg; exact hg
      | cons a l ih =>
        intro g hx hg
        cases a with
        | v d =>
          unfold argG at hg ⊢
          obtain ⟨g2, h2, rfl⟩ := Option.map_eq_some_iff.mp hg
          rw [ih (fun x hm => hx x hm) h2]
          rfl
        | r m =>
          have hm : m ≠ k := hx m (by unfold refs; exact List.mem_cons_self)
          unfold argG at hg ⊢
          rw [List.getElem?_set_ne (Ne.symm hm)]
          split at hg
          · rename_i t2 o2 h2
            obtain ⟨g2, h3, rfl⟩ := Option.map_eq_some_iff.mp hg
            rw [h2]
            dsimp only
            rw [ih (fun x hm => hx x (by unfold refs; exact List.mem_cons_of_mem _ hm)) h3]
            rfl
          · cases hg
    rcases putR_get (as := r) (os := os) h (same (fun x hm z => nk (by rw [← z]; exact hm)) h1) (List.nodup_cons.mp n).2 hs with ⟨q1, q2⟩ | ⟨j, t2, o2, o', a, b, c, d⟩
    · rcases get_set_eq q2 with ⟨rfl, rfl⟩ | ⟨z, q2⟩
      · exact .inr ⟨0, t, o, ok, rfl, hk, rfl, by simp [putO]⟩
      · exact .inl ⟨by unfold refs; simp [z, q1], q2⟩
    · have hi : i ≠ k := fun z => nk (by rw [← z]; exact mem_refs.mpr ⟨j, a⟩)
      rw [List.getElem?_set_ne (Ne.symm hi)] at b
      exact .inr ⟨j + 1, t2, o2, o', by simpa using a, b, c, by simpa [putO] using d⟩

/-- a lent object's place -/
def RefAt (σ : L2.St) (as : List Av) (a : Addr) : Prop := ∃ i ∈ refs as, vat σ i = some (.ref a)
open Classical in
/-- what stands around a callee: all that is neither frozen nor lent -/
noncomputable def frameC (σ : L2.St) (as : List Av) (H0 H : Hp) : Hp := fun a => if RefAt σ as a ∨ (H0 a).isSome = true then none else H a
section
variable {K : PySem.W.Frag} {cm : CM} {HF H0 H0' H H' : Hp} {σ : L2.St} {e e' : En} {as : List Av} {gs : List Ag} {os : List Ob} {vs : List V}
theorem Rl.enter (r : Rl K cm HF H0 H σ e) (hg : argG e as = some gs) (hn : (refs as).Nodup) (ha : AvsOk K cm H0 σ vs as) : vs.length = gs.length ∧ Rl K cm (frameC σ as H0 H) H0 H (vs.map some) (agsF (adrOf vs) 0 gs) := by
  obtain ⟨hl, hk⟩ := argG_get hg
  have hvl : vs.length = gs.length := ha.length.trans hl
  have own : ∀ {j : Nat} {t : Option Addr} {o : Ob}, (agsF (adrOf vs) 0 gs)[j]? = some (.own t o) → ∃ i t' l, as[j]? = some (.r i) ∧ e[i]? = some (.own t' o) ∧ vs[j]? = some (.ref l) ∧ vat σ i = some (.ref l) ∧ t = some l := fun {j t o} h => by
    obtain ⟨h1, rfl⟩ := agsF_own h
    obtain ⟨i, t', h2, h3⟩ := (hk j).2.2.2 o h1
    obtain ⟨v, hv, av⟩ := ha.get h2
    obtain ⟨l, hl, _⟩ := r.sl i _ h3
    have av : vat σ i = some v := av
    rw [hl] at av
    cases av
    refine ⟨i, t', l, h2, h3, hv, hl, ?_⟩
    unfold adrOf
    rw [hv]
  refine ⟨hvl, ⟨r.fro, fun a o h => ?_, fun a o h => ?_, by rw [agsF_length, List.length_map, hvl], fun j s hs => ?_, fun i j t u o o' l h1 h2 h3 h4 => ?_⟩⟩
  · unfold frameC at h
    split at h
    · cases h
    · exact h
  · unfold frameC at h
    split at h
    · cases h
    · rename_i q
      cases z : H0 a with
      | none => rfl
      | some u => exact absurd (.inr (by rw [z]; rfl)) q
  · cases s with
    | un => trivial
    | xv _ _ => exact absurd hs agsF_xv
    | dat d =>
      have h1 := (hk j).2.2.1 d (agsF_dat hs)
      obtain ⟨v, hv, av⟩ := ha.get h1
      exact ⟨v, by rw [vat_map]; exact hv, av⟩
    | own t o =>
      obtain ⟨i, t', l, h1, h2, h3, h4, rfl⟩ := own hs
      obtain ⟨l2, hl2, _, c, d, ob⟩ := r.sl i _ h2
      rw [h4] at hl2
      cases hl2
      refine ⟨l, by rw [vat_map]; exact h3, fun a z => by cases z; rfl, c, ?_, ob⟩
      unfold frameC
      rw [if_pos (.inl ⟨i, mem_refs.mpr ⟨j, h1⟩, h4⟩)]
  · obtain ⟨i1, t1, l1, a1, b1, c1, d1, _⟩ := own h1
    obtain ⟨i2, t2, l2, a2, b2, c2, d2, _⟩ := own h2
    rw [vat_map, c1] at h3
    rw [vat_map, c2] at h4
    cases h3
    cases h4
    have q := r.sep i1 i2 _ _ _ _ l b1 b2 d1 d2
    subst q
    exact refs_inj hn a1 a2
theorem Rl.leave (r : Rl K cm HF H0 H σ e) (hg : argG e as = some gs) (hn : (refs as).Nodup) (ha : AvsOk K cm H0 σ vs as) (s : Same H0 H0') (r' : Rl K cm (frameC σ as H0 H) H0' H' (vs.map some) (agsF (adrOf vs) 0 (putO gs os))) (hp : putR e as os = some e') :
    Rl K cm HF H0' H' σ e' := by
  obtain ⟨hl, hk⟩ := argG_get hg
  -- what is neither frozen nor lent is as it was
  have keep : ∀ {a : Addr} {u : HO}, ¬ RefAt σ as a → H0 a = none → H a = some u → H' a = some u ∧ H0' a = none := fun {a u} h1 h2 h3 => by
    have q : frameC σ as H0 H a = some u := by
      unfold frameC
      rw [if_neg]
      · exact h3
      · rintro (z | z)
        · exact h1 z
        · rw [h2] at z; cases z
    exact ⟨r'.frm _ _ q, r'.dis _ _ q⟩
  have apart : ∀ {i : Nat} {t : Option Addr} {o : Ob} {l : Addr}, e[i]? = some (.own t o) → vat σ i = some (.ref l) → i ∉ refs as → ¬ RefAt σ as l := fun {i t o l} h1 h2 h3 => by
    rintro ⟨i2, hm, hv⟩
    obtain ⟨j, hj⟩ := mem_refs.mp hm
    obtain ⟨t2, o2, h4, _⟩ := (hk j).2.1 i2 hj
    have := r.sep i i2 _ _ _ _ l h1 h4 h2 hv
    subst this
    exact h3 hm
  have fr : ∀ {a : Addr} {o : HO}, HF a = some o → ¬ RefAt σ as a := fun {a o} h => by
    rintro ⟨i2, hm, hv⟩
    obtain ⟨j, hj⟩ := mem_refs.mp hm
    obtain ⟨t2, o2, h4, _⟩ := (hk j).2.1 i2 hj
    obtain ⟨l, hl, _, _, hf, _⟩ := r.sl i2 _ h4
    rw [hv] at hl
    cases hl
    rw [hf] at h
    cases h
  -- an own slot behind the call
  have own : ∀ {i : Nat} {t : Option Addr} {o : Ob}, e'[i]? = some (.own t o) → ∃ o0, e[i]? = some (.own t o0) := fun {i t o} h => by
    rcases putR_get hp hg hn h with ⟨_, q⟩ | ⟨j, t2, o2, o3, a, b, c, d⟩
    · exact ⟨o, q⟩
    · cases c; exact ⟨_, b⟩
  refine ⟨r'.fro, fun a o h => (keep (fr h) (r.dis a o h) (r.frm a o h)).1, fun a o h => (keep (fr h) (r.dis a o h) (r.frm a o h)).2, by rw [putR_length hp, r.len], fun i x hx => ?_, fun i j t u o o' l h1 h2 h3 h4 => ?_⟩
  · rcases putR_get hp hg hn hx with ⟨q1, q2⟩ | ⟨j, t, o, o', a, b, rfl, d⟩
    · have z := r.sl i x q2
      cases x with
      | un => trivial
      | xv _ _ => exact z.mono (Same.refl _) s
      | dat d =>
        obtain ⟨v, a, b⟩ := z
        exact ⟨v, a, b.mono s⟩
      | own t o =>
        obtain ⟨l, a, b, c, d, ob⟩ := z
        obtain ⟨u, hu⟩ := ob.there
        obtain ⟨k1, k2⟩ := keep (apart q2 a q1) c hu
        exact ⟨l, a, b, k2, d, ob.mono s (k1.trans hu.symm)⟩
    · obtain ⟨l, hl, tg, c, f, ob⟩ := r.sl i _ b
      obtain ⟨v, hv, av⟩ := ha.get a
      have av : vat σ i = some v := av
      rw [hl] at av
      cases av
      obtain ⟨l2, hl2, tg2, c2, _, ob2⟩ := r'.sl j _ (agsF_o (adr := adrOf vs) d)
      rw [vat_map, hv] at hl2
      cases hl2
      exact ⟨l, hl, tg, c2, f, ob2⟩
  · obtain ⟨_, g1⟩ := own h1
    obtain ⟨_, g2⟩ := own h2
    exact r.sep i j _ _ _ _ l g1 g2 h3 h4
end

section
variable {X : Cx} {cm : CM} {W : WX} {a b c : Expr} {es : List Expr} {fa fb : M D} {pos p : Pos} {x : Str} {k j : Nat} {f : Addr} {F : FS} {fs : M (List Av)}
theorem dv_nil : DV X cm W [] (M.ret []) := PA.impI pa_nil fun σ H Q l q => by
  obtain ⟨e, HF, H0, rl, p⟩ := q
  exact p H0 H (Same.refl _) rl [] trivial
def consV (m : M D) (n : M (List Av)) : M (List Av) := m.bnd fun d => n.bnd fun ds => M.ret (.v d :: ds)
theorem dv_cons (ha : DE X cm W a fa) (hr : DV X cm W es fs) (hs : starEach (a :: es) X.env = (false, eval a X.env) :: starEach es X.env := by rfl) : DV X cm W (a :: es) (consV fa fs) := by
  refine PA.impI (pa_cons ha hr hs) fun σ H Q l q => ?_
  obtain ⟨e, HF, H0, rl, p⟩ := q
  refine ⟨e, HF, H0, rl, p.bnd.imp fun d e1 H1 H' s1 r1 p1 v dv => ?_⟩
  refine ⟨e1, HF, H1, r1, p1.bnd.imp fun ds e2 H2 H'' s2 r2 p2 vs dvs => ?_⟩
  exact p2 H2 H'' (Same.refl _) r2 (v :: vs) ⟨dv.mono s2, dvs⟩
/-- a slot's own object is lent -/
def refV (i : Nat) (n : M (List Av)) : M (List Av) := fun e => match e[i]? with
  | some (.own _ _) => (n.bnd fun ds => M.ret (.r i :: ds)) e
  | _ => .no
theorem dv_ref (i : Nat) (hr : DV X cm W es fs) (hN : X.N[i]? = some x := by rfl) (hv : Vis X.env.scope x := by first | exact Or.inl rfl | exact Or.inr (Or.inl rfl) | exact Or.inr (Or.inr rfl)) (hd : (x == ("__debug__" : Str)) = false := by decide)
    (hcd : (x == ("__classdict__" : Str)) = false := by decide) (hs : starEach (.Name x p :: es) X.env = (false, eval (.Name x p) X.env) :: starEach es X.env := by rfl) : DV X cm W (.Name x p :: es) (refV i fs) := by
  refine PA.impI (pa_cons (pe_var hN hv hd hcd) hr hs) fun σ H Q l q => ?_
  obtain ⟨e, HF, H0, rl, p⟩ := q
  unfold refV at p
  split at p
  · rename_i t o h
    obtain ⟨l', hl, _⟩ := rl.own h
    refine ⟨.ref l', hl, e, HF, H0, rl, p.bnd.imp fun ds e2 H2 H'' s2 r2 p2 vs dvs => ?_⟩
    exact p2 H2 H'' (Same.refl _) r2 (.ref l' :: vs) ⟨vat_of hl, dvs⟩
  · exact p.elim
theorem run_fnRS {pins : List (Addr × Obj)} {σ : L2.St} {H : Hp} {s : Shared} {sp : Sp} {E : XK} {Q : VK} {us : List Value} {vs : List V} (G : FnR X.prog X.w X.K X.mg X.base (L2.CX X.prog X.w) k f sp) (hr : Room k X.A) (hx : PassesAt (L2.CX X.prog X.w) X σ E) (I : Inv X pins σ H s) (r : Vals vs us) (h : sp vs H Q E) :
    wpAny (model X.prog X.w) X.A (call (.ref f) us) (EP X pins σ Q) X.xe s := by
  refine wpAny_call (codeAny_mono (G X.A X.stack s H us vs Q E hr I.env0 r h) fun r s' hq => ?_)
  cases r with
  | error e => exact hx pins H s e s' I hq
  | ok fl =>
    cases fl with
    | ret u => exact I.after hq
    | next => exact False.elim hq
    | brk => exact False.elim hq
    | cont => exact False.elim hq
/-- behind the arguments: the promise of the callee -/
theorem call_sp {K : PySem.W.Frag} {HF H1 H' : Hp} {σ : L2.St} {e1 : En} {as : List Av} {vs : List V} {Q : VK} (r1 : Rl K cm HF H1 H' σ e1) (ha : AvsOk K cm H1 σ vs as)
    (p : Post K cm W HF σ H1 (match argG e1 as with
      | none => R.no
      | some gs => if (refs as).Nodup then match F gs with
          | some (.ret d, os) => match putR e1 as os with
            | some e' => R.ok d e'
            | none => R.no
          | some (.exc c fs, os) => match putR e1 as os with
            | some e' => R.ex c fs e'
            | none => R.no
          | none => R.no
        else R.no) (fun d _ H1 H' => ∀ v, Dt K cm H1 v d → Q v H')) : spD K cm F vs H' Q (WE W σ) := by
  split at p
  · exact p.elim
  rename_i gs hg
  split at p
  case isFalse => exact p.elim
  rename_i hn
  obtain ⟨hl, re⟩ := r1.enter hg hn ha
  refine ⟨gs, _, H1, hl, re, ?_⟩
  cases q : F gs with
  | none => rw [q] at p; exact p.elim
  | some ro =>
    obtain ⟨rt, os⟩ := ro
    rw [q] at p
    cases rt with
    | ret d =>
      dsimp only at p
      split at p
      · rename_i e' hp
        exact fun v H2 H0' s r' dv => p H0' H2 s (r1.leave hg hn ha s r' hp) v dv
      · exact p.elim
    | exc c fs =>
      dsimp only at p
      split at p
      · rename_i e' hp
        exact fun H0' H2 d fv s r' hd hf => p H0' H2 d fv s (r1.leave hg hn ha s r' hp) hd hf
      · exact p.elim
/-- f(e, ..) -/
theorem de_call (G : DFn X.prog X.w X.K X.mg X.base cm j f F) (tk : Takes X W) (hr : Room k X.A) (hjk : j ≤ k) (hm : X.mg x = some (.ref f)) (hk : PySem.W.keepIn X.K (.ref f) = true) (ha : DV X cm W (a :: es) fs) (hg : Gl X x := by rfl) (hdb : (x == ("__debug__" : Str)) = false := by decide)
    (he : starEach (a :: es) X.env = (false, eval a X.env) :: starEach es X.env := by rfl) (hpl : (backTo pos (starEach es X.env)).any (·.1) = false := by rfl) : DE X cm W (.Call (.Name x p) (a :: es) [] pos) (callM F fs) := by
  refine ⟨fun pins s σ H Q I h => ?_⟩
  obtain ⟨e, HF, H0, rl, p⟩ := h
  refine wpAny_Call_Name_kw (ld_glob I hg hm ?_ hdb)
  refine PySem.W.callWith_K (h₀ := X.base) I.ok.mod.kin hk (thn (ha.run pos pins s σ H (fun vs H' => spD X.K cm F vs H' Q (WE W σ)) I ⟨e, HF, H0, rl, p.bnd.imp fun as e1 H1 H' s1 r1 p1 vs hvs => call_sp r1 hvs p1⟩) fun us s1 ⟨vs, H1, I1, r, q⟩ => ⟨I1.kIn, ?_⟩) he hpl
  exact run_fnRS G (hr.mono hjk) (passAt tk σ) I1 r q
/-- f() -/
theorem de_call0 (G : DFn X.prog X.w X.K X.mg X.base cm j f F) (tk : Takes X W) (hr : Room k X.A) (hjk : j ≤ k) (hm : X.mg x = some (.ref f)) (hk : PySem.W.keepIn X.K (.ref f) = true) (hg : Gl X x := by rfl) (hdb : (x == ("__debug__" : Str)) = false := by decide) :
    DE X cm W (.Call (.Name x p) [] [] pos) (callM F (M.ret [])) := by
  refine ⟨fun pins s σ H Q I h => ?_⟩
  obtain ⟨e, HF, H0, rl, p⟩ := h
  refine wpAny_Call_Name_kw (ld_glob I hg hm ?_ hdb)
  exact PySem.W.callWith_K0 I.kIn hk (run_fnRS (us := []) G (hr.mono hjk) (passAt tk σ) I .nil (call_sp (as := []) rl trivial (p.bnd H0 H (Same.refl _) rl)))
end

/-! ### def f(*v) -/
section
variable {P : Program} {w : World} {K : PySem.W.Frag} {mg : Str → Option Value} {base : Heap} {cm : CM}
def datas : List Ag → Option (List D)
  | [] => some []
  | .d d :: r => (datas r).map (d :: ·)
  | .o _ :: _ => none
theorem datas_get : ∀ {gs : List Ag} {ds : List D}, datas gs = some ds → gs = ds.map Ag.d
  | [], ds, h => by cases h; rfl
  | .d d :: r, ds, h => by
    unfold datas at h
    obtain ⟨d', h1, rfl⟩ := Option.map_eq_some_iff.mp h
    rw [datas_get h1]
    rfl
  | .o _ :: _, _, h => by cases h
theorem Rl.datas {HF H0 H : Hp} {vs : List V} {ds : List D} (r : Rl K cm HF H0 H (vs.map some) (agsF (adrOf vs) 0 (ds.map Ag.d))) : Dts K cm H0 vs ds := by
  have hl : vs.length = ds.length := by
    have := r.len
    rw [agsF_length, List.length_map, List.length_map] at this
    exact this.symm
  have : ∀ (vs : List V) (ds : List D), vs.length = ds.length → (∀ (j : Nat) (d : D), ds[j]? = some d → ∃ v, vs[j]? = some v ∧ Dt K cm H0 v d) → Dts K cm H0 vs ds := by
    intro vs
    induction vs with
    | nil => intro ds hl h; cases ds with | nil => exact .nil | cons _ _ => cases hl
    | cons v vs ih =>
      intro ds hl h
      cases ds with
      | nil => cases hl
      | cons d ds =>
        obtain ⟨v', h1, h2⟩ := h 0 d rfl
        simp at h1
        subst h1
        exact .cons h2 (ih ds (by simpa using hl) fun j d hd => by simpa using h (j + 1) d (by simpa using hd))
  refine this vs ds hl fun j d hd => ?_
  obtain ⟨v, a, b⟩ := r.sl j _ (agsF_d (adr := adrOf vs) (gs := ds.map Ag.d) (by rw [List.getElem?_map, hd]; rfl))
  rw [vat_map] at a
  exact ⟨v, a, b⟩
theorem Rl.ofDatas {HF H0 H : Hp} {vs : List V} {ds : List D} (hd : Dts K cm H0 vs ds) (fro : Same H0 H) (frm : Same HF H) (dis : ∀ a o, HF a = some o → H0 a = none) : Rl K cm HF H0 H (vs.map some) (agsF (adrOf vs) 0 (ds.map Ag.d)) := by
  have nown : ∀ {i : Nat} {t : Option Addr} {o : Ob}, (agsF (adrOf vs) 0 (ds.map Ag.d))[i]? = some (.own t o) → False := fun {i t o} h => by
    obtain ⟨z, _⟩ := agsF_own h
    rw [List.getElem?_map] at z
    obtain ⟨_, _, q⟩ := Option.map_eq_some_iff.mp z
    cases q
  refine ⟨fro, frm, dis, by rw [agsF_length, List.length_map, List.length_map, hd.length], fun j s hs => ?_, fun i j t u o o' l h1 => (nown h1).elim⟩
  cases s with
  | un => trivial
  | xv _ _ => exact absurd hs agsF_xv
  | dat d =>
    have z := agsF_dat hs
    rw [List.getElem?_map] at z
    obtain ⟨d', h1, q⟩ := Option.map_eq_some_iff.mp z
    cases q
    obtain ⟨v, hv, dv⟩ := hd.getD h1
    exact ⟨v, by rw [vat_map]; exact hv, dv⟩
  | own t o => exact (nown hs).elim
/-- THE RULE for def f(*v): F is told of the one tuple -/
theorem dfn_star {x qual : Str} {st : Stmt} {f : Addr} {fd : FuncData} {N : List Str} {pv : Str} {k : Nat} {F : FS} {m : M Fl} (Fu : Fun K x qual st f fd) (S : FnScope N [pv] (defScope st))
    (hb : ∀ (kV doc pm : Value) (an : Option Addr) (cdv ct : Value) (rest : List Value), bindArgs (PySem.W.fnOf x qual (defArgs st) (defBody st) (defScope st) .none kV doc pm an cdv ct) ⟨rest, []⟩ = (newTuple rest >>= fun t => pure [(pv, t)]))
    (hlen : ∀ gs r, F gs = some r → gs.length = 1)
    (hbody : ∀ (cdv : Value) (A : Around) (outer : List Env) (s : Shared) (H : Hp) (E : XK), Room k (A.deeper (envOfC qual (defScope st) s.heap.objs.size f cdv)) → Takes (bodyX P w K mg base N qual (defScope st) f cdv A outer s H E) (fun cls d _ H => E cls d H) →
      DSs (bodyX P w K mg base N qual (defScope st) f cdv A outer s H E) cm (fun cls d _ H => E cls d H) (defBody st) m) (hd : Does m N.length F) :
    DFn P w K mg base cm (k + 1) f (fun gs => match datas gs with | some ds => if ds.length ≤ sizeLine then F [.d (.tup ds)] else none | none => none) := by
  obtain ⟨oc, od, kV, doc, pm, an, cdv, ct, osl, rfl, lk, hcd⟩ := Fu.ex
  have hN : 1 ≤ N.length := by have := congrArg List.length S.pre; rw [List.length_take] at this; simp at this; omega
  have hlen' : ∀ vs H Q E, spD K cm F vs H Q E → vs.length = 1 := fun vs H Q E h => by
    obtain ⟨gs, HF, H0, hl, r0, h⟩ := h
    cases q : F gs with
    | none => rw [q] at h; exact h.elim
    | some ro => rw [hl, hlen gs ro q]
  refine FnR.imp (StX.fn_star (ps := []) (sp := spD K cm F) lk hcd S StX.cxUp (fun us rest hu => ?_) fun A outer s H vs Q E hr h => ⟨_, hbody cdv A outer s H E hr (takes_of rfl rfl rfl rfl), does_read hd (by rw [hlen' _ _ _ _ h]; exact hN) h⟩) fun vs H Q E h => ?_
  · cases us with
    | nil => exact hb _ _ _ _ _ _ rest
    | cons _ _ => cases hu
  · obtain ⟨gs, HF, H0, hl, r0, h⟩ := h
    dsimp only at h
    cases hds : datas gs with
    | none => rw [hds] at h; exact h.elim
    | some ds =>
    rw [hds] at h
    dsimp only at h
    split at h
    case h_3 z => exact h.elim
    all_goals
      rename_i z
      split at z
      case isFalse => cases z
      rename_i hsz
      have eg := datas_get hds
      subst eg
      have dd := r0.datas
      refine ⟨[], vs, rfl, rfl, by rw [dd.length]; exact hsz, fun p hp => ?_⟩
      have h0 : H0 p = none := r0.fro.free hp
      have hf : HF p = none := r0.frm.free hp
      have s0 : Same H0 (upd H0 p (.tup vs)) := fun b o q => by rw [upd_ne (ne_of_none q h0)]; exact q
      have back : ∀ {H0' H' : Hp} {os : List Ob}, Same (upd H0 p (.tup vs)) H0' → Rl K cm HF H0' H' (([] ++ [V.ref p]).map some) (agsF (adrOf ([] ++ [V.ref p])) 0 (putO [.d (.tup ds)] os)) → Rl K cm HF H0' H' (vs.map some) (agsF (adrOf vs) 0 (putO (ds.map Ag.d) os)) := fun {H0' H' os} s r => by
        rw [putO_ds]
        exact Rl.ofDatas (dd.mono (s0.trans s)) r.fro r.frm r.dis
      refine ⟨[.d (.tup ds)], HF, upd H0 p (.tup vs), rfl, ?_, ?_⟩
      · refine Rl.ofDatas (vs := [V.ref p]) (ds := [.tup ds]) (.cons (.tup (SqT.of upd_same) (dd.mono s0)) .nil) (fun b o q => ?_) (fun b o q => ?_) (fun a o q => ?_)
        · by_cases w : b = p
          · subst w; rw [upd_same] at q ⊢; exact q
          · rw [upd_ne w] at q ⊢; exact r0.fro b o q
        · rw [upd_ne (ne_of_none q hf)]; exact r0.frm b o q
        · rw [upd_ne (ne_of_none q hf)]; exact r0.dis a o q
      · rw [z]
        first
          | exact fun v H' H0' s r dv => h v H' H0' (s0.trans s) (back s r) dv
          | exact fun H0' H' d fv s r hd hf => h H0' H' d fv (s0.trans s) (back s r) hd hf
end
end DL
set_option maxRecDepth 100000
/-! # DL9: built-ins on data. -/
namespace DL
open PySem L2 PyProof.Rows

/-- a built-in's rule does f on the arguments' data -/
def CalD (K : PySem.W.Frag) (cm : CM) (r : List V → Hp → VK → Prop) (f : List D → Option D) : Prop :=
  ∀ (HF H0 H : Hp) (σ : L2.St) (e : En) (vs : List V) (ds : List D) (c : D) (Q : VK), Lens K H → Rl K cm HF H0 H σ e → Dts K cm H0 vs ds → f ds = some c →
    (∀ H1 H' v, Same H0 H1 → Rl K cm HF H1 H' σ e → Dt K cm H1 v c → Q v H') → r vs H Q
structure CalX (X : Cx) (cm : CM) (g : Value) (f : List D → Option D) : Prop where
  ex : ∃ r, CallR X g r ∧ CalD X.K cm r f
theorem CalX.or {X : Cx} {cm : CM} {g : Value} {f f1 f2 : List D → Option D} (h1 : CalX X cm g f1) (h2 : CalX X cm g f2) (hf : ∀ ds c, f ds = some c → f1 ds = some c ∨ f2 ds = some c) : CalX X cm g f := by
  obtain ⟨r1, a1, b1⟩ := h1.ex
  obtain ⟨r2, a2, b2⟩ := h2.ex
  refine ⟨_, CallR.or a1 a2, fun HF H0 H σ e vs ds c Q l rl dv z q => ?_⟩
  rcases hf ds c z with w | w
  · exact .inl (b1 HF H0 H σ e vs ds c Q l rl dv w q)
  · exact .inr (b2 HF H0 H σ e vs ds c Q l rl dv w q)
def bltM (f : List D → Option D) (fs : M (List D)) : M D := fs.bnd fun ds => M.opt (f ds)
section
variable {X : Cx} {cm : CM} {W : WX} {a b c : Expr} {es : List Expr} {fa fb : M D} {pos p : Pos} {x : Str} {fs : M (List D)} {bid T : String} {f : List D → Option D}
theorem callI {g : Value} {r : List V → Hp → VK → Prop} (h : CallR X g r) : CallR X g (fun vs H Q => Lens X.K H → r vs H Q) := fun pins s σ H xs us Q I r q => h pins s σ H xs us Q I r (q (Inv.lens I))
theorem blt_read {r : List V → Hp → VK → Prop} {t : TA} (h2 : CalD X.K cm r f) {σ : L2.St} {H : Hp} {Q : VK} {e : En} {HF H0 : Hp} (rl : Rl X.K cm HF H0 H σ e) (p : Post X.K cm W HF σ H0 (bltM f fs e) (fun d _ H1 H' => ∀ v, Dt X.K cm H1 v d → Q v H')) :
    tDA X.K cm W fs σ H fun vs H1 => Lens X.K H1 → r vs H1 Q :=
  ⟨e, HF, H0, rl, p.bnd.imp fun ds e1 H1 H' s1 r1 p1 vs dvs l => by
    obtain ⟨d, hd, q⟩ := p1.opt r1
    exact h2 HF H1 H' σ e1 vs ds d Q l r1 dvs hd fun H2 H'' v s2 r2 dv => q H2 H'' s2 r2 v dv⟩
theorem de_callB (hc : CalX X cm (.builtin bid) f) (hm : X.mg x = none) (hv : bootBuiltins x = some (.builtin bid)) (ha : DA X cm W (a :: es) fs) (hg : Gl X x := by rfl) (hn : x ≠ "__name__" := by decide) (hdb : (x == ("__debug__" : Str)) = false := by decide)
    (he : starEach (a :: es) X.env = (false, eval a X.env) :: starEach es X.env := by rfl) (hpl : (backTo pos (starEach es X.env)).any (·.1) = false := by rfl) : DE X cm W (.Call (.Name x p) (a :: es) [] pos) (bltM f fs) := by
  obtain ⟨r, h1, h2⟩ := hc.ex
  refine PE.impI (pe_callB (callI h1) hg hm hv ha hn hdb he hpl) fun σ H Q l h => ?_
  obtain ⟨e, HF, H0, rl, p⟩ := h
  exact blt_read (t := tNil) h2 rl p
theorem de_callTy (hc : CalX X cm (.type T) f) (hm : X.mg x = none) (hv : bootBuiltins x = some (.type T)) (ha : DA X cm W (a :: es) fs) (hg : Gl X x := by rfl) (hn : x ≠ "__name__" := by decide) (hdb : (x == ("__debug__" : Str)) = false := by decide)
    (he : starEach (a :: es) X.env = (false, eval a X.env) :: starEach es X.env := by rfl) (hpl : (backTo pos (starEach es X.env)).any (·.1) = false := by rfl) : DE X cm W (.Call (.Name x p) (a :: es) [] pos) (bltM f fs) := by
  obtain ⟨r, h1, h2⟩ := hc.ex
  refine PE.impI (pe_callTy (callI h1) hg hm hv ha hn hdb he hpl) fun σ H Q l h => ?_
  obtain ⟨e, HF, H0, rl, p⟩ := h
  exact blt_read (t := tNil) h2 rl p

def lenD : List D → Option D
  | [.lst xs] => some (.int xs.length)
  | [.tup xs] => some (.int xs.length)
  | [.str s] => if s.length ≤ sizeLine then some (.int s.length) else none
  | _ => none
theorem Dts.one {K : PySem.W.Frag} {H : Hp} {vs : List V} {d : D} (h : Dts K cm H vs [d]) : ∃ v, vs = [v] ∧ Dt K cm H v d := by
  cases h with
  | cons h1 h2 =>
  cases h2
  exact ⟨_, rfl, h1⟩
theorem Dts.two {K : PySem.W.Frag} {H : Hp} {vs : List V} {d d' : D} (h : Dts K cm H vs [d, d']) : ∃ v w, vs = [v, w] ∧ Dt K cm H v d ∧ Dt K cm H w d' := by
  cases h with
  | cons h1 h2 =>
  obtain ⟨w, rfl, hw⟩ := h2.one
  exact ⟨_, _, rfl, h1, hw⟩
theorem cx_len : CalX X cm (.builtin "len") lenD := by
  refine ⟨_, call_len, fun HF H0 H σ e vs ds c Q l rl dv z q => ?_⟩
  unfold lenD at z
  split at z
  · cases z
    obtain ⟨v, rfl, dw⟩ := dv.one
    cases dw with
    | lst h1 d1 => exact ⟨_, _, rfl, .inl ⟨_, SqL.of (rl.fro _ _ h1), rfl⟩, by rw [d1.length]; exact q H0 H _ (Same.refl _) rl (.int _)⟩
  · cases z
    obtain ⟨v, rfl, dw⟩ := dv.one
    cases dw with
    | tup h1 d1 => exact ⟨_, _, rfl, .inr ⟨_, seqT rl.fro h1, rfl⟩, by rw [d1.length]; exact q H0 H _ (Same.refl _) rl (.int _)⟩
  · split at z
    · rename_i hl
      cases z
      obtain ⟨v, rfl, dw⟩ := dv.one
      cases dw
      exact ⟨_, _, rfl, ⟨hl, rfl⟩, q H0 H _ (Same.refl _) rl (.int _)⟩
    · cases z
  · cases z
def absD : List D → Option D
  | [.int i] => some (.int (if i < 0 then -i else i))
  | _ => none
theorem cx_abs : CalX X cm (.builtin "abs") absD := by
  refine ⟨_, call_abs, fun HF H0 H σ e vs ds c Q l rl dv z q => ?_⟩
  unfold absD at z
  split at z
  · cases z
    obtain ⟨v, rfl, dw⟩ := dv.one
    cases dw
    exact ⟨_, rfl, q H0 H _ (Same.refl _) rl (.int _)⟩
  · cases z
def intD : List D → Option D
  | [.int i] => some (.int i)
  | [.bl k] => some (.int (if k then 1 else 0))
  | [.str s] => if s.length ≤ 640 then (PySem.intText? s).map D.int else none
  | _ => none
def intD1 : List D → Option D
  | [.int i] => some (.int i)
  | [.bl k] => some (.int (if k then 1 else 0))
  | _ => none
def intD2 : List D → Option D
  | [.str s] => if s.length ≤ 640 then (PySem.intText? s).map D.int else none
  | _ => none
theorem cx_int : CalX X cm (.type "int") intD := by
  refine CalX.or (f1 := intD1) (f2 := intD2) ⟨_, call_int1, fun HF H0 H σ e vs ds c Q l rl dv z q => ?_⟩ ⟨_, call_int_str, fun HF H0 H σ e vs ds c Q l rl dv z q => ?_⟩ ?_
  · unfold intD1 at z
    split at z
    · cases z
      obtain ⟨v, rfl, dw⟩ := dv.one
      cases dw
      exact .inl ⟨_, rfl, q H0 H _ (Same.refl _) rl (.int _)⟩
    · cases z
      obtain ⟨v, rfl, dw⟩ := dv.one
      cases dw
      exact .inr ⟨_, rfl, q H0 H _ (Same.refl _) rl (.int _)⟩
    · cases z
  · unfold intD2 at z
    split at z
    · split at z
      · rename_i hl
        obtain ⟨n, hn, rfl⟩ := Option.map_eq_some_iff.mp z
        obtain ⟨v, rfl, dw⟩ := dv.one
        cases dw
        exact ⟨_, n, rfl, hn, hl, q H0 H _ (Same.refl _) rl (.int _)⟩
      · cases z
    · cases z
  · intro ds c z
    unfold intD at z
    split at z
    · exact .inl z
    · exact .inl z
    · exact .inr z
    · cases z
def strD : List D → Option D
  | [.int i] => if i.natAbs.log2 < 1920 then some (.str (toString i)) else none
  | _ => none
theorem cx_str : CalX X cm (.type "str") strD := by
  refine ⟨_, call_str_int, fun HF H0 H σ e vs ds c Q l rl dv z q => ?_⟩
  unfold strD at z
  split at z
  · split at z
    · rename_i hl
      cases z
      obtain ⟨v, rfl, dw⟩ := dv.one
      cases dw
      exact ⟨_, rfl, hl, q H0 H _ (Same.refl _) rl (.str _)⟩
    · cases z
  · cases z
def tupD : List D → Option D
  | [.lst xs] => some (.tup xs)
  | [.tup xs] => some (.tup xs)
  | _ => none
theorem cx_tuple : CalX X cm (.type "tuple") tupD := by
  refine ⟨_, call_tuple_of, fun HF H0 H σ e vs ds c Q l rl dv z q => ?_⟩
  unfold tupD at z
  split at z
  · cases z
    obtain ⟨v, rfl, dw⟩ := dv.one
    cases dw with
    | lst h1 d1 =>
      refine ⟨_, _, rfl, .inl ⟨SqL.of (rl.fro _ _ h1), fun p hp => ?_⟩⟩
      obtain ⟨r2, s2⟩ := rl.laid hp (.tup _)
      exact q _ _ _ s2 r2 (.tup (SqT.of upd_same) (d1.mono s2))
  · cases z
    obtain ⟨v, rfl, dw⟩ := dv.one
    cases dw with
    | tup h1 d1 => exact ⟨_, _, rfl, .inr ⟨seqT rl.fro h1, q H0 H _ (Same.refl _) rl (.tup h1 d1)⟩⟩
  · cases z
/-- list(x): a fresh list -/
def listM (m : M D) : M Ob := m.bnd fun d => M.opt ((seqOf d).map Ob.lst)
theorem df_list (hm : X.mg "list" = none) (ha : DE X cm W a fa) (hg : Gl X "list" := by rfl) (he : starEach [a] X.env = (false, eval a X.env) :: starEach [] X.env := by rfl) (hpl : (backTo pos (starEach [] X.env)).any (·.1) = false := by rfl) :
    DF X cm W (.Call (.Name "list" p) [a] [] pos) (listM fa) := by
  refine PE.impI (pe_callTy call_list_of hg hm (by decide +kernel) (pa_cons ha pa_nil he) (by decide) (by decide) he hpl) fun σ H Q l h => ?_
  obtain ⟨e, HF, H0, rl, p⟩ := h
  refine ⟨e, HF, H0, rl, p.bnd.imp fun d e1 H1 H' s1 r1 p1 v dv => ?_⟩
  obtain ⟨o, ho, q⟩ := p1.opt r1
  obtain ⟨xs, hx, rfl⟩ := Option.map_eq_some_iff.mp ho
  unfold seqOf at hx
  split at hx
  · cases hx
    cases dv with
    | lst h1 d1 =>
      refine ⟨_, _, rfl, .inl (SqL.of (r1.fro _ _ h1)), fun p hp => ?_⟩
      obtain ⟨r2, f2⟩ := r1.freshL hp d1
      exact q H1 _ (Same.refl _) r2 p f2
  · cases hx
    cases dv with
    | tup h1 d1 =>
      refine ⟨_, _, rfl, .inr (seqT r1.fro h1), fun p hp => ?_⟩
      obtain ⟨r2, f2⟩ := r1.freshL hp d1
      exact q H1 _ (Same.refl _) r2 p f2
  · cases hx
def boolsOf : List D → Option (List Bool)
  | [] => some []
  | .bl b :: r => (boolsOf r).map (b :: ·)
  | _ :: _ => none
theorem Dts.bools {K : PySem.W.Frag} {H : Hp} : ∀ {ds : List D} {bs : List Bool} {vs : List V}, boolsOf ds = some bs → Dts K cm H vs ds → vs = bs.map V.bl
  | [], _, _, h, d => by cases h; cases d; rfl
  | .bl b :: r, bs, vs, h, d => by
    unfold boolsOf at h
    obtain ⟨b', h1, rfl⟩ := Option.map_eq_some_iff.mp h
    cases d with
    | cons d1 d2 =>
    cases d1
    rw [Dts.bools h1 d2]
    rfl
  | .non :: _, _, _, h, _ => by cases h
  | .int _ :: _, _, _, h, _ => by cases h
  | .str _ :: _, _, _, h, _ => by cases h
  | .lst _ :: _, _, _, h, _ => by cases h
  | .tup _ :: _, _, _, h, _ => by cases h
  | .ins _ _ :: _, _, _, h, _ => by cases h
def allD : List D → Option D
  | [.lst xs] => (boolsOf xs).map fun bs => .bl (bs.all id)
  | _ => none
def anyD : List D → Option D
  | [.lst xs] => (boolsOf xs).map fun bs => .bl (bs.any id)
  | _ => none
theorem cx_all (hc : X.calm = true) : CalX X cm (.builtin "all") allD := by
  refine ⟨_, cr_all hc, fun HF H0 H σ e vs ds c Q l rl dv z q => ?_⟩
  unfold allD at z
  split at z
  · obtain ⟨bs, hb, rfl⟩ := Option.map_eq_some_iff.mp z
    obtain ⟨v, rfl, dw⟩ := dv.one
    cases dw with
    | lst h1 d1 =>
      refine ⟨_, bs, rfl, ?_, q H0 H _ (Same.refl _) rl (.bl _)⟩
      rw [← d1.bools hb]
      exact SqL.of (rl.fro _ _ h1)
  · cases z
theorem cx_any (hc : X.calm = true) : CalX X cm (.builtin "any") anyD := by
  refine ⟨_, cr_any hc, fun HF H0 H σ e vs ds c Q l rl dv z q => ?_⟩
  unfold anyD at z
  split at z
  · obtain ⟨bs, hb, rfl⟩ := Option.map_eq_some_iff.mp z
    obtain ⟨v, rfl, dw⟩ := dv.one
    cases dw with
    | lst h1 d1 =>
      refine ⟨_, bs, rfl, ?_, q H0 H _ (Same.refl _) rl (.bl _)⟩
      rw [← d1.bools hb]
      exact SqL.of (rl.fro _ _ h1)
  · cases z
def sumD : List D → Option D
  | [.lst xs] => (intsOf xs).map fun ns => .int ns.sum
  | _ => none
theorem Dts.intsOf {K : PySem.W.Frag} {H : Hp} {ds : List D} {ns : List Int} {vs : List V} (h : DL.intsOf ds = some ns) (d : Dts K cm H vs ds) : vs = ns.map V.int := by
  rw [intsOf_some h] at d
  exact d.ints_inv
theorem cx_sum (hc : X.calm = true) : CalX X cm (.builtin "sum") sumD := by
  refine ⟨_, cr_sum hc, fun HF H0 H σ e vs ds c Q l rl dv z q => ?_⟩
  unfold sumD at z
  split at z
  · obtain ⟨bs, hb, rfl⟩ := Option.map_eq_some_iff.mp z
    obtain ⟨v, rfl, dw⟩ := dv.one
    cases dw with
    | lst h1 d1 =>
      refine ⟨_, bs, rfl, ?_, q H0 H _ (Same.refl _) rl (.int _)⟩
      rw [← Dts.intsOf hb d1]
      exact SqL.of (rl.fro _ _ h1)
  · cases z
def max2D : List D → Option D
  | [.int i, .int j] => some (.int (if j > i then j else i))
  | _ => none
def min2D : List D → Option D
  | [.int i, .int j] => some (.int (if j < i then j else i))
  | _ => none
theorem cx_max2 (hc : X.calm = true) : CalX X cm (.builtin "max") max2D := by
  refine ⟨_, call_max2 hc, fun HF H0 H σ e vs ds c Q l rl dv z q => ?_⟩
  unfold max2D at z
  split at z
  · cases z
    obtain ⟨v, w, rfl, d1, d2⟩ := dv.two
    cases d1
    cases d2
    exact ⟨_, _, rfl, q H0 H _ (Same.refl _) rl (.int _)⟩
  · cases z
theorem cx_min2 (hc : X.calm = true) : CalX X cm (.builtin "min") min2D := by
  refine ⟨_, call_min2 hc, fun HF H0 H σ e vs ds c Q l rl dv z q => ?_⟩
  unfold min2D at z
  split at z
  · cases z
    obtain ⟨v, w, rfl, d1, d2⟩ := dv.two
    cases d1
    cases d2
    exact ⟨_, _, rfl, q H0 H _ (Same.refl _) rl (.int _)⟩
  · cases z

/-! ### isinstance -/
def D.ty : D → Option String
  | .non => some "NoneType"
  | .bl _ => some "bool"
  | .int _ => some "int"
  | .str _ => some "str"
  | .lst _ => some "list"
  | .tup _ => some "tuple"
  | .ins _ _ => none
theorem Dt.tyX {K : PySem.W.Frag} {H : Hp} {v : V} {d : D} {t : String} (h : Dt K cm H v d) (e : d.ty = some t) : TyX K H v (.type t) := by
  cases h with
  | non => cases e; exact .base .non
  | bl b => cases e; exact .base (.bl b)
  | int i => cases e; exact .base (.int i)
  | str s => cases e; exact .base (.str s)
  | lst h1 _ => cases e; exact .base (.lst h1)
  | tup h1 _ =>
    cases e
    rcases h1 with (h1 | ⟨o, h1⟩) | h1
    · exact .base (.tup h1)
    · exact .fTuple h1
    · obtain ⟨o, _, _, hK, hc, _⟩ := h1
      exact .kTuple hK hc
  | ins _ _ => cases e
def isiM (T : String) (m : M D) : M D := m.bnd fun d => M.opt (match d.ty with | some t => (kitB t T).map D.bl | none => none)
/-- isinstance(e, T), T a built-in class by its name -/
theorem de_isi {T : String} {tn : Str} {p1 : Pos} (hm : X.mg "isinstance" = none) (hmT : X.mg tn = none) (hbT : bootBuiltins tn = some (.type T)) (ha : DE X cm W a fa) (hg : Gl X "isinstance" := by rfl) (hgT : Gl X tn := by rfl) (hnT : tn ≠ "__name__" := by decide) (hdT : (tn == ("__debug__" : Str)) = false := by decide)
    (he : starEach [a, .Name tn p1] X.env = (false, eval a X.env) :: starEach [.Name tn p1] X.env := by rfl) (he2 : starEach [.Name tn p1] X.env = (false, eval (.Name tn p1) X.env) :: starEach [] X.env := by rfl) (hpl : (backTo pos (starEach [.Name tn p1] X.env)).any (·.1) = false := by rfl) :
    DE X cm W (.Call (.Name "isinstance" p) [a, .Name tn p1] [] pos) (isiM T fa) := by
  refine PE.impI (pe_callB call_isi hg hm (by decide +kernel) (pa_cons ha (pa_cons (pe_bltn (v := .ty T) hgT hmT hbT rfl hnT hdT) pa_nil he2) he) (by decide) (by decide) he hpl) fun σ H Q l h => ?_
  obtain ⟨e, HF, H0, rl, p⟩ := h
  refine ⟨e, HF, H0, rl, p.bnd.imp fun d e1 H1 H' s1 r1 p1 v dv => ?_⟩
  obtain ⟨o, ho, q⟩ := p1.opt r1
  split at ho
  · rename_i t ht
    obtain ⟨k, hk, rfl⟩ := Option.map_eq_some_iff.mp ho
    exact ⟨v, .ty T, _, _, k, rfl, .ty T, (dv.mono r1.fro).tyX ht, kit_ty hk, q H1 H' (Same.refl _) r1 _ (.bl _)⟩
  · cases ho
def isi2M (T1 T2 : String) (m : M D) : M D := m.bnd fun d => M.opt (match d.ty with | some t => (match kitB t T1, kitB t T2 with | some a, some b => some (.bl (a || b)) | _, _ => none) | none => none)
/-- isinstance(e, (T1, T2)) -/
theorem de_isi2 {T1 T2 : String} {t1 t2 : Str} {p1 p2 p3 : Pos} {kx} (hm : X.mg "isinstance" = none) (hm1 : X.mg t1 = none) (hb1 : bootBuiltins t1 = some (.type T1)) (hm2 : X.mg t2 = none) (hb2 : bootBuiltins t2 = some (.type T2)) (ha : DE X cm W a fa) (hg : Gl X "isinstance" := by rfl)
    (hg1 : Gl X t1 := by rfl) (hn1 : t1 ≠ "__name__" := by decide) (hd1 : (t1 == ("__debug__" : Str)) = false := by decide) (hg2 : Gl X t2 := by rfl) (hn2 : t2 ≠ "__name__" := by decide) (hd2 : (t2 == ("__debug__" : Str)) = false := by decide)
    (he : starEach [a, .Tuple [.Name t1 p1, .Name t2 p2] kx p3] X.env = (false, eval a X.env) :: starEach [.Tuple [.Name t1 p1, .Name t2 p2] kx p3] X.env := by rfl)
    (he2 : starEach [.Tuple [.Name t1 p1, .Name t2 p2] kx p3] X.env = (false, eval (.Tuple [.Name t1 p1, .Name t2 p2] kx p3) X.env) :: starEach [] X.env := by rfl)
    (he3 : starEach [.Name t1 p1, .Name t2 p2] X.env = (false, eval (.Name t1 p1) X.env) :: starEach [.Name t2 p2] X.env := by rfl) (he4 : starEach [.Name t2 p2] X.env = (false, eval (.Name t2 p2) X.env) :: starEach [] X.env := by rfl)
    (hpl : (backTo pos (starEach [.Tuple [.Name t1 p1, .Name t2 p2] kx p3] X.env)).any (·.1) = false := by rfl) :
    DE X cm W (.Call (.Name "isinstance" p) [a, .Tuple [.Name t1 p1, .Name t2 p2] kx p3] [] pos) (isi2M T1 T2 fa) := by
  refine PE.impI (pe_callB call_isiT hg hm (by decide +kernel) (pa_cons ha (pa_cons (pe_tup (pa_cons (pe_bltn (v := .ty T1) hg1 hm1 hb1 rfl hn1 hd1) (pa_cons (pe_bltn (v := .ty T2) hg2 hm2 hb2 rfl hn2 hd2) pa_nil he4) he3)) pa_nil he2) he) (by decide) (by decide) he hpl) fun σ H Q l h => ?_
  obtain ⟨e, HF, H0, rl, p⟩ := h
  refine ⟨e, HF, H0, rl, p.bnd.imp fun d e1 H1 H' s1 r1 p1 v dv => ?_⟩
  obtain ⟨o, ho, q⟩ := p1.opt r1
  split at ho
  · rename_i t ht
    split at ho
    · rename_i k1 k2 h1 h2
      cases ho
      refine ⟨by show 2 ≤ sizeLine; decide, fun tp htp => ?_⟩
      obtain ⟨r2, s2⟩ := r1.laid htp (.tup [.ty T1, .ty T2])
      refine ⟨v, tp, [.ty T1, .ty T2], _, [.type T1, .type T2], k1 || k2, rfl, upd_same, .cons (.ty T1) (.cons (.ty T2) .nil), ((dv.mono s2).mono r2.fro).tyX ht, ?_, q _ _ s2 r2 _ (.bl _)⟩
      refine kitAny_cons (kit_ty h1) (fun z => ?_) (fun z => by rw [z]; rfl)
      rw [z, Bool.false_or]
      refine kitAny_cons (kit_ty h2) (fun z2 => ?_) (fun z2 => z2)
      rw [z2]
      rfl
    · cases ho
  · cases ho

/-! ### texts -/
def strsOf : List D → Option (List Str)
  | [] => some []
  | .str s :: r => (strsOf r).map (s :: ·)
  | _ :: _ => none
theorem Dts.strs {K : PySem.W.Frag} {H : Hp} : ∀ {ds : List D} {bs : List Str} {vs : List V}, strsOf ds = some bs → Dts K cm H vs ds → vs = bs.map V.str
  | [], _, _, h, d => by cases h; cases d; rfl
  | .str b :: r, bs, vs, h, d => by
    unfold strsOf at h
    obtain ⟨b', h1, rfl⟩ := Option.map_eq_some_iff.mp h
    cases d with
    | cons d1 d2 =>
    cases d1
    rw [Dts.strs h1 d2]
    rfl
  | .non :: _, _, _, h, _ => by cases h
  | .int _ :: _, _, _, h, _ => by cases h
  | .bl _ :: _, _, _, h, _ => by cases h
  | .lst _ :: _, _, _, h, _ => by cases h
  | .tup _ :: _, _, _, h, _ => by cases h
  | .ins _ _ :: _, _, _, h, _ => by cases h
theorem Dts.ofStrs {K : PySem.W.Frag} {H : Hp} : ∀ (ss : List Str), Dts K cm H (ss.map V.str) (ss.map D.str)
  | [] => .nil
  | s :: ss => .cons (.str s) (Dts.ofStrs ss)
def joinD : D → D → Option D
  | .str s, .lst xs => match strsOf xs with
    | some ys => if (ys.map (·.length)).sum + ys.length * s.length ≤ 16777216 then some (.str (Txt.join s ys)) else none
    | none => none
  | .str s, .tup xs => match strsOf xs with
    | some ys => if (ys.map (·.length)).sum + ys.length * s.length ≤ 16777216 then some (.str (Txt.join s ys)) else none
    | none => none
  | _, _ => none
def strM (f : D → D → Option D) (fa fb : M D) : M D := fa.bnd fun d => match d with
  | .str s => fb.bnd fun d2 => M.opt (f (.str s) d2)
  | _ => fun _ => .no
theorem str_first {K : PySem.W.Frag} {σ : L2.St} {HF H1 H' : Hp} {e1 : En} {f : D → D → Option D} {d : D} {Q : D → En → Hp → Hp → Prop} (r1 : Rl K cm HF H1 H' σ e1)
    (p : Post K cm W HF σ H1 ((match d with | .str s => fb.bnd fun d2 => M.opt (f (.str s) d2) | _ => fun _ => .no : M D) e1) Q) : ∃ s, d = .str s ∧ Post K cm W HF σ H1 (fb e1) (fun d2 e2 H2 H'' => Post K cm W HF σ H2 (M.opt (f (.str s) d2) e2) Q) := by
  cases d with
  | str s => exact ⟨s, rfl, p.bnd⟩
  | _ => exact p.elim
theorem de_join {apos pos : Pos} (ho : DE X cm W a fa) (he : DE X cm W b fb) (hs : starEach [b] X.env = [(false, eval b X.env)] := by rfl) (hbase : attributeBase a "join" X.env (eval a X.env) = eval a X.env := by rfl) (hline : (apos.endLine == pos.line) = true := by rfl) :
    DE X cm W (.Call (.Attribute a "join" apos) [b] [] pos) (strM joinD fa fb) := by
  refine PE.impI (pe_join ho he hs hbase hline) fun σ H Q l h => ?_
  obtain ⟨e, HF, H0, rl, p⟩ := h
  refine ⟨e, HF, H0, rl, p.bnd.imp fun d e1 H1 H' s1 r1 p1 v dv => ?_⟩
  obtain ⟨s, rfl, p2⟩ := str_first r1 p1
  cases dv
  refine ⟨⟨s, rfl⟩, e1, HF, H1, r1, p2.imp fun d2 e2 H2 H'' s2 r2 p3 u du => ?_⟩
  obtain ⟨c, hc, q⟩ := p3.opt r2
  unfold joinD at hc
  split at hc
  · rename_i s' xs _
    split at hc
    · rename_i ys hy
      split at hc
      · rename_i hz
        cases hc
        rename_i z1 z2 z3
        cases z2
        cases du with
        | lst h1 d1 =>
          refine ⟨_, _, ys, rfl, rfl, .inl ?_, hz, q H2 H'' (Same.refl _) r2 _ (.str _)⟩
          rw [← d1.strs hy]
          exact SqL.of (r2.fro _ _ h1)
      · cases hc
    · cases hc
  · rename_i s' xs _
    split at hc
    · rename_i ys hy
      split at hc
      · rename_i hz
        cases hc
        rename_i z1 z2 z3
        cases z2
        cases du with
        | tup h1 d1 =>
          refine ⟨_, _, ys, rfl, rfl, .inr ?_, hz, q H2 H'' (Same.refl _) r2 _ (.str _)⟩
          rw [← d1.strs hy]
          exact seqT r2.fro h1
      · cases hc
    · cases hc
  · cases hc
end
end DL
set_option maxRecDepth 100000
/-! # DL10: more on texts; truth; constants of the module. -/
namespace DL
open PySem L2 PyProof.Rows
section
variable {X : Cx} {cm : CM} {W : WX} {a b c : Expr} {es : List Expr} {fa fb : M D} {pos p : Pos} {x : Str} {ma : M Bool}
/-- a method of a text with one argument -/
def strA {α : Type} (f : Str → D → Option α) (fa fb : M D) : M α := fa.bnd fun d => match d with
  | .str s => fb.bnd fun d2 => M.opt (f s d2)
  | _ => fun _ => .no
theorem strA_first {K : PySem.W.Frag} {α : Type} {σ : L2.St} {HF H1 : Hp} {e1 : En} {f : Str → D → Option α} {d : D} {Q : α → En → Hp → Hp → Prop}
    (p : Post K cm W HF σ H1 ((match d with | .str s => fb.bnd fun d2 => M.opt (f s d2) | _ => fun _ => .no : M α) e1) Q) : ∃ s, d = .str s ∧ Post K cm W HF σ H1 (fb e1) (fun d2 e2 H2 H'' => Post K cm W HF σ H2 (M.opt (f s d2) e2) Q) := by
  cases d with
  | str s => exact ⟨s, rfl, p.bnd⟩
  | _ => exact p.elim
def splitD (s : Str) : D → Option Ob
  | .str t => if (t.length == 0) = false ∧ s.length + 2 ≤ sizeLine then some (.lst ((Txt.split s t).map D.str)) else none
  | _ => none
/-- s.split(t): a fresh list -/
theorem df_split {apos pos : Pos} (ho : DE X cm W a fa) (he : DE X cm W b fb) (hs : starEach [b] X.env = [(false, eval b X.env)] := by rfl) (hbase : attributeBase a "split" X.env (eval a X.env) = eval a X.env := by rfl) (hline : (apos.endLine == pos.line) = true := by rfl) :
    DF X cm W (.Call (.Attribute a "split" apos) [b] [] pos) (strA splitD fa fb) := by
  refine PE.impI (pe_split ho he hs hbase hline) fun σ H Q l h => ?_
  obtain ⟨e, HF, H0, rl, p⟩ := h
  refine ⟨e, HF, H0, rl, p.bnd.imp fun d e1 H1 H' s1 r1 p1 v dv => ?_⟩
  obtain ⟨s, rfl, p2⟩ := strA_first p1
  cases dv
  refine ⟨⟨s, rfl⟩, e1, HF, H1, r1, p2.imp fun d2 e2 H2 H'' s2 r2 p3 u du => ?_⟩
  obtain ⟨c, hc, q⟩ := p3.opt r2
  unfold splitD at hc
  split at hc
  · split at hc
    · rename_i hz
      cases hc
      cases du
      refine ⟨_, _, rfl, rfl, hz.1, hz.2, fun p hp => ?_⟩
      obtain ⟨r3, f3⟩ := r2.freshL hp (Dts.ofStrs (Txt.split s _))
      exact q H2 _ (Same.refl _) r3 p f3
    · cases hc
  · cases hc
def startsD (s : Str) : D → Option D
  | .str t => some (.bl (Txt.startswith s t))
  | _ => none
theorem de_startswith {apos pos : Pos} (ho : DE X cm W a fa) (he : DE X cm W b fb) (hs : starEach [b] X.env = [(false, eval b X.env)] := by rfl) (hbase : attributeBase a "startswith" X.env (eval a X.env) = eval a X.env := by rfl) (hline : (apos.endLine == pos.line) = true := by rfl) :
    DE X cm W (.Call (.Attribute a "startswith" apos) [b] [] pos) (strA startsD fa fb) := by
  refine PE.impI (pe_m1 F.slot_str_startswith F.type_str_startswith mt_startswith ho he hs hbase hline) fun σ H Q l h => ?_
  obtain ⟨e, HF, H0, rl, p⟩ := h
  refine ⟨e, HF, H0, rl, p.bnd.imp fun d e1 H1 H' s1 r1 p1 v dv => ?_⟩
  obtain ⟨s, rfl, p2⟩ := strA_first p1
  cases dv
  refine ⟨⟨s, rfl⟩, e1, HF, H1, r1, p2.imp fun d2 e2 H2 H'' s2 r2 p3 u du => ?_⟩
  obtain ⟨c, hc, q⟩ := p3.opt r2
  unfold startsD at hc
  split at hc
  · cases hc
    cases du
    exact ⟨_, _, rfl, rfl, q H2 _ (Same.refl _) r2 _ (.bl _)⟩
  · cases hc
/-- s.isdigit() -/
def strZ {α : Type} (f : Str → Option α) (fa : M D) : M α := fa.bnd fun d => M.opt (match d with | .str s => f s | _ => none)
theorem de_isdigit {apos pos : Pos} (ho : DE X cm W a fa) (hbase : attributeBase a "isdigit" X.env (eval a X.env) = eval a X.env := by rfl) (hline : (apos.endLine == pos.line) = true := by rfl) :
    DE X cm W (.Call (.Attribute a "isdigit" apos) [] [] pos) (strZ (fun s => some (D.bl (Txt.isdigit s))) fa) := by
  refine PE.impI (pe_m0 F.slot_str_isdigit F.type_str_isdigit mt_isdigit ho hbase hline) fun σ H Q l h => ?_
  obtain ⟨e, HF, H0, rl, p⟩ := h
  refine ⟨e, HF, H0, rl, p.bnd.imp fun d e1 H1 H' s1 r1 p1 v dv => ?_⟩
  obtain ⟨c, hc, q⟩ := p1.opt r1
  cases d with
  | str s =>
    cases hc
    cases dv
    exact ⟨⟨s, rfl⟩, s, rfl, rfl, trivial, q H1 _ (Same.refl _) r1 _ (.bl _)⟩
  | _ => cases hc

/-! ### f-strings -/
def fmtD : D → Option D
  | .str y => if y.length ≤ sizeLine then some (.str y) else none
  | .int i => if i.natAbs.log2 < 1920 then some (.str (toString i)) else none
  | _ => none
def fmtM (m : M D) : M D := m.bnd fun d => M.opt (fmtD d)
theorem de_fmt (he : DE X cm W a fa) : DE X cm W (.FormattedValue a (-1) none pos) (fmtM fa) := by
  refine PE.impI (pe_fmt he) fun σ H Q l h => ?_
  obtain ⟨e, HF, H0, rl, p⟩ := h
  refine ⟨e, HF, H0, rl, p.bnd.imp fun d e1 H1 H' s1 r1 p1 v dv => ?_⟩
  obtain ⟨c, hc, q⟩ := p1.opt r1
  unfold fmtD at hc
  split at hc
  · split at hc
    · rename_i hz
      cases hc
      cases dv
      exact .inl ⟨_, rfl, hz, q H1 H' (Same.refl _) r1 _ (.str _)⟩
    · cases hc
  · split at hc
    · rename_i hz
      cases hc
      cases dv
      exact .inr ⟨_, rfl, hz, q H1 H' (Same.refl _) r1 _ (.str _)⟩
    · cases hc
  · cases hc
def joinF : List (M D) → Str → M D
  | [], acc => M.ret (.str acc)
  | f :: fs, acc => f.bnd fun d => match d with
    | .str y => if (acc ++ y).length ≤ sizeLine then joinF fs (acc ++ y) else fun _ => .no
    | _ => fun _ => .no
inductive DJ (X : Cx) (cm : CM) (W : WX) : List Expr → List (M D) → Prop where
  | nil : DJ X cm W [] []
  | cons {e : Expr} {f : M D} {es : List Expr} {fs : List (M D)} (h : DE X cm W e f) (r : DJ X cm W es fs) : DJ X cm W (e :: es) (f :: fs)
theorem DJ.pj {es : List Expr} {fs : List (M D)} (h : DJ X cm W es fs) : PJ X es (fs.map (tDE X.K cm W)) := by
  induction h with
  | nil => exact .nil
  | cons h _ ih => exact .cons h ih
theorem js_read {K : PySem.W.Frag} {σ : L2.St} {HF : Hp} {Q : VK} : ∀ {fs : List (M D)} {acc : Str} {H H0 : Hp} {e : En}, Rl K cm HF H0 H σ e → Post K cm W HF σ H0 (joinF fs acc e) (fun d _ H1 H' => ∀ v, Dt K cm H1 v d → Q v H') →
    tJs (fs.map (tDE K cm W)) acc σ H (fun out H1 => Q (.str out) H1)
  | [], acc, H, H0, e, r, p => p.ret r _ (.str _)
  | f :: fs, acc, H, H0, e, r, p => by
    refine ⟨e, HF, H0, r, p.bnd.imp fun d e1 H1 H' s1 r1 p1 v dv => ?_⟩
    cases d with
    | str y =>
      cases dv
      dsimp only at p1
      split at p1
      · rename_i hz
        exact ⟨y, rfl, hz, js_read r1 p1⟩
      · exact p1.elim
    | _ => exact p1.elim
theorem de_joined {v1 v2 : Expr} {rest : List Expr} {fs : List (M D)} (h : DJ X cm W (v1 :: v2 :: rest) fs) : DE X cm W (.JoinedStr (v1 :: v2 :: rest) pos) (joinF fs Str.empty) :=
  PE.impI (pe_joined h.pj) fun σ H Q l q => by
    obtain ⟨e, HF, H0, rl, p⟩ := q
    exact js_read rl p
theorem de_joined1 (h : DE X cm W a fa) : DE X cm W (.JoinedStr [a] pos) fa := pe_joined1 h

/-! ### truth -/
def truD : D → Option Bool
  | .non => some false
  | .bl b => some b
  | .int i => some (i != 0)
  | .str s => if s.length ≤ sizeLine then some (s.length != 0) else none
  | .lst xs => some (!xs.isEmpty)
  | .tup xs => some (!xs.isEmpty)
  | .ins _ _ => none
def truM (m : M D) : M Bool := m.bnd fun d => M.opt (truD d)

/-! ### constants of the module -/
theorem de_glob {v : V} {d : D} {u : Value} (hm : X.mg x = some u) (r : RelV v u) (hd : ∀ H, Dt X.K cm H v d) (hg : Gl X x := by rfl) (hdb : (x == ("__debug__" : Str)) = false := by decide) : DE X cm W (.Name x pos) (M.ret d) := de_c (pe_glob hg hm r hdb) hd
end
end DL
set_option maxRecDepth 100000
set_option maxHeartbeats 1000000
/-! # DL11: errors by data: raise, try, what a suite reads of its error. -/
namespace DL
open PySem L2

/-! ### the classes' numbering made another -/
/-- a suite's numbering: its error at a, the error's dict at d, the error's class at C -/
def cmX (cm : CM) (a d C : Addr) : CM := fun c => match c with
  | 0 => a
  | 1 => d
  | 2 => C
  | n + 3 => cm (n + 3)
def SameC (cm cm' : CM) : Prop := ∀ c, 3 ≤ c → cm c = cm' c
theorem cmX_same {cm : CM} {a d C : Addr} : SameC cm (cmX cm a d C) := fun c h => by
  match c, h with
  | n + 3, _ => rfl
section
variable {K : PySem.W.Frag} {cm cm' : CM} {H : Hp}
mutual
theorem Dt.recm (e : SameC cm cm') : ∀ {v : V} {d : D}, Dt K cm H v d → Dt K cm' H v d
  | _, _, .non => .non
  | _, _, .bl b => .bl b
  | _, _, .int i => .int i
  | _, _, .str s => .str s
  | _, _, .lst h hs => .lst h (Dts.recm e hs)
  | _, _, .tup h hs => .tup h (Dts.recm e hs)
  | _, _, .ins (c := c) hc h hs => .ins hc (by rw [← e c hc]; exact h) (Dfs.recm e hs)
theorem Dts.recm (e : SameC cm cm') : ∀ {v : List V} {d : List D}, Dts K cm H v d → Dts K cm' H v d
  | _, _, .nil => .nil
  | _, _, .cons h hs => .cons (Dt.recm e h) (Dts.recm e hs)
theorem Dfs.recm (e : SameC cm cm') : ∀ {v : List (Str × V)} {d : List (Str × D)}, Dfs K cm H v d → Dfs K cm' H v d
  | _, _, .nil => .nil
  | _, _, .cons h hs => .cons (Dt.recm e h) (Dfs.recm e hs)
end
theorem Dks.recm (e : SameC cm cm') : ∀ {v : List (Key × V)} {d : List (Key × D)}, Dks K cm H v d → Dks K cm' H v d
  | _, _, .nil => .nil
  | _, _, .cons h hs => .cons (Dt.recm e h) (Dks.recm e hs)
theorem SameC.symm (e : SameC cm cm') : SameC cm' cm := fun c h => (e c h).symm
def clean : Sl → Sl
  | .xv _ _ => .un
  | s => s
theorem ObOk.recm (e : SameC cm cm') {H0 : Hp} {l : Addr} : ∀ {o : Ob}, ObOk K cm H0 H l o → ObOk K cm' H0 H l o
  | .lst _, ⟨vs, a, b⟩ => ⟨vs, a, b.recm e⟩
  | .dct _, ⟨vs, a, b⟩ => ⟨vs, a, b.recm e⟩
  | .ins c _, ⟨hc, dx, vs, a, b⟩ => ⟨hc, dx, vs, by rw [← e c hc]; exact a, b.recm e⟩
  | .bag _, ⟨a, b⟩ => ⟨a, b⟩
theorem ObOk.notXd {H0 : Hp} {l : Addr} {fv : List (Str × V)} : ∀ {o : Ob}, ObOk K cm H0 H l o → H l ≠ some (.xd fv)
  | .lst _, ⟨vs, a, b⟩, h => by rw [a] at h; cases h
  | .dct _, ⟨vs, a, b⟩, h => by rw [a] at h; cases h
  | .ins c _, ⟨hc, dx, vs, a, b⟩, h => by rw [a] at h; cases h
  | .bag _, ⟨a, b⟩, h => by rw [a] at h; cases h
theorem clean_get {e : En} {i : Nat} {s : Sl} (h : (e.map clean)[i]? = some s) : s = .un ∨ (e[i]? = some s ∧ ∀ c fs, s ≠ .xv c fs) := by
  rw [List.getElem?_map] at h
  cases q : e[i]? with
  | none => rw [q] at h; cases h
  | some t =>
    rw [q] at h
    cases h
    cases t with
    | xv _ _ => exact .inl rfl
    | un => exact .inl rfl
    | dat d => exact .inr ⟨rfl, fun _ _ z => by cases z⟩
    | own t o => exact .inr ⟨rfl, fun _ _ z => by cases z⟩
theorem Rl.recm {HF HF' H0 : Hp} {σ : St} {e : En} (r : Rl K cm HF H0 H σ e) (hc : SameC cm cm') (hs : Same HF' HF) : Rl K cm' HF' H0 H σ (e.map clean) := by
  refine ⟨r.fro, fun a o h => r.frm a o (hs a o h), fun a o h => r.dis a o (hs a o h), by rw [List.length_map, r.len], fun i s hi => ?_, fun i j t u o o' l h1 h2 h3 h4 => ?_⟩
  · rcases clean_get hi with rfl | ⟨h, hn⟩
    · trivial
    · have z := r.sl i s h
      cases s with
      | un => trivial
      | xv c fs => exact absurd rfl (hn c fs)
      | dat d =>
        obtain ⟨x, a, b⟩ := z
        exact ⟨x, a, b.recm hc⟩
      | own t o =>
        obtain ⟨l, a, b, c, d, ob⟩ := z
        exact ⟨l, a, b, c, hs.free d, ob.recm hc⟩
  · rcases clean_get h1 with z | ⟨h1, _⟩
    · cases z
    rcases clean_get h2 with z | ⟨h2, _⟩
    · cases z
    exact r.sep i j t u o o' l h1 h2 h3 h4
theorem Rl.adopt {HF H0 : Hp} {σ : St} {e : En} {d : Addr} {fv : List (Str × V)} (r : Rl K cm HF H0 H σ e) (hd : H d = some (.xd fv)) : ∃ HF2, Same HF HF2 ∧ (HF2 d = some (.xd fv) ∨ H0 d = some (.xd fv)) ∧ Rl K cm HF2 H0 H σ e := by
  cases q : H0 d with
  | some u =>
    have := r.fro _ _ q
    rw [hd] at this
    cases this
    exact ⟨HF, Same.refl _, .inr rfl, r⟩
  | none =>
    have s1 : Same HF (upd HF d (.xd fv)) := fun b o hb => by
      by_cases y : b = d
      · subst y
        have := r.frm _ _ hb
        rw [hd] at this
        cases this
        exact upd_same
      · rw [upd_ne y]
        exact hb
    refine ⟨upd HF d (.xd fv), s1, .inl upd_same, r.fro, fun a o h => ?_, fun a o h => ?_, r.len, fun i s hi => ?_, r.sep⟩
    · by_cases y : a = d
      · subst y
        rw [upd_same] at h
        cases h
        exact hd
      · rw [upd_ne y] at h
        exact r.frm a o h
    · by_cases y : a = d
      · rw [y]; exact q
      · rw [upd_ne y] at h
        exact r.dis a o h
    · have z := r.sl i s hi
      cases s with
      | un => trivial
      | xv c fs => exact z.mono s1 (Same.refl _)
      | dat d => exact z
      | own t o =>
        obtain ⟨l, a, b, c, f, ob⟩ := z
        refine ⟨l, a, b, c, ?_, ob⟩
        rw [upd_ne]
        · exact f
        · rintro rfl
          exact ob.notXd hd
theorem Rl.putXv {HF H0 : Hp} {σ : St} {e : En} {i c : Nat} {fs : List (Str × D)} (r : Rl K cm HF H0 H σ e) (hx : XvOk K cm HF H0 c fs (some (.ref (cm 0)))) : Rl K cm HF H0 H (σ.set i (some (.ref (cm 0)))) (e.set i (.xv c fs)) := by
  refine ⟨r.fro, r.frm, r.dis, by simp [r.len], fun j s hs => ?_, fun j k t u o o' l h1 h2 h3 h4 => ?_⟩
  · rcases get_set_eq hs with ⟨rfl, rfl⟩ | ⟨q, hs⟩
    · have hj : j < σ.length := by
        have := (List.getElem?_eq_some_iff.mp hs).1
        rw [List.length_set, r.len] at this
        exact this
      rw [vat_set_same hj]
      exact hx
    · rw [vat_set_ne q]
      exact r.sl j s hs
  · rcases get_set_eq h1 with ⟨_, z⟩ | ⟨q1, h1⟩
    · cases z
    rcases get_set_eq h2 with ⟨_, z⟩ | ⟨q2, h2⟩
    · cases z
    rw [vat_set_ne q1] at h3
    rw [vat_set_ne q2] at h4
    exact r.sep j k t u o o' l h1 h2 h3 h4
end

/-! ### raise -/
section
variable {X : Cx} {cm : CM} {W : WX} {a : Expr} {as : List Expr} {fa : M (List D)} {pos p pos2 : Pos}
def raiseM (c : Nat) (fs : List Str) (fa : M (List D)) : M Fl := fa.bnd fun ds => fun e => if ds.length = fs.length then .ex c (fs.zip ds) e else .no
theorem Dfs.zip {K : PySem.W.Frag} {H : Hp} : ∀ {fs : List Str} {vs : List V} {ds : List D}, Dts K cm H vs ds → Dfs K cm H (fs.zip vs) (fs.zip ds)
  | [], _, _, _ => by simp only [List.zip_nil_left]; exact .nil
  | f :: fs, _, _, .nil => by simp only [List.zip_nil_right]; exact .nil
  | f :: fs, _, _, .cons h hs => .cons h (Dfs.zip hs)
theorem ds_raise {c k : Nat} {fI cc cda : Addr} {xn qual : Str} {fs : List Str} {st : Stmt} (hc : X.calm = true) (T : PySem.EXS.ExTxt X.prog X.K X.mg xn (cm c) fI cc cda fs st qual) (hr : Room k X.A) (tk : Takes X W) (ha : DA X cm W (a :: as) fa) (hne : fs ≠ []) (hg : Gl X xn := by rfl)
    (he : starEach (a :: as) X.env = (false, eval a X.env) :: starEach as X.env := by rfl) (hpl : (backTo pos (starEach as X.env)).any (·.1) = false := by rfl) (hd : (xn == ("__debug__" : Str)) = false := by decide) :
    DS X cm W (.Raise (some (.Call (.Name xn p) (a :: as) [] pos)) none pos2) (raiseM c fs fa) := by
  refine PS.impI (ps_raise hc tk (pmk_x T hr ha hne hg he hpl hd)) fun D σ H l h => ?_
  obtain ⟨e, HF, H0, rl, p⟩ := h
  refine ⟨e, HF, H0, rl, p.bnd.imp fun ds e1 H1 H' s1 r1 p1 vs dvs => ?_⟩
  have hl := dvs.length
  by_cases q : ds.length = fs.length
  · rw [if_pos q] at p1
    refine ⟨hl.trans q, fun d hd => ?_⟩
    exact p1 σ H1 _ d _ (Same.refl _) (r1.laidOwn hd _) upd_same (Dfs.zip dvs)
  · rw [if_neg q] at p1
    exact p1.elim
end

/-! ### try -/
structure Hd where
  t : Nat → Option Bool
  nm : Option Nat
  su : M Fl
def suR (e : En) (nm : Option Nat) : R Fl → R Fl
  | .ok fl e2 => .ok fl (match nm with | none => e2.map clean | some i => (e2.map clean).set i .un)
  | _ => .no
def suE (e : En) (c : Nat) (fs : List (Str × D)) : Option Nat → En
  | none => e.map clean
  | some i => (e.map clean).set i (.xv c fs)
def handleM : List Hd → Nat → List (Str × D) → M Fl
  | [], c, fs, e => .ex c fs e
  | h :: r, c, fs, e => match h.t c with
    | some true => if 3 ≤ c then suR e h.nm (h.su (suE e c fs h.nm)) else .no
    | some false => handleM r c fs e
    | none => .no
def tryM (m : M Fl) (hs : List Hd) : M Fl := fun e => match m e with
  | .ex c fs e' => handleM hs c fs e'
  | r => r
def noW : WX := fun _ _ _ _ => False
theorem takes_noW {X : Cx} : Takes X noW := fun u s' ⟨_, _, _, _, _, _, _, _, _, _, _, _, _, _, _, _, w⟩ => w.elim
inductive DHs (X : Cx) (cm : CM) : List ExceptHandler → List Hd → Prop
  | nil : DHs X cm [] []
  | bare {x : Str} {c : Value} {t : Nat → Option Bool} {su : M Fl} {b₀ : Stmt} {suite : List Stmt} {np pos' : Pos} {hds : List ExceptHandler} {hs : List Hd} (hc : Names X x c) (ht : ∀ n b, t n = some b → PySem.W.exmOne X.K (.ref (cm n)) c = some b)
      (hsu : ∀ (a : Addr) (oe : Obj) (C d : Addr) (pn : List (Addr × Obj)), Zc (.ref C) (some d) oe → (∃ vs, oe.data = .fields vs) → DSs (X.suite a ((a, oe) :: pn)) (cmX cm a d C) noW (b₀ :: suite) su) (r : DHs X cm hds hs) :
      DHs X cm (.ExceptHandler (some (.Name x np)) none (b₀ :: suite) pos' :: hds) (⟨t, none, su⟩ :: hs)
  | nam {x n : Str} {i : Nat} {c : Value} {t : Nat → Option Bool} {su : M Fl} {b₀ : Stmt} {suite : List Stmt} {np pos' : Pos} {hds : List ExceptHandler} {hs : List Hd} (hc : Names X x c) (ht : ∀ n b, t n = some b → PySem.W.exmOne X.K (.ref (cm n)) c = some b) (hN : X.N.Nodup) (hi : X.N[i]? = some n) (hln : X.env.kindOf n = some .local)
      (hsu : ∀ (a : Addr) (oe : Obj) (C d : Addr) (pn : List (Addr × Obj)), Zc (.ref C) (some d) oe → (∃ vs, oe.data = .fields vs) → DSs (X.suite a ((a, oe) :: pn)) (cmX cm a d C) noW (b₀ :: suite) su) (r : DHs X cm hds hs) :
      DHs X cm (.ExceptHandler (some (.Name x np)) (some n) (b₀ :: suite) pos' :: hds) (⟨t, some i, su⟩ :: hs)
/-- a suite's reading -/
def tSu (K : PySem.W.Frag) (cm : CM) (su : M Fl) : Addr → Value → Option Addr → TS := fun a cls d D σ H => ∃ C dd, cls = .ref C ∧ d = some dd ∧ tDS K (cmX cm a dd C) noW su D σ H
theorem pss_su {X : Cx} {cm : CM} {su : M Fl} {b : List Stmt} (hsu : ∀ (a : Addr) (oe : Obj) (C d : Addr) (pn : List (Addr × Obj)), Zc (.ref C) (some d) oe → (∃ vs, oe.data = .fields vs) → DSs (X.suite a ((a, oe) :: pn)) (cmX cm a d C) noW b su)
    (a : Addr) (oe : Obj) (cls : Value) (d : Option Addr) (pn : List (Addr × Obj)) (hz : Zc cls d oe) (hf : ∃ vs, oe.data = .fields vs) : PSs (X.suite a ((a, oe) :: pn)) b (tSu X.K cm su a cls d) := by
  refine ⟨fun pins s σ H D I h => ?_⟩
  obtain ⟨C, dd, rfl, rfl, h⟩ := h
  exact (hsu a oe C dd pn hz hf).run pins s σ H D I h
/-- the suite's start and end -/
theorem su_read {K : PySem.W.Frag} {cm : CM} {W : WX} {D : Ends} {cn : Nat} {fs : List (Str × DL.D)} {e : En} {HF H0 : Hp} {σ : St} {H : Hp} {d : Addr} {fv : List (Str × V)} {su : M Fl} {nm : Option Nat} (rl : Rl K cm HF H0 H σ e) (hd : H d = some (.xd fv)) (hf : Dfs K cm H0 fv fs) (h3 : 3 ≤ cn)
    (p : PostS K cm W HF H0 (suR e nm (su (suE e cn fs nm))) D) (a : Addr) :
    tSu K cm su a (.ref (cm cn)) (some d) (match nm with | none => D | some i => asEnds D i) (match nm with | none => σ | some i => σ.set i (some (.ref a))) H := by
  refine ⟨cm cn, d, rfl, rfl, ?_⟩
  have sc : SameC cm (cmX cm a d (cm cn)) := cmX_same
  obtain ⟨HF2, sF, hx, r2⟩ := rl.adopt hd
  have r3 := r2.recm sc (Same.refl _)
  have xv : XvOk K (cmX cm a d (cm cn)) HF2 H0 cn fs (some (.ref (cmX cm a d (cm cn) 0))) := ⟨rfl, sc cn h3, fv, hx, hf.recm sc⟩
  cases nm with
  | none =>
    refine ⟨_, HF2, H0, r3, ?_⟩
    show PostS K _ _ HF2 H0 (su (suE e cn fs none)) D
    cases q : su (suE e cn fs none) with
    | ok fl e2 =>
      rw [q] at p
      intro σ' H0' H' s1 r1
      have z := p σ' H0' H' s1 (r1.recm sc.symm sF)
      cases fl with
      | rt d => exact fun v dv => z v (dv.recm sc.symm)
      | _ => exact z
    | ex c f e2 => rw [q] at p; exact p.elim
    | no => rw [q] at p; exact p.elim
  | some i =>
    refine ⟨_, HF2, H0, r3.putXv (i := i) xv, ?_⟩
    show PostS K _ _ HF2 H0 (su (suE e cn fs (some i))) (asEnds D i)
    cases q : su (suE e cn fs (some i)) with
    | ok fl e2 =>
      rw [q] at p
      intro σ' H0' H' s1 r1
      have z := p (σ'.set i none) H0' H' s1 ((r1.recm sc.symm sF).forget i none)
      cases fl with
      | rt d => exact fun v dv => z v (dv.recm sc.symm)
      | _ => exact z
    | ex c f e2 => rw [q] at p; exact p.elim
    | no => rw [q] at p; exact p.elim
theorem dhs_read {X : Cx} {cm : CM} {hds : List ExceptHandler} {hs : List Hd} (h : DHs X cm hds hs) : ∃ l, HdsA X hds l ∧
    ∀ (W : WX) (D : Ends) (cn : Nat) (fs : List (Str × DL.D)) (e : En) (HF H0 : Hp) (σ : St) (H : Hp) (d : Addr) (fv : List (Str × V)), Rl X.K cm HF H0 H σ e → H d = some (.xd fv) → Dfs X.K cm H0 fv fs → PostS X.K cm W HF H0 (handleM hs cn fs e) D → wAny X.K W D l (.ref (cm cn)) (some d) σ H := by
  induction h with
  | nil => exact ⟨[], .nil, fun W D cn fs e HF H0 σ H d fv rl hd hf p => p σ H0 H d fv (Same.refl _) rl hd hf⟩
  | @bare x c t su b₀ suite np pos' hds hs hc ht hsu r ih =>
    obtain ⟨l, hl, hw⟩ := ih
    refine ⟨_, .bare hc (pss_su hsu) hl, fun W D cn fs e HF H0 σ H d fv rl hd hf p => ?_⟩
    unfold handleM at p
    dsimp only at p
    cases q : t cn with
    | none => rw [q] at p; exact p.elim
    | some b =>
      rw [q] at p
      refine ⟨b, ht _ _ q, fun hb a na => ?_, fun hb => ?_⟩
      · subst hb
        dsimp only at p
        split at p
        · rename_i h3
          exact su_read (nm := none) rl hd hf h3 p a
        · exact p.elim
      · subst hb
        exact hw W D cn fs e HF H0 σ H d fv rl hd hf p
  | @nam x n i c t su b₀ suite np pos' hds hs hc ht hN hi hln hsu r ih =>
    obtain ⟨l, hl, hw⟩ := ih
    refine ⟨_, .nam hc hN hi hln (pss_su hsu) hl, fun W D cn fs e HF H0 σ H d fv rl hd hf p => ?_⟩
    unfold handleM at p
    dsimp only at p
    cases q : t cn with
    | none => rw [q] at p; exact p.elim
    | some b =>
      rw [q] at p
      refine ⟨b, ht _ _ q, fun hb a na => ?_, fun hb => ?_⟩
      · subst hb
        dsimp only at p
        split at p
        · rename_i h3
          exact su_read (nm := some i) rl hd hf h3 p a
        · exact p.elim
      · subst hb
        exact hw W D cn fs e HF H0 σ H d fv rl hd hf p
theorem ds_try {X : Cx} {cm : CM} {W : WX} {body : List Stmt} {h₀ : ExceptHandler} {hds : List ExceptHandler} {hs : List Hd} {m : M Fl} {pos : Pos} (hst : X.stack = X.env :: X.outer) (hf : X.env.frame = some X.env.locals) (tk : Takes X W)
    (hb : ∀ (W' : WX) (pn : List (Addr × Obj)) (xe : Value → Shared → Prop), Takes (X.tr pn xe) W' → DSs (X.tr pn xe) cm W' body m) (hh : DHs X cm (h₀ :: hds) hs) : DS X cm W (.Try body (h₀ :: hds) [] [] pos) (tryM m hs) := by
  obtain ⟨l, hl, hw⟩ := dhs_read hh
  refine PS.impI (ps_try_any (tb := fun W' => tDS X.K cm W' m) hst hf tk (fun W' pn xe tk' _ => hb W' pn xe tk') hl) fun D σ H ls h => ?_
  obtain ⟨e, HF, H0, rl, p⟩ := h
  refine ⟨e, HF, H0, rl, ?_⟩
  unfold tryM at p
  cases q : m e with
  | ok fl e2 => rw [q] at p; exact p
  | ex c fs e2 =>
    rw [q] at p
    exact fun σ' H0' H' d fv s1 r1 hd hf => hw W D c fs e2 HF H0' σ' H' d fv r1 hd hf (PostS.mono s1 p)
  | no => rw [q] at p; exact p.elim

/-! ### what a suite reads of its error -/
section
variable {X : Cx} {cm : CM} {W : WX} {a : Addr} {oe : Obj} {pn : List (Addr × Obj)} {pos p : Pos}
def xfM (i c : Nat) (f : Str) : M D := fun e => match e[i]? with
  | some (.xv c' fs) => if c' = c then M.opt (fs.lookup f) e else .no
  | _ => .no
theorem de_xf {i c : Nat} {n f : Str} (ha : cm 0 = a) (T : XfC X.K (cm c)) (hno : PySem.W.findIn X.K (.ref (cm c)) f = some none) (hz : Zc (.ref (cm 2)) (some (cm 1)) oe) (hf : ∃ vs, oe.data = .fields vs)
    (hi : X.N[i]? = some n) (hv : Vis X.env.scope n) (hb : attributeBase (.Name n p) f X.env (eval (.Name n p) X.env) = eval (.Name n p) X.env := by rfl) (hd : (n == ("__debug__" : Str)) = false := by decide) (hcd : (n == ("__classdict__" : Str)) = false := by decide) :
    DE (X.suite a ((a, oe) :: pn)) cm W (.Attribute (.Name n p) f pos) (xfM i c f) := by
  refine PE.impI (pe_xf T hno hz hf (pe_var (X := X.suite a ((a, oe) :: pn)) hi hv hd hcd) hb) fun σ H Q l h => ?_
  obtain ⟨e, HF, H0, rl, p⟩ := h
  unfold xfM at p
  split at p
  · rename_i c' fs hs
    split at p
    · rename_i hc
      subst hc
      obtain ⟨d, hd, q⟩ := p.opt rl
      obtain ⟨x1, x2, fv, x3, x4⟩ := rl.sl _ _ hs
      obtain ⟨v, hv, dv⟩ := x4.lookup hd
      refine ⟨_, vat_some x1, by rw [ha], by rw [x2], _, fv, v, rfl, x3.elim (rl.frm _ _) (rl.fro _ _), hv, ?_⟩
      exact q H0 H (Same.refl _) rl v dv
    · exact p.elim
  · exact p.elim
def isEM (i c : Nat) (b : Bool) : M D := fun e => match e[i]? with
  | some (.xv c' fs) => if c' = c then .ok (.bl b) e else .no
  | _ => .no
/-- isinstance(error, T) -/
theorem de_isE {i c : Nat} {n tn : Str} {tv : V} {cv : Value} {b : Bool} {p1 p2 : Pos} (ha : cm 0 = a) (C : ExcC X.K (cm c)) (hz : Zc (.ref (cm 2)) (some (cm 1)) oe) (hf : ∃ vs, oe.data = .fields vs) (hk : PySem.W.kitOne X.K (.ref (cm c)) cv = some b)
    (hi : X.N[i]? = some n) (hv : Vis X.env.scope n) (ht : PE (X.suite a ((a, oe) :: pn)) (.Name tn p2) (tC tv)) (hr : ∀ u, RelV tv u → u = cv) (hm : X.mg "isinstance" = none) (hg : Gl X "isinstance" := by rfl)
    (he : starEach [.Name n p1, .Name tn p2] X.env = (false, eval (.Name n p1) X.env) :: starEach [.Name tn p2] X.env := by rfl) (he2 : starEach [.Name tn p2] X.env = (false, eval (.Name tn p2) X.env) :: starEach [] X.env := by rfl)
    (hpl : (backTo pos (starEach [.Name tn p2] X.env)).any (·.1) = false := by rfl) (hd : (n == ("__debug__" : Str)) = false := by decide) (hcd : (n == ("__classdict__" : Str)) = false := by decide) :
    DE (X.suite a ((a, oe) :: pn)) cm W (.Call (.Name "isinstance" p) [.Name n p1, .Name tn p2] [] pos) (isEM i c b) := by
  by_cases hcc : cm 2 = cm c
  · refine PE.impI (pe_callB (call_isD (X := X) (H0 := fun _ => none) (D := cm c) (d := cm 1) C (by rw [← hcc]; exact hz) hf) hg hm (by decide +kernel) (pa_cons (pe_var (X := X.suite a ((a, oe) :: pn)) hi hv hd hcd) (pa_cons ht pa_nil he2) he) (by decide) (by decide) he hpl) fun σ H Q l h => ?_
    obtain ⟨e, HF, H0, rl, p⟩ := h
    unfold isEM at p
    split at p
    · rename_i c' fs hs
      split at p
      · rename_i hc
        subst hc
        obtain ⟨x1, x2, fv, x3, x4⟩ := rl.sl _ _ hs
        refine ⟨_, vat_some x1, ⟨⟨fv, x3.elim (rl.frm _ _) (rl.fro _ _)⟩, tv, cv, b, by rw [ha], hr, hk, ?_⟩⟩
        exact p H0 H (Same.refl _) rl _ (.bl b)
      · exact p.elim
    · exact p.elim
  · exact ⟨fun pins s σ H Q I h => by
      obtain ⟨e, HF, H0, rl, p⟩ := h
      unfold isEM at p
      split at p
      · rename_i c' fs hs
        split at p
        · rename_i hc
          subst hc
          exact absurd (rl.sl _ _ hs).2.1 hcc
        · exact p.elim
      · exact p.elim⟩
end
end DL
set_option maxRecDepth 100000
set_option maxHeartbeats 1000000
/-! # DL12: the draws' dict; what _law_pick does. -/
namespace DL
open PySem L2

def bagGet (b : Bag) (k : Str) : Option D :=
  if k = "cells" then some (.lst (b.cs.map .int)) else if k = "at" then some (.int b.at_) else if k = "rest" then some (.int b.rest) else if k = "mixed" then some (.int b.mixed) else if k = "count" then some (.int b.count) else none
def bagPut (b : Bag) (k : Str) : D → Option Bag
  | .int i => if k = "at" then some { b with at_ := i } else if k = "rest" then some { b with rest := i } else if k = "mixed" then some { b with mixed := i } else if k = "count" then some { b with count := i } else none
  | _ => none
section
variable {K : PySem.W.Frag} {cm : CM} {H : Hp}
theorem bag_get {b : Bag} {k : Str} {d : D} (hl : H b.lc = some (.lst (b.cs.map V.int))) (h : bagGet b k = some d) : ∃ v, valV (bagKV b) (.inr k) = some v ∧ Dt K cm H v d := by
  unfold bagGet at h
  split at h
  · rename_i q
    subst q
    cases h
    exact ⟨.ref b.lc, by rfl, .lst hl (Dts.ints _)⟩
  split at h
  · rename_i q
    subst q
    cases h
    exact ⟨_, by rfl, .int _⟩
  split at h
  · rename_i q
    subst q
    cases h
    exact ⟨_, by rfl, .int _⟩
  split at h
  · rename_i q
    subst q
    cases h
    exact ⟨_, by rfl, .int _⟩
  split at h
  · rename_i q
    subst q
    cases h
    exact ⟨_, by rfl, .int _⟩
  · cases h
theorem bag_put {b b' : Bag} {k : Str} {d : D} {v : V} (hv : Dt K cm H v d) (h : bagPut b k d = some b') : putK (bagKV b) (.inr k) v = bagKV b' ∧ b'.lc = b.lc ∧ b'.cs = b.cs := by
  unfold bagPut at h
  split at h
  · cases hv
    split at h
    · rename_i q
      subst q
      cases h
      exact ⟨by rfl, rfl, rfl⟩
    split at h
    · rename_i q
      subst q
      cases h
      exact ⟨by rfl, rfl, rfl⟩
    split at h
    · rename_i q
      subst q
      cases h
      exact ⟨by rfl, rfl, rfl⟩
    split at h
    · rename_i q
      subst q
      cases h
      exact ⟨by rfl, rfl, rfl⟩
    · cases h
  · cases h
end

section
variable {X : Cx} {cm : CM} {W : WX} {a b c : Expr} {fa : M D} {pos p p2 p3 : Pos} {x : Str}
def bagI (i : Nat) (k : Str) : M D := fun e => match e[i]? with
  | some (.own _ (.bag b)) => M.opt (bagGet b k) e
  | _ => .no
theorem de_bagI {i j : Nat} {k : Str} (hu : X.A.units + 100 < cLine) (hN : X.N[i]? = some x := by rfl) (hv : Vis X.env.scope x := by first | exact Or.inl rfl | exact Or.inr (Or.inl rfl) | exact Or.inr (Or.inr rfl)) (hd : (x == ("__debug__" : Str)) = false := by decide)
    (hcd : (x == ("__classdict__" : Str)) = false := by decide) : DE X cm W (.Subscript (.Name x p) (.Constant (.str k) j p2) pos) (bagI i k) := by
  refine PE.impI (pe_dget (Nat.lt_trans (Nat.add_lt_add_left (by decide) _) hu) (pe_var hN hv hd hcd) pe_str (by exact fun _ _ => rfl)) fun σ H Q l h => ?_
  obtain ⟨e, HF, H0, rl, p⟩ := h
  unfold bagI at p
  split at p
  · rename_i t b hb
    obtain ⟨d, hd, q⟩ := p.opt rl
    obtain ⟨l', hl, _, _, _, ob1, ob2⟩ := rl.own hb
    obtain ⟨v, hv, dv⟩ := bag_get (K := X.K) (cm := cm) ob2 hd
    exact ⟨_, hl, l', v, rfl, .inl ⟨_, .inr k, .inl ob1, rfl, hv.symm⟩, q H0 H (Same.refl _) rl v dv⟩
  · exact p.elim
def bagSetM (i : Nat) (k : Str) (m : M D) : M Fl := m.bnd fun d => fun e => match e[i]? with
  | some (.own t (.bag b)) => match bagPut b k d with
    | some b' => .ok .nx (e.set i (.own t (.bag b')))
    | none => .no
  | _ => .no
theorem ds_bagSet {i j : Nat} {k : Str} (hu : X.A.units + 100 < cLine) (ha : DE X cm W a fa) (hN : X.N[i]? = some x := by rfl) (hv : Vis X.env.scope x := by first | exact Or.inl rfl | exact Or.inr (Or.inl rfl) | exact Or.inr (Or.inr rfl)) (hs : swapsWith a (some (.Subscript (.Name x p) (.Constant (.str k) j p2) p3)) pos.line X.env = pure false := by rfl)
    (hd : (x == ("__debug__" : Str)) = false := by decide) (hcd : (x == ("__classdict__" : Str)) = false := by decide) : DS X cm W (.Assign [.Subscript (.Name x p) (.Constant (.str k) j p2) p3] a pos) (bagSetM i k fa) := by
  refine PS.impI (ps_dput (Nat.lt_trans (Nat.add_lt_add_left (by decide) _) hu) (pe_var hN hv hd hcd) pe_str ha hs) fun D σ H l h => ?_
  obtain ⟨e, HF, H0, rl, p⟩ := h
  refine ⟨e, HF, H0, rl, p.bnd.imp fun d e1 H1 H' s1 r1 p1 v dv => ?_⟩
  split at p1
  · rename_i t b hb
    split at p1
    · rename_i b' hb'
      obtain ⟨l', hl, tg, f0, ff, ob1, ob2⟩ := r1.own hb
      obtain ⟨h1, h2, h3⟩ := bag_put dv hb'
      refine ⟨_, hl, l', _, rfl, .inl ⟨bagKV b, .inr k, ob1, rfl, by show 5 < sizeLine; decide, rfl⟩, ?_⟩
      rw [h1]
      exact p1 σ H1 _ (Same.refl _) (r1.write hb hl ⟨upd_same, by rw [h2, h3]; exact ob2⟩)
    · exact p1.elim
  · exact p1.elim
end
end DL
set_option maxRecDepth 100000
set_option maxHeartbeats 1000000
/-! # DL13: what the printed texts stand on. -/
namespace DL
open PySem L2 PyProof.Rows
/-- a def's body does m, at level k -/
abbrev DBody (P : Program) (w : World) (K : PySem.W.Frag) (mg : Str → Option Value) (base : Heap) (cm : CM) (N : List Str) (x : Str) (st : Stmt) (f : Addr) (k : Nat) (m : M Fl) : Prop :=
  ∀ (cdv : Value) (A : Around) (outer : List Env) (s : Shared) (H : Hp) (E : XK), Room k (A.deeper (envOfC x (defScope st) s.heap.objs.size f cdv)) → Takes (bodyX P w K mg base N x (defScope st) f cdv A outer s H E) (fun cls d _ H => E cls d H) →
      DSs (bodyX P w K mg base N x (defScope st) f cdv A outer s H E) cm (fun cls d _ H => E cls d H) (defBody st) m
theorem hu_of {k : Nat} {A : Around} (hr : Room k A) : A.units + 100 < cLine := by have := hr.un; omega
theorem hp_of {P : Program} {w : World} {K : PySem.W.Frag} {mg : Str → Option Value} {base : Heap} {N : List Str} {qual : Str} {scope : Scope} {f : Addr} {cdv : Value} {A : Around} {outer : List Env} {s : Shared} {H : Hp} {E : XK} :
    PassesOwn (model P w) (bodyX P w K mg base N qual scope f cdv A outer s H E).A (bodyX P w K mg base N qual scope f cdv A outer s H E).env (bodyX P w K mg base N qual scope f cdv A outer s H E).xe := passes_of rfl
/-- a def of the module -/
structure FunX (K : PySem.W.Frag) (mg : Str → Option Value) (x : Str) (st : Stmt) (ps : List Str) (f : Addr) : Prop where
  ex : ∃ fd, Fun K x x st f fd ∧ Binds K fd ps []
  g : mg x = some (.ref f)
theorem FunX.kp {K : PySem.W.Frag} {mg : Str → Option Value} {x : Str} {st : Stmt} {ps : List Str} {f : Addr} (h : FunX K mg x st ps f) : PySem.W.keepIn K (.ref f) = true := by
  obtain ⟨fd, h1, _⟩ := h.ex
  exact h1.kp
section
variable {P : Program} {w : World} {K : PySem.W.Frag} {mg : Str → Option Value} {base : Heap} {cm : CM}
theorem dfnx {x : Str} {st : Stmt} {f : Addr} {N ps : List Str} {k : Nat} {F : FS} {m : M Fl} (T : FunX K mg x st ps f) (S : FnScope N ps (defScope st)) (hlen : ∀ gs r, F gs = some r → gs.length = ps.length)
    (hb : DBody P w K mg base cm N x st f k m) (hd : Does m N.length F) : DFn P w K mg base cm (k + 1) f F := by
  obtain ⟨fd, h1, h2⟩ := T.ex
  exact dfn h1 S h2 hlen hb hd
theorem dfnx_fam {x : Str} {st : Stmt} {f : Addr} {N ps : List Str} {k : Nat} {F : Nat → FS} {m : Nat → M Fl} (T : FunX K mg x st ps f) (S : FnScope N ps (defScope st)) (hlen : ∀ n gs r, F n gs = some r → gs.length = ps.length)
    (h0 : ∀ gs, F 0 gs = none) (hb : ∀ n, DFn P w K mg base cm (k + n) f (F n) → DBody P w K mg base cm N x st f (k + n) (m n)) (hd : ∀ n, Does (m n) N.length (F (n + 1))) (n : Nat) : DFn P w K mg base cm (k + n) f (F n) := by
  obtain ⟨fd, h1, h2⟩ := T.ex
  exact dfn_fam h1 S h2 hlen h0 hb hd n
end
end DL
set_option maxRecDepth 100000
set_option maxHeartbeats 1000000
/-! # DL14: a < b < c; constants of the module. -/
namespace DL
open PySem L2
section
variable {X : Cx} {cm : CM} {W : WX} {a b c : Expr} {fa fb fc : M D} {pos : Pos}
def chainM (f g : D → D → Option D) (fa fb fc : M D) : M D := fa.bnd fun x => fb.bnd fun y => (M.opt (f x y)).bnd fun z => (M.opt (asB z)).bnd fun k => if k = true then fc.bnd fun w => M.opt (g y w) else M.ret (.bl false)
theorem chain_read {op op' : CmpOp} {f g : D → D → Option D} {r r' : R2} (h2 : OpD X.K cm r f) (h2' : OpD X.K cm r' g) {σ : St} {H : Hp} {Q : VK} (l : Lens X.K H) (h : tDE X.K cm W (chainM f g fa fb fc) σ H Q) :
    tChain (fun x y H Q => Lens X.K H → r x y H Q) (fun x y H Q => Lens X.K H → r' x y H Q) (tDE X.K cm W fa) (tDE X.K cm W fb) (tDE X.K cm W fc) σ H Q := by
  obtain ⟨e, HF, H0, rl, p⟩ := h
  refine ⟨e, HF, H0, rl, p.bnd.imp fun x e1 H1 H' s1 r1 p1 v dv => ?_⟩
  refine ⟨e1, HF, H1, r1, p1.bnd.imp fun y e2 H2 H'' s2 r2 p2 u du => ?_⟩
  obtain ⟨z, hf, q⟩ := (p2.bnd).opt r2
  refine fun l2 => h2 HF H2 H'' σ e2 v u x y z _ l2 r2 (dv.mono s2) du hf fun H3 H3' w s3 r3 dw => ?_
  obtain ⟨k, hk, q'⟩ := ((q H3 H3' s3 r3).bnd).opt r3
  cases z with
  | bl k' =>
    cases hk
    cases dw
    have q2 := q' H3 H3' (Same.refl _) r3
    refine ⟨k, rfl, ?_⟩
    cases k with
    | true =>
      rw [if_pos rfl]
      refine ⟨e2, HF, H3, r3, (Post.bnd (q2.isT)).imp fun w' e4 H4 H4' s4 r4 p4 w'' dw'' => ?_⟩
      obtain ⟨d, hg, q3⟩ := p4.opt r4
      exact fun l4 => h2' HF H4 H4' σ e4 u w'' y w' d Q l4 r4 ((du.mono s3).mono s4) dw'' hg fun H5 H5' w5 s5 r5 dw5 => q3 H5 H5' s5 r5 w5 dw5
    | false =>
      rw [if_neg Bool.false_ne_true]
      exact q2.isF H3 H3' (Same.refl _) r3 _ (.bl _)
  | _ => cases hk
theorem de_chain {op op' : CmpOp} {f g : D → D → Option D} (ho : OpX X cm (compareOp op) f) (ho' : OpX X cm (compareOp op') g) (ha : DE X cm W a fa) (hb : DE X cm W b fb) (hc : DE X cm W c fc) (hm : lastMarks [op, op'] [b, c] = false := by with_unfolding_all rfl) :
    DE X cm W (.Compare a [op, op'] [b, c] pos) (chainM f g fa fb fc) := by
  obtain ⟨r, h1, h2⟩ := ho.ex
  obtain ⟨r', h1', h2'⟩ := ho'.ex
  exact PE.impI (pe_chain (OpR.impI (r' := fun x y H Q => Lens X.K H → r x y H Q) h1 fun x y H Q l z => z l) (OpR.impI (r' := fun x y H Q => Lens X.K H → r' x y H Q) h1' fun x y H Q l z => z l) ha hb hc hm) fun σ H Q l h => chain_read (op := op) (op' := op') h2 h2' l h
theorem dt_chain {op op' : CmpOp} {f g : D → D → Option D} (ho : OpX X cm (compareOp op) f) (ho' : OpX X cm (compareOp op') g) (ha : DE X cm W a fa) (hb : DE X cm W b fb) (hc : DE X cm W c fc) (hm : lastMarks [op, op'] [b, c] = false := by with_unfolding_all rfl) :
    DT X cm W (.Compare a [op, op'] [b, c] pos) (tstB (chainM f g fa fb fc)) := by
  obtain ⟨r, h1, h2⟩ := ho.ex
  obtain ⟨r', h1', h2'⟩ := ho'.ex
  refine PT.impI (pt_chain (OpR.impI (r' := fun x y H Q => Lens X.K H → r x y H Q) h1 fun x y H Q l z => z l) (OpR.impI (r' := fun x y H Q => Lens X.K H → r' x y H Q) h1' fun x y H Q l z => z l) ha hb hc hm) fun σ H Q l h => ?_
  refine chain_read (op := op) (op' := op') h2 h2' l ?_
  obtain ⟨e, HF, H0, rl, p⟩ := h
  refine ⟨e, HF, H0, rl, p.bnd.imp fun d e1 H1 H' s1 r1 p1 v dv => ?_⟩
  obtain ⟨k, hk, q⟩ := p1.opt r1
  cases d with
  | bl k' =>
    cases hk
    cases dv
    exact ⟨k, rfl, q H1 H' (Same.refl _) r1⟩
  | _ => cases hk
end
end DL
set_option maxRecDepth 100000
set_option maxHeartbeats 1000000
/-! # DL15: star defs, defs with defaults, constants of the module. -/
namespace DL
open PySem L2 PyProof.Rows
/-- the same for the body behind its first n statements, whatever is wished of exceptions -/
abbrev DBodyN (n : Nat) (P : Program) (w : World) (K : PySem.W.Frag) (mg : Str → Option Value) (base : Heap) (cm : CM) (N : List Str) (x : Str) (st : Stmt) (f : Addr) (k : Nat) (m : M Fl) : Prop :=
  ∀ (cdv : Value) (A : Around) (outer : List Env) (s : Shared) (H : Hp) (E : XK) (W : WX), Room k (A.deeper (envOfC x (defScope st) s.heap.objs.size f cdv)) → Takes (bodyX P w K mg base N x (defScope st) f cdv A outer s H E) W →
      DSs (bodyX P w K mg base N x (defScope st) f cdv A outer s H E) cm W ((defBody st).drop n) m
/-- def f(*v) of the module -/
structure FunS (K : PySem.W.Frag) (mg : Str → Option Value) (x : Str) (st : Stmt) (f : Addr) : Prop where
  ex : ∃ fd, Fun K x x st f fd
  g : mg x = some (.ref f)
theorem FunS.kp {K : PySem.W.Frag} {mg : Str → Option Value} {x : Str} {st : Stmt} {f : Addr} (h : FunS K mg x st f) : PySem.W.keepIn K (.ref f) = true := by
  obtain ⟨fd, h1⟩ := h.ex
  exact h1.kp
/-- a def with defaults of the module -/
structure FunO (K : PySem.W.Frag) (mg : Str → Option Value) (x : Str) (st : Stmt) (dvs : List V) (f : Addr) : Prop where
  ex : ∃ fd, FunD K x x (defArgs st) (defBody st) (defScope st) dvs [] f fd
  g : mg x = some (.ref f)
theorem FunO.kp {K : PySem.W.Frag} {mg : Str → Option Value} {x : Str} {st : Stmt} {dvs : List V} {f : Addr} (h : FunO K mg x st dvs f) : PySem.W.keepIn K (.ref f) = true := by
  obtain ⟨fd, h1⟩ := h.ex
  exact h1.kp
section
variable {P : Program} {w : World} {K : PySem.W.Frag} {mg : Str → Option Value} {base : Heap} {cm : CM}
theorem dfns {x : Str} {st : Stmt} {f : Addr} {N : List Str} {pv : Str} {k : Nat} {F : FS} {m : M Fl} (T : FunS K mg x st f) (S : FnScope N [pv] (defScope st))
    (hb : ∀ (kV doc pm : Value) (an : Option Addr) (cdv ct : Value) (rest : List Value), bindArgs (PySem.W.fnOf x x (defArgs st) (defBody st) (defScope st) .none kV doc pm an cdv ct) ⟨rest, []⟩ = (newTuple rest >>= fun t => pure [(pv, t)]))
    (hlen : ∀ gs r, F gs = some r → gs.length = 1) (hbody : DBody P w K mg base cm N x st f k m) (hd : Does m N.length F) :
    DFn P w K mg base cm (k + 1) f (fun gs => match datas gs with | some ds => if ds.length ≤ sizeLine then F [.d (.tup ds)] else none | none => none) := by
  obtain ⟨fd, h1⟩ := T.ex
  exact dfn_star h1 S hb hlen hbody hd
/-- all arguments are written -/
theorem dfno {x : Str} {st : Stmt} {dvs : List V} {f : Addr} {N ps : List Str} {k : Nat} {F F' : FS} {m : M Fl} {dds : List D} (n j : Nat) (T : FunO K mg x st dvs f) (S : FnScope N ps (defScope st)) (hd0 : dvs ≠ []) (hn : n + (dvs.length - j) = ps.length)
    (hbi : ∀ (T : Addr) (kV doc pm : Value) (an : Option Addr) (cdv ct : Value) (us its : List Value), us.length = n → its.length = dvs.length →
      ∃ k, bindArgs (PySem.W.fnOf x x (defArgs st) (defBody st) (defScope st) (.ref T) kV doc pm an cdv ct) ⟨us, []⟩ = seqItems? (.ref T) >>= k ∧ k (some its.toArray) = pure (ps.zip (us ++ its.drop j)))
    (hdd : ∀ H, Dts K cm H (dvs.drop j) dds) (hlen : ∀ gs r, F gs = some r → gs.length = ps.length) (hF : ∀ gs r, F' gs = some r → F (gs ++ dds.map Ag.d) = some r) (hbody : DBody P w K mg base cm N x st f k m) (hd : Does m N.length F) :
    DFn P w K mg base cm (k + 1) f F' := by
  obtain ⟨fd, h1⟩ := T.ex
  obtain ⟨ds, hv, hb⟩ := h1.binds1 n j hd0 hn hbi
  exact dfn_dflt (n := n) h1 S hv hb hdd hlen hF hbody hd
end
/-! ### constants -/
theorem dt_strs {K : PySem.W.Frag} {cm : CM} {H : Hp} : ∀ (ws : List Str), Dts K cm H (ws.map V.str) (ws.map D.str)
  | [] => .nil
  | w :: ws => .cons (.str w) (dt_strs ws)
end DL
namespace DL
open PySem L2
/-! ### the signs of a text -/
def charsOf (x : Str) : List D := x.cps.toList.map fun c => .str ⟨#[c]⟩
def itStr (m : M D) : M (List D) := m.bnd fun d => M.opt (match d with | .str x => some (charsOf x) | _ => none)
theorem itD_str {K : PySem.W.Frag} {cm : CM} {H1 : Hp} {x : Str} : ItD K cm (Its x) (charsOf x) H1 where
  go := fun i HF H0 H σ e hi s r => by
    have q : (charsOf x).length = x.cps.size := by simp [charsOf]
    rw [q] at hi
    exact hi
  stop := fun HF H0 H σ e s r => by
    show x.cps.size ≤ (charsOf x).length
    simp [charsOf]
  yld := fun i d HF H0 H σ e v H' hd s r y => by
    obtain ⟨rfl, c, hc, rfl⟩ := y
    have q : (charsOf x)[i]? = some (.str ⟨#[c]⟩) := by
      unfold charsOf
      rw [List.getElem?_map]
      have : x.cps.toList[i]? = some c := by simpa using hc
      rw [this]
      rfl
    rw [q] at hd
    cases hd
    exact ⟨fun _ _ z => z, H0, Same.refl _, r, .str _⟩
section
variable {X : Cx} {cm : CM} {W : WX} {a : Expr} {fa : M D}
theorem di_str {tg : Expr} (he : DE X cm W a fa) : DI X cm W tg a (itStr fa) := PI.imp (pi_str he) fun σ H R h => by
  obtain ⟨e, HF, H0, rl, p⟩ := h
  refine ⟨e, HF, H0, rl, p.bnd.imp fun d e1 H1 H' s1 r1 p1 v dv => ?_⟩
  obtain ⟨ds, hd, q⟩ := p1.opt r1
  cases d with
  | str x =>
    cases hd
    cases dv
    exact ⟨x, rfl, q H1 H' (Same.refl _) r1 (Its x) itD_str⟩
  | _ => cases hd
end
end DL
set_option maxRecDepth 100000
set_option maxHeartbeats 1000000
/-! # DL16: what a body does, taken as the def's meaning. -/
namespace DL
open PySem L2 PyProof.Rows
open Classical in
/-- the meaning of a def of p parameters whose body (n slots) does m: the answer that does not hang on where the lent objects lie -/
noncomputable def autoF (p : Nat) (m : M Fl) (n : Nat) : FS := fun gs =>
  if gs.length = p then (if h : ∃ r, ∀ adr, fin adr gs (m (ini adr gs n)) = some r then some h.choose else none) else none
theorem autoF_does {p n : Nat} {m : M Fl} : Does m n (autoF p m n) := fun adr gs r h => by
  unfold autoF at h
  split at h
  · split at h
    · rename_i q
      cases h
      exact q.choose_spec adr
    · cases h
  · cases h
theorem autoF_len {p n : Nat} {m : M Fl} (gs : List Ag) (r : Rt × List Ob) (h : autoF p m n gs = some r) : gs.length = p := by
  unfold autoF at h
  split at h
  · assumption
  · cases h
theorem autoF_eq {p n : Nat} {m : M Fl} {gs : List Ag} {r : Rt × List Ob} (hl : gs.length = p) (h : ∀ adr, fin adr gs (m (ini adr gs n)) = some r) : autoF p m n gs = some r := by
  unfold autoF
  rw [if_pos hl]
  have q : ∃ r, ∀ adr, fin adr gs (m (ini adr gs n)) = some r := ⟨r, h⟩
  rw [dif_pos q]
  have := q.choose_spec (fun _ => 0)
  rw [h] at this
  exact this.symm
/-- a def that calls itself: how deep at most -/
noncomputable def famF (p : Nat) (m : FS → M Fl) (n : Nat) : Nat → FS
  | 0 => fun _ => none
  | d + 1 => autoF p (m (famF p m n d)) n
theorem famF_eq {p n d : Nat} {m : FS → M Fl} {gs : List Ag} {r : Rt × List Ob} (hl : gs.length = p) (h : ∀ adr, fin adr gs (m (famF p m n d) (ini adr gs n)) = some r) : famF p m n (d + 1) gs = some r := autoF_eq hl h
section
variable {P : Program} {w : World} {K : PySem.W.Frag} {mg : Str → Option Value} {base : Heap} {cm : CM}
theorem dfna {x : Str} {st : Stmt} {f : Addr} {N ps : List Str} {k : Nat} {m : M Fl} (T : FunX K mg x st ps f) (S : FnScope N ps (defScope st)) (hb : DBody P w K mg base cm N x st f k m) : DFn P w K mg base cm (k + 1) f (autoF ps.length m N.length) :=
  dfnx T S autoF_len hb autoF_does
theorem dfna_fam {x : Str} {st : Stmt} {f : Addr} {N ps : List Str} {k : Nat} {m : FS → M Fl} (T : FunX K mg x st ps f) (S : FnScope N ps (defScope st))
    (hb : ∀ (j : Nat) (F : FS), k ≤ j → DFn P w K mg base cm j f F → DBody P w K mg base cm N x st f j (m F)) (d : Nat) : DFn P w K mg base cm (k + d) f (famF ps.length m N.length d) := by
  obtain ⟨fd, h1, h2⟩ := T.ex
  exact dfn_fam (F := famF ps.length m N.length) (m := fun d => m (famF ps.length m N.length d)) h1 S h2 (fun n gs r h => by
    cases n with
    | zero => cases h
    | succ n => exact autoF_len gs r h) (fun _ => rfl) (fun n G => hb (k + n) _ (Nat.le_add_right _ _) G) (fun n => autoF_does) d
/-- what def f(*v) does -/
noncomputable def starF (m : M Fl) (n : Nat) : FS := fun gs => match datas gs with | some ds => if ds.length ≤ sizeLine then autoF 1 m n [.d (.tup ds)] else none | none => none
theorem dfna_star {x : Str} {st : Stmt} {f : Addr} {N : List Str} {pv : Str} {k : Nat} {m : M Fl} (T : FunS K mg x st f) (S : FnScope N [pv] (defScope st))
    (hbi : ∀ (kV doc pm : Value) (an : Option Addr) (cdv ct : Value) (rest : List Value), bindArgs (PySem.W.fnOf x x (defArgs st) (defBody st) (defScope st) .none kV doc pm an cdv ct) ⟨rest, []⟩ = (newTuple rest >>= fun t => pure [(pv, t)]))
    (hb : DBody P w K mg base cm N x st f k m) : DFn P w K mg base cm (k + 1) f (starF m N.length) := dfns T S hbi autoF_len hb autoF_does
/-- fewer arguments: the rest are data -/
def moreF (F : FS) (dds : List D) : FS := fun gs => F (gs ++ dds.map Ag.d)
theorem dfna_dflt {x : Str} {st : Stmt} {dvs : List V} {f : Addr} {N ps : List Str} {k : Nat} {m : M Fl} {dds : List D} (n j : Nat) (T : FunO K mg x st dvs f) (S : FnScope N ps (defScope st)) (hd0 : dvs ≠ []) (hn : n + (dvs.length - j) = ps.length)
    (hbi : ∀ (T : Addr) (kV doc pm : Value) (an : Option Addr) (cdv ct : Value) (us its : List Value), us.length = n → its.length = dvs.length →
      ∃ k, bindArgs (PySem.W.fnOf x x (defArgs st) (defBody st) (defScope st) (.ref T) kV doc pm an cdv ct) ⟨us, []⟩ = seqItems? (.ref T) >>= k ∧ k (some its.toArray) = pure (ps.zip (us ++ its.drop j)))
    (hdd : ∀ H, Dts K cm H (dvs.drop j) dds) (hb : DBody P w K mg base cm N x st f k m) : DFn P w K mg base cm (k + 1) f (moreF (autoF ps.length m N.length) dds) :=
  dfno n j T S hd0 hn hbi hdd autoF_len (fun gs r h => h) hb autoF_does
theorem dfn_none {k : Nat} {f : Addr} : DFn P w K mg base cm k f (fun _ => none) := fun A outer s H us vs Q E hr he hv h => by
  obtain ⟨gs, HF, H0, hl, r0, h⟩ := h
  exact h.elim
/-- a def with defaults that calls itself with all arguments written -/
noncomputable def famO (p : Nat) (m : FS → M Fl) (n : Nat) : Nat → FS
  | 0 => fun _ => none
  | d + 1 => moreF (autoF p (m (famO p m n d)) n) []
theorem famO_eq {p n d : Nat} {m : FS → M Fl} {gs : List Ag} {r : Rt × List Ob} (hl : gs.length = p) (h : ∀ adr, fin adr gs (m (famO p m n d) (ini adr gs n)) = some r) : famO p m n (d + 1) gs = some r := by
  show autoF p _ n (gs ++ []) = some r
  rw [List.append_nil]
  exact autoF_eq hl h
theorem dfna_famO {x : Str} {st : Stmt} {dvs : List V} {f : Addr} {N ps : List Str} {k : Nat} {m : FS → M Fl} (T : FunO K mg x st dvs f) (S : FnScope N ps (defScope st)) (hd0 : dvs ≠ [])
    (hbi : ∀ (T : Addr) (kV doc pm : Value) (an : Option Addr) (cdv ct : Value) (us its : List Value), us.length = ps.length → its.length = dvs.length →
      ∃ k, bindArgs (PySem.W.fnOf x x (defArgs st) (defBody st) (defScope st) (.ref T) kV doc pm an cdv ct) ⟨us, []⟩ = seqItems? (.ref T) >>= k ∧ k (some its.toArray) = pure (ps.zip (us ++ its.drop dvs.length)))
    (hb : ∀ (j : Nat) (F : FS), k ≤ j → DFn P w K mg base cm j f F → DBody P w K mg base cm N x st f j (m F)) : ∀ d : Nat, DFn P w K mg base cm (k + d) f (famO ps.length m N.length d)
  | 0 => dfn_none
  | d + 1 => dfna_dflt (dds := []) ps.length dvs.length T S hd0 (by omega) hbi (fun H => by rw [List.drop_length]; exact .nil) (hb (k + d) _ (Nat.le_add_right _ _) (dfna_famO T S hd0 hbi hb d))
end
end DL
set_option maxRecDepth 100000
set_option maxHeartbeats 1000000
/-! # DL17: what the draws give. -/
namespace DL
open PySem L2 PyProof.Rows
def pickM : M Fl := (seqM (bagSetM 0 "count" (op2 addD (bagI 0 "count") (M.ret (.int 1))))
  (seqM (ifM (tstB (op2 gtD (bagI 0 "rest") (M.ret (.int 0)))) (seqM (setM 2 (bagI 0 "rest"))
  (seqM (bagSetM 0 "rest" (op2 fdivD (getV 2) (getV 1)))
  (retM (op2 modD (bltM intD (consA (getV 2) (M.ret []))) (getV 1))))) nxM)
  (seqM (setM 3 (M.ret (.int 0)))
  (seqM (ifM (tstB (op2 ltD (bagI 0 "at") (bltM lenD (consA (bagI 0 "cells") (M.ret []))))) (seqM (setM 3 (op2 ixD (bagI 0 "cells") (bagI 0 "at")))
  (seqM (bagSetM 0 "at" (op2 addD (bagI 0 "at") (M.ret (.int 1))))
  (ifM (tstB (op2 geD (getV 3) (op2 powD (M.ret (.int 10)) (M.ret (.int 18))))) (seqM (bagSetM 0 "rest" (op2 fdivD (getV 3) (getV 1)))
  (retM (op2 modD (bltM intD (consA (getV 3) (M.ret []))) (getV 1)))) nxM))) nxM)
  (seqM (setM 2 (op2 modD (bltM intD (consA (op2 addD (op2 addD (op2 mulD (getV 3) (M.ret (.int 48271))) (op2 mulD (bagI 0 "mixed") (M.ret (.int 69621)))) (op2 mulD (bagI 0 "count") (M.ret (.int 16807)))) (M.ret []))) (M.ret (.int 2147483647))))
  (seqM (setM 2 (op2 modD (bltM intD (consA (op2 addD (op2 mulD (getV 2) (M.ret (.int 48271))) (M.ret (.int 12345))) (M.ret []))) (M.ret (.int 2147483647))))
  (seqM (bagSetM 0 "mixed" (op2 modD (bltM intD (consA (getV 2) (M.ret []))) (M.ret (.int 1000003))))
  (retM (op2 modD (bltM intD (consA (op2 fdivD (getV 2) (M.ret (.int 11))) (M.ret []))) (getV 1))))))))))
section
variable {b : Bag} {i : Int}
theorem bagGet_count : bagGet b "count" = some (.int b.count) := by rfl
theorem bagGet_rest : bagGet b "rest" = some (.int b.rest) := by rfl
theorem bagGet_at : bagGet b "at" = some (.int b.at_) := by rfl
theorem bagGet_mixed : bagGet b "mixed" = some (.int b.mixed) := by rfl
theorem bagGet_cells : bagGet b "cells" = some (.lst (b.cs.map .int)) := by rfl
theorem bagPut_count : bagPut b "count" (.int i) = some { b with count := i } := by rfl
theorem bagPut_rest : bagPut b "rest" (.int i) = some { b with rest := i } := by rfl
theorem bagPut_at : bagPut b "at" (.int i) = some { b with at_ := i } := by rfl
theorem bagPut_mixed : bagPut b "mixed" (.int i) = some { b with mixed := i } := by rfl
end
theorem atI_map {b : Bag} {j : Int} (h0 : 0 ≤ j) (h : j < b.cs.length) : ∃ c, atI (b.cs.map D.int) j = some (.int c) := by
  have hn : j.toNat < b.cs.length := by omega
  refine ⟨b.cs[j.toNat], ?_⟩
  unfold atI ixN
  rw [List.length_map, if_pos h0, if_pos h]
  simp [hn]
/-- a step of the draws: a number below many, the cells and their list as before -/
structure Drew (b b' : Bag) (m r : Int) : Prop where
  lo : 0 ≤ r
  hi : r < m
  ok : 0 ≤ b'.at_
  lc : b'.lc = b.lc
  cs : b'.cs = b.cs
theorem whileN_go {c : M Bool} {body : M Fl} {k : Nat} {e e1 e2 : DL.En} (hc : c e = .ok true e1) (hb : body e1 = .ok .nx e2) : whileN c body (k + 1) e = whileN c body k e2 := by
  simp [whileN, M.bnd, hc, hb]
theorem whileN_end {c : M Bool} {body : M Fl} {k : Nat} {e e1 : DL.En} (hc : c e = .ok false e1) : whileN c body (k + 1) e = .ok .nx e1 := by
  simp [whileN, M.bnd, hc, nxM, M.ret]
theorem mulOk_r {i j : Int} (h : j.natAbs < 2 ^ 64) : mulOk i j = true := by
  unfold mulOk
  simp [h]
theorem pick_run {b : Bag} (hb : 0 ≤ b.at_) {m : Int} (h0 : 0 < m) (h9 : m.natAbs.log2 < 9000) : ∃ r b', autoF 2 pickM 4 [.o (.bag b), .d (.int m)] = some (.ret (.int r), [.bag b']) ∧ Drew b b' m r := by
  by_cases h1 : 0 < b.rest
  · refine ⟨b.rest % m, { b with count := b.count + 1, rest := b.rest / m }, autoF_eq rfl fun adr => ?_, Int.emod_nonneg _ (by omega), Int.emod_lt_of_pos _ h0, hb, rfl, rfl⟩
    simp [pickM, ini, agsF, fin, outs, seqM, M.bnd, M.ret, M.opt, op2, getV, setM, bagI, bagSetM, ifM, tstB, asB, retM, nxM, bltM, consA, bagGet_count, bagGet_rest, bagGet_at, bagGet_mixed, bagGet_cells, bagPut_count, bagPut_rest, bagPut_at, bagPut_mixed, addD, mulD, gtD, ltD, geD, fdivD, modD, powD, intD, lenD, ixD, h1, h0, h9]
  · have e11 : Nat.log2 11 < 9000 := by decide +kernel
    have m1 : ∀ x : Int, mulOk x 48271 = true := fun x => mulOk_r (by decide)
    have m2 : ∀ x : Int, mulOk x 69621 = true := fun x => mulOk_r (by decide)
    have m3 : ∀ x : Int, mulOk x 16807 = true := fun x => mulOk_r (by decide)
    by_cases h2 : b.at_ < b.cs.length
    · obtain ⟨c, hc⟩ := atI_map hb h2
      by_cases h3 : 1000000000000000000 ≤ c
      · refine ⟨c % m, { b with count := b.count + 1, at_ := b.at_ + 1, rest := c / m }, autoF_eq rfl fun adr => ?_, Int.emod_nonneg _ (by omega), Int.emod_lt_of_pos _ h0, by show 0 ≤ b.at_ + 1; omega, rfl, rfl⟩
        simp [pickM, ini, agsF, fin, outs, seqM, M.bnd, M.ret, M.opt, op2, getV, setM, bagI, bagSetM, ifM, tstB, asB, retM, nxM, bltM, consA, bagGet_count, bagGet_rest, bagGet_at, bagGet_mixed, bagGet_cells, bagPut_count, bagPut_rest, bagPut_at, bagPut_mixed, addD, mulD, gtD, ltD, geD, fdivD, modD, powD, intD, lenD, ixD, h1, h0, h9, h2, hc, h3]
      · refine ⟨(((c * 48271 + b.mixed * 69621 + (b.count + 1) * 16807) % 2147483647 * 48271 + 12345) % 2147483647) / 11 % m, { b with count := b.count + 1, at_ := b.at_ + 1, mixed := (((c * 48271 + b.mixed * 69621 + (b.count + 1) * 16807) % 2147483647 * 48271 + 12345) % 2147483647) % 1000003 }, autoF_eq rfl fun adr => ?_, Int.emod_nonneg _ (by omega), Int.emod_lt_of_pos _ h0, by show 0 ≤ b.at_ + 1; omega, rfl, rfl⟩
        simp [pickM, ini, agsF, fin, outs, seqM, M.bnd, M.ret, M.opt, op2, getV, setM, bagI, bagSetM, ifM, tstB, asB, retM, nxM, bltM, consA, bagGet_count, bagGet_rest, bagGet_at, bagGet_mixed, bagGet_cells, bagPut_count, bagPut_rest, bagPut_at, bagPut_mixed, addD, mulD, gtD, ltD, geD, fdivD, modD, powD, intD, lenD, ixD, h1, h0, h9, h2, hc, h3, m1, m2, m3, e11]
    · refine ⟨(((0 * 48271 + b.mixed * 69621 + (b.count + 1) * 16807) % 2147483647 * 48271 + 12345) % 2147483647) / 11 % m, { b with count := b.count + 1, mixed := (((0 * 48271 + b.mixed * 69621 + (b.count + 1) * 16807) % 2147483647 * 48271 + 12345) % 2147483647) % 1000003 }, autoF_eq rfl fun adr => ?_, Int.emod_nonneg _ (by omega), Int.emod_lt_of_pos _ h0, hb, rfl, rfl⟩
      simp [pickM, ini, agsF, fin, outs, seqM, M.bnd, M.ret, M.opt, op2, getV, setM, bagI, bagSetM, ifM, tstB, asB, retM, nxM, bltM, consA, bagGet_count, bagGet_rest, bagGet_at, bagGet_mixed, bagGet_cells, bagPut_count, bagPut_rest, bagPut_at, bagPut_mixed, addD, mulD, gtD, ltD, geD, fdivD, modD, powD, intD, lenD, ixD, h1, h0, h9, h2, m1, m2, m3, e11]
end DL
set_option maxRecDepth 100000
set_option maxHeartbeats 1000000
/-! # DL18: equality of data. -/
namespace DL
open PySem L2 PyProof.Rows
/-- d can be compared; no deeper than n -/
structure OkN (n : Nat) (d : D) : Prop where
  a : d.noIns = true
  b : PyData.canLay0 d.toPy = true
  c : PyData.depth d.toPy ≤ n
theorem OkN.eq {n : Nat} {d : D} (h : OkN n d) (hn : n ≤ 64) : d.okEq = true := by
  unfold D.okEq SeqAt.shaped
  rw [h.a, h.b, decide_eq_true (Nat.le_trans h.c hn)]
  rfl
theorem OkN.mono {m n : Nat} {d : D} (h : OkN m d) (hn : m ≤ n) : OkN n d := ⟨h.a, h.b, Nat.le_trans h.c hn⟩
theorem okN_int {i : Int} : OkN 0 (.int i) := ⟨rfl, rfl, Nat.le_refl _⟩
theorem okN_bl {i : Bool} : OkN 0 (.bl i) := ⟨rfl, rfl, Nat.le_refl _⟩
theorem okN_non : OkN 0 .non := ⟨rfl, rfl, Nat.le_refl _⟩
theorem okN_str {s : Str} (h : PyData.strOk s = true) : OkN 0 (.str s) := ⟨rfl, h, Nat.le_refl _⟩
theorem okN_all {n : Nat} : ∀ {xs : List D}, (∀ x ∈ xs, OkN n x) → D.noInss xs = true ∧ PyData.canLayAll0 (D.toPys xs) = true ∧ PyData.depthAll (D.toPys xs) ≤ n
  | [], _ => ⟨rfl, rfl, Nat.zero_le _⟩
  | x :: xs, h => by
    obtain ⟨a, b, c⟩ := okN_all (fun y hy => h y (List.mem_cons_of_mem _ hy))
    have hx := h x List.mem_cons_self
    refine ⟨?_, ?_, ?_⟩
    · show (x.noIns && D.noInss xs) = true
      rw [hx.a, a]
      rfl
    · show (PyData.canLay0 x.toPy && PyData.canLayAll0 (D.toPys xs)) = true
      rw [hx.b, b]
      rfl
    · show max (PyData.depth x.toPy) (PyData.depthAll (D.toPys xs)) ≤ n
      exact Nat.max_le.mpr ⟨hx.c, c⟩
theorem okN_tup {n : Nat} {xs : List D} (h : ∀ x ∈ xs, OkN n x) : OkN (n + 1) (.tup xs) := by
  obtain ⟨a, b, c⟩ := okN_all h
  exact ⟨a, b, by show PyData.depthAll (D.toPys xs) + 1 ≤ n + 1; omega⟩
theorem okN_lst {n : Nat} {xs : List D} (h : ∀ x ∈ xs, OkN n x) : OkN (n + 1) (.lst xs) := by
  obtain ⟨a, b, c⟩ := okN_all h
  exact ⟨a, b, by show PyData.depthAll (D.toPys xs) + 1 ≤ n + 1; omega⟩
mutual
theorem eqv_refl : ∀ (d : D), d.noIns = true → D.eqv d d = true
  | .non, _ => rfl
  | .bl b, _ => by unfold D.eqv; simp [D.toPy, PyData.eqv]
  | .int b, _ => by unfold D.eqv; simp [D.toPy, PyData.eqv]
  | .str b, _ => by unfold D.eqv; simp [D.toPy, PyData.eqv]
  | .lst xs, h => by unfold D.eqv; simp [D.toPy, PyData.eqv]; exact eqvs_refl xs h
  | .tup xs, h => by unfold D.eqv; simp [D.toPy, PyData.eqv]; exact eqvs_refl xs h
  | .ins _ _, h => by cases h
theorem eqvs_refl : ∀ (ds : List D), D.noInss ds = true → PyData.eqvAll (D.toPys ds) (D.toPys ds) = true
  | [], _ => rfl
  | d :: ds, h => by
    have h' : (d.noIns && D.noInss ds) = true := h
    rw [Bool.and_eq_true] at h'
    have e1 : PyData.eqv d.toPy d.toPy = true := eqv_refl d h'.1
    simp [D.toPys, PyData.eqvAll, e1, eqvs_refl ds h'.2]
end
theorem eqD_int {i j : Int} : eqD (.int i) (.int j) = some (.bl (i == j)) := by
  unfold eqD
  rw [okN_int.eq (by decide), okN_int.eq (by decide)]
  rfl
theorem neD_int {i j : Int} : neD (.int i) (.int j) = some (.bl (!(i == j))) := by
  unfold neD
  rw [okN_int.eq (by decide), okN_int.eq (by decide)]
  rfl
theorem eqD_of {m n : Nat} {a b : D} (ha : OkN m a) (hb : OkN n b) (hm : m ≤ 64) (hn : n ≤ 64) : eqD a b = some (.bl (a.eqv b)) := by
  unfold eqD
  rw [ha.eq hm, hb.eq hn]
  rfl
theorem neD_of {m n : Nat} {a b : D} (ha : OkN m a) (hb : OkN n b) (hm : m ≤ 64) (hn : n ≤ 64) : neD a b = some (.bl (!a.eqv b)) := by
  unfold neD
  rw [ha.eq hm, hb.eq hn]
  rfl
theorem eqD_self {m : Nat} {a : D} (ha : OkN m a) (hm : m ≤ 64) : eqD a a = some (.bl true) := by rw [eqD_of ha ha hm hm, eqv_refl a ha.a]
theorem neD_self {m : Nat} {a : D} (ha : OkN m a) (hm : m ≤ 64) : neD a a = some (.bl false) := by rw [neD_of ha ha hm hm, eqv_refl a ha.a]; rfl
theorem sz_le {n : Nat} (h : n ≤ 16777216) : n ≤ sizeLine := h
end DL
set_option maxRecDepth 100000
set_option maxHeartbeats 1000000
/-! # DL19: isinstance of data; loops. -/
namespace DL
open PySem L2 PyProof.Rows
theorem kit_int_int : kitB "int" "int" = some true := by decide +kernel
theorem kit_int_bool : kitB "int" "bool" = some false := by decide +kernel
theorem kit_int_str : kitB "int" "str" = some false := by decide +kernel
theorem kit_int_tuple : kitB "int" "tuple" = some false := by decide +kernel
theorem kit_int_list : kitB "int" "list" = some false := by decide +kernel
theorem kit_bool_int : kitB "bool" "int" = some true := by decide +kernel
theorem kit_bool_bool : kitB "bool" "bool" = some true := by decide +kernel
theorem kit_bool_str : kitB "bool" "str" = some false := by decide +kernel
theorem kit_bool_tuple : kitB "bool" "tuple" = some false := by decide +kernel
theorem kit_bool_list : kitB "bool" "list" = some false := by decide +kernel
theorem kit_str_int : kitB "str" "int" = some false := by decide +kernel
theorem kit_str_bool : kitB "str" "bool" = some false := by decide +kernel
theorem kit_str_str : kitB "str" "str" = some true := by decide +kernel
theorem kit_str_tuple : kitB "str" "tuple" = some false := by decide +kernel
theorem kit_str_list : kitB "str" "list" = some false := by decide +kernel
theorem kit_tuple_int : kitB "tuple" "int" = some false := by decide +kernel
theorem kit_tuple_bool : kitB "tuple" "bool" = some false := by decide +kernel
theorem kit_tuple_str : kitB "tuple" "str" = some false := by decide +kernel
theorem kit_tuple_tuple : kitB "tuple" "tuple" = some true := by decide +kernel
theorem kit_tuple_list : kitB "tuple" "list" = some false := by decide +kernel
theorem kit_list_int : kitB "list" "int" = some false := by decide +kernel
theorem kit_list_bool : kitB "list" "bool" = some false := by decide +kernel
theorem kit_list_str : kitB "list" "str" = some false := by decide +kernel
theorem kit_list_tuple : kitB "list" "tuple" = some false := by decide +kernel
theorem kit_list_list : kitB "list" "list" = some true := by decide +kernel
theorem kit_none_int : kitB "NoneType" "int" = some false := by decide +kernel
theorem kit_none_bool : kitB "NoneType" "bool" = some false := by decide +kernel
theorem kit_none_str : kitB "NoneType" "str" = some false := by decide +kernel
theorem kit_none_tuple : kitB "NoneType" "tuple" = some false := by decide +kernel
theorem kit_none_list : kitB "NoneType" "list" = some false := by decide +kernel
/-! ### loops whose turns go on -/
theorem forL_cons {t : D → DL.En → Option DL.En} {body : M Fl} {d : D} {ds : List D} {e e1 e2 : DL.En} (ht : t d e = some e1) (hb : body e1 = .ok .nx e2) : forL t body (d :: ds) e = forL t body ds e2 := by
  show (match t d e with
    | none => R.no
    | some e1 => match body e1 with
      | .ok .nx e2 => forL t body ds e2
      | .ok .ct e2 => forL t body ds e2
      | .ok .bk e2 => .ok .nx e2
      | r => r) = _
  rw [ht]
  dsimp only
  rw [hb]
theorem forL_inv {t : D → DL.En → Option DL.En} {body : M Fl} (I : List D → DL.En → Prop) : ∀ (ds : List D) (e : DL.En), I ds e → (∀ d r e, I (d :: r) e → ∃ e1 e2, t d e = some e1 ∧ body e1 = .ok .nx e2 ∧ I r e2) → ∃ e', forL t body ds e = .ok .nx e' ∧ I [] e'
  | [], e, h, _ => ⟨e, rfl, h⟩
  | d :: ds, e, h, hs => by
    obtain ⟨e1, e2, a, b, c⟩ := hs d ds e h
    rw [forL_cons a b]
    exact forL_inv I ds e2 c hs
/-- the same for a family of states (where the lent objects lie) -/
theorem forL_invU {ι : Type} {t : D → DL.En → Option DL.En} {body : M Fl} (I : List D → (ι → DL.En) → Prop) : ∀ (ds : List D) (e : ι → DL.En), I ds e →
    (∀ d r e, I (d :: r) e → ∃ e2 : ι → DL.En, (∀ a, ∃ e1, t d (e a) = some e1 ∧ body e1 = .ok .nx (e2 a)) ∧ I r e2) → ∃ e' : ι → DL.En, (∀ a, forL t body ds (e a) = .ok .nx (e' a)) ∧ I [] e'
  | [], e, h, _ => ⟨e, fun _ => rfl, h⟩
  | d :: ds, e, h, hs => by
    obtain ⟨e2, a, c⟩ := hs d ds e h
    obtain ⟨e', b, i⟩ := forL_invU I ds e2 c hs
    refine ⟨e', fun x => ?_, i⟩
    obtain ⟨e1, q1, q2⟩ := a x
    rw [forL_cons q1 q2]
    exact b x
theorem perm_eraseIdx {α : Type} : ∀ {l : List α} {k : Nat} {y : α}, l[k]? = some y → (y :: l.eraseIdx k).Perm l
  | [], _, _, h => by cases h
  | x :: l, 0, y, h => by
    have e : x = y := by simpa using h
    subst e
    exact .refl _
  | x :: l, k + 1, y, h => by
    have ih := perm_eraseIdx (l := l) (k := k) (y := y) (by simpa using h)
    exact (List.Perm.swap x y _).trans (ih.cons x)
theorem compL_nil {vs : List Nat} {t : D → DL.En → Option DL.En} {c : M Bool} {el : M D} {e : DL.En} : compL vs t c el [] e = .ok [] e := rfl
theorem compL_cons {vs : List Nat} {t : D → DL.En → Option DL.En} {c : M Bool} {el : M D} {d y : D} {ds ys : List D} {e e1 e2 e3 e4 : DL.En} (ht : t d e = some e1) (hc : c e1 = .ok true e2) (he : el e2 = .ok y e3) (hr : compL vs t c el ds (wipeE e3 vs) = .ok ys e4) :
    compL vs t c el (d :: ds) e = .ok (y :: ys) e4 := by
  simp [compL, ht, hc, he, hr]
theorem compL_skip {vs : List Nat} {t : D → DL.En → Option DL.En} {c : M Bool} {el : M D} {d : D} {ds : List D} {e e1 e2 : DL.En} (ht : t d e = some e1) (hc : c e1 = .ok false e2) : compL vs t c el (d :: ds) e = compL vs t c el ds (wipeE e2 vs) := by
  simp [compL, ht, hc]
theorem pw62 : (2 : Int) ^ 62 = 4611686018427387904 := by decide +kernel
theorem range1_run {m : M (List D)} {e e' : DL.En} {n : Nat} (h : m e = .ok [.int (n : Int)] e') (hn : n ≤ 1000000) : itRange1 m e = .ok (rangeL 0 n) e' := by
  have c : -(2 ^ 62) ≤ (n : Int) ∧ (n : Int) < 2 ^ 62 := by
    rw [pw62]
    omega
  have q : (if -(2 ^ 62) ≤ (n : Int) ∧ (n : Int) < 2 ^ 62 then some (rangeL 0 (n : Int).toNat) else none) = some (rangeL 0 n) := (if_pos c).trans (by rw [Int.toNat_natCast])
  unfold itRange1 M.bnd
  rw [h]
  dsimp only
  rw [q]
  rfl
end DL
set_option maxRecDepth 100000
set_option maxHeartbeats 1000000
/-! # DL20: texts of ints. -/
namespace DL
open PySem L2 PyProof.Rows
theorem len_of {s : String} : (Str.ofString s).length = s.toList.length := by
  rw [Str.ofString_eq_toList]
  simp [Str.length]
theorem ok_of {s : String} : PyData.strOk (Str.ofString s) = true := by
  rw [Str.ofString_eq_toList]
  unfold PyData.strOk
  simp
  intro c hc
  have h : c.toNat < 0xd800 ∨ (0xdfff < c.toNat ∧ c.toNat < 0x110000) := c.valid
  omega
theorem digs (n : Nat) : (toString (Int.ofNat n)).toList = Nat.toDigits 10 n := by
  show (Nat.repr n).toList = _
  simp [Nat.repr]
theorem digsN (n : Nat) : (toString (Int.negSucc n)).toList = '-' :: Nat.toDigits 10 (n + 1) := by
  show ("-" ++ Nat.repr (n + 1)).toList = _
  simp [Nat.repr]
theorem two_ten {n k : Nat} (h : n < 2 ^ k) : n < 10 ^ k := Nat.lt_of_lt_of_le h (Nat.pow_le_pow_left (by decide) k)
theorem len_int {i : Int} {k : Nat} (hk : 1 ≤ k) (h : i.natAbs < 2 ^ k) : (Str.ofString (toString i)).length ≤ k + 1 := by
  rw [len_of]
  cases i with
  | ofNat n =>
    rw [digs]
    exact Nat.le_succ_of_le (digits10_le hk (two_ten h))
  | negSucc n =>
    rw [digsN]
    exact Nat.succ_le_succ (digits10_le hk (two_ten h))
theorem len_app {a b : Str} : (a ++ b).length = a.length + b.length := by
  show (a.cps ++ b.cps).size = a.cps.size + b.cps.size
  simp
theorem ok_app {a b : Str} (ha : PyData.strOk a = true) (hb : PyData.strOk b = true) : PyData.strOk (a ++ b) = true := by
  unfold PyData.strOk at *
  show (a.cps ++ b.cps).all _ = true
  rw [Array.all_append, ha, hb]
  rfl
theorem empty_app {a : Str} : Str.empty ++ a = a := by
  show (⟨(#[] : Array Nat) ++ a.cps⟩ : Str) = a
  simp
end DL
set_option maxRecDepth 100000
set_option maxHeartbeats 1000000
/-! # DL21: what a meaning does with a family of states (where the lent objects lie). -/
namespace DL
open PySem L2 PyProof.Rows
/-- m, begun in each state of the family, ends with one answer -/
def Wp {ι α : Type} (m : M α) (e : ι → En) (Q : α → (ι → En) → Prop) : Prop := ∃ x e', (∀ a, m (e a) = .ok x (e' a)) ∧ Q x e'
/-- m ends with one exception -/
def Wx {ι α : Type} (m : M α) (e : ι → En) (Q : Nat → List (Str × D) → (ι → En) → Prop) : Prop := ∃ c fs e', (∀ a, m (e a) = .ex c fs (e' a)) ∧ Q c fs e'
section
variable {ι α β : Type} {e : ι → En}
theorem Wp.run {m : M α} {Q : α → (ι → En) → Prop} {x : α} {e' : ι → En} (h : ∀ a, m (e a) = .ok x (e' a)) (q : Q x e') : Wp m e Q := ⟨x, e', h, q⟩
theorem Wp.imp {m : M α} {Q Q' : α → (ι → En) → Prop} (h : Wp m e Q) (hq : ∀ x e', Q x e' → Q' x e') : Wp m e Q' := by
  obtain ⟨x, e', h, q⟩ := h
  exact ⟨x, e', h, hq _ _ q⟩
theorem Wp.bnd {m : M α} {k : α → M β} {Q : β → (ι → En) → Prop} (h : Wp m e fun x e1 => Wp (k x) e1 Q) : Wp (M.bnd m k) e Q := by
  obtain ⟨x, e1, h1, y, e2, h2, q⟩ := h
  exact ⟨y, e2, fun a => by unfold M.bnd; rw [h1]; exact h2 a, q⟩
theorem Wp.ret {x : α} {Q : α → (ι → En) → Prop} (h : Q x e) : Wp (M.ret x) e Q := ⟨x, e, fun _ => rfl, h⟩
theorem Wp.opt {o : Option α} {x : α} {Q : α → (ι → En) → Prop} (ho : o = some x) (h : Q x e) : Wp (M.opt o) e Q := ⟨x, e, fun _ => by rw [ho]; rfl, h⟩
/-- behind a statement -/
def SeqK (n : M Fl) (Q : Fl → (ι → En) → Prop) : Fl → (ι → En) → Prop
  | .nx, e => Wp n e Q
  | .ct, e => Q .ct e
  | .bk, e => Q .bk e
  | .rt d, e => Q (.rt d) e
theorem Wp.seq {m n : M Fl} {Q : Fl → (ι → En) → Prop} (h : Wp m e (SeqK n Q)) : Wp (seqM m n) e Q := by
  obtain ⟨x, e1, h1, q⟩ := h
  cases x with
  | nx =>
    obtain ⟨y, e2, h2, q⟩ := q
    exact ⟨y, e2, fun a => by unfold seqM; rw [h1]; exact h2 a, q⟩
  | ct => exact ⟨.ct, e1, fun a => by unfold seqM; rw [h1], q⟩
  | bk => exact ⟨.bk, e1, fun a => by unfold seqM; rw [h1], q⟩
  | rt d => exact ⟨.rt d, e1, fun a => by unfold seqM; rw [h1], q⟩
/-- a statement that goes on -/
theorem Wp.seqN {m n : M Fl} {Q : Fl → (ι → En) → Prop} (h : Wp m e fun fl e1 => fl = .nx ∧ Wp n e1 Q) : Wp (seqM m n) e Q :=
  Wp.seq (h.imp fun x e' ⟨a, b⟩ => by subst a; exact b)
/-- a statement that goes on, evaluated -/
theorem Wp.seqR {m n : M Fl} {Q : Fl → (ι → En) → Prop} {e1 : ι → En} (h : ∀ a, m (e a) = .ok .nx (e1 a)) (q : Wp n e1 Q) : Wp (seqM m n) e Q := Wp.seq (Wp.run h q)
theorem Wp.nx {Q : Fl → (ι → En) → Prop} (h : Q .nx e) : Wp nxM e Q := Wp.ret h
theorem Wp.set {i : Nat} {m : M D} {Q : Fl → (ι → En) → Prop} (h : Wp m e fun d e1 => Q .nx fun a => (e1 a).set i (.dat d)) : Wp (setM i m) e Q := by
  obtain ⟨x, e1, h1, q⟩ := h
  exact ⟨.nx, _, fun a => by unfold setM M.bnd; rw [h1], q⟩
theorem Wp.own {i : Nat} {m : M Ob} {Q : Fl → (ι → En) → Prop} (h : Wp m e fun d e1 => Q .nx fun a => (e1 a).set i (.own none d)) : Wp (ownM i m) e Q := by
  obtain ⟨x, e1, h1, q⟩ := h
  exact ⟨.nx, _, fun a => by unfold ownM M.bnd; rw [h1], q⟩
theorem Wp.retM {m : M D} {Q : Fl → (ι → En) → Prop} (h : Wp m e fun d e1 => Q (.rt d) e1) : Wp (DL.retM m) e Q := Wp.bnd (h.imp fun _ _ q => .ret q)
theorem Wp.drop {m : M D} {Q : Fl → (ι → En) → Prop} (h : Wp m e fun d e1 => Q .nx e1) : Wp (dropM m) e Q := Wp.bnd (h.imp fun _ _ q => .ret q)
/-- both ways of an if -/
theorem Wp.ite {t : M Bool} {m n : M Fl} {Q : Fl → (ι → En) → Prop} {b : Bool} {e1 : ι → En} (ht : ∀ a, t (e a) = .ok b (e1 a)) (h1 : b = true → Wp m e1 Q) (h0 : b = false → Wp n e1 Q) : Wp (ifM t m n) e Q := by
  cases b with
  | true =>
    obtain ⟨x, e2, h2, q⟩ := h1 rfl
    exact ⟨x, e2, fun a => by unfold ifM M.bnd; rw [ht]; exact h2 a, q⟩
  | false =>
    obtain ⟨x, e2, h2, q⟩ := h0 rfl
    exact ⟨x, e2, fun a => by unfold ifM M.bnd; rw [ht]; exact h2 a, q⟩
def IfK (m n : M Fl) (Q : Fl → (ι → En) → Prop) (b : Bool) (e : ι → En) : Prop := (b = true → Wp m e Q) ∧ (b = false → Wp n e Q)
theorem Wp.ifM {t : M Bool} {m n : M Fl} {Q : Fl → (ι → En) → Prop} (h : Wp t e (IfK m n Q)) : Wp (ifM t m n) e Q := by
  obtain ⟨b, e1, h1, q1, q0⟩ := h
  exact Wp.ite h1 q1 q0
/-- behind a turn -/
def TurnK (I : (ι → En) → Prop) (Q : Fl → (ι → En) → Prop) : Fl → (ι → En) → Prop
  | .nx, e => I e
  | .ct, e => I e
  | .bk, e => Q .nx e
  | .rt d, e => Q (.rt d) e
theorem Wp.forL {t : D → En → Option En} {body : M Fl} {Q : Fl → (ι → En) → Prop} (I : List D → (ι → En) → Prop) (done : ∀ e, I [] e → Q .nx e)
    (turn : ∀ d r e, I (d :: r) e → ∃ e1 : ι → En, (∀ a, t d (e a) = some (e1 a)) ∧ Wp body e1 (TurnK (I r) Q)) : ∀ (ds : List D) (e : ι → En), I ds e → Wp (forL t body ds) e Q
  | [], e, h => ⟨.nx, e, fun _ => rfl, done e h⟩
  | d :: ds, e, h => by
    obtain ⟨e1, h1, fl, e2, h2, q⟩ := turn d ds e h
    have step : ∀ a, DL.forL t body (d :: ds) (e a) = (match (R.ok fl (e2 a) : R Fl) with
      | .ok .nx e2 => DL.forL t body ds e2
      | .ok .ct e2 => DL.forL t body ds e2
      | .ok .bk e2 => .ok .nx e2
      | r => r) := fun a => by
      rw [← h2 a]
      show (match t d (e a) with
        | none => R.no
        | some e1 => match body e1 with
          | .ok .nx e2 => DL.forL t body ds e2
          | .ok .ct e2 => DL.forL t body ds e2
          | .ok .bk e2 => .ok .nx e2
          | r => r) = _
      rw [h1 a]
    cases fl with
    | nx =>
      obtain ⟨y, e3, h3, q⟩ := Wp.forL I done turn ds e2 q
      exact ⟨y, e3, fun a => by rw [step]; exact h3 a, q⟩
    | ct =>
      obtain ⟨y, e3, h3, q⟩ := Wp.forL I done turn ds e2 q
      exact ⟨y, e3, fun a => by rw [step]; exact h3 a, q⟩
    | bk => exact ⟨.nx, e2, fun a => step a, q⟩
    | rt d => exact ⟨.rt d, e2, fun a => step a, q⟩
theorem Wp.forM {it : M (List D)} {t : D → En → Option En} {body : M Fl} {Q : Fl → (ι → En) → Prop} (I : List D → (ι → En) → Prop) (hit : Wp it e I) (done : ∀ e, I [] e → Q .nx e)
    (turn : ∀ d r e, I (d :: r) e → ∃ e1 : ι → En, (∀ a, t d (e a) = some (e1 a)) ∧ Wp body e1 (TurnK (I r) Q)) : Wp (forM it t body) e Q := by
  obtain ⟨ds, e1, h1, q⟩ := hit
  obtain ⟨y, e2, h2, q⟩ := Wp.forL I done turn ds e1 q
  exact ⟨y, e2, fun a => by unfold DL.forM M.bnd; rw [h1]; exact h2 a, q⟩
theorem Wp.compL {vs : List Nat} {t : D → En → Option En} {c : M Bool} {el : M D} (I : List D → List D → (ι → En) → Prop)
    (turn : ∀ d r ys e, I (d :: r) ys e → ∃ e1 : ι → En, (∀ a, t d (e a) = some (e1 a)) ∧ Wp c e1 fun b e2 => if b = true then Wp el e2 fun y e3 => I r (ys ++ [y]) fun a => wipeE (e3 a) vs else I r ys fun a => wipeE (e2 a) vs) :
    ∀ (ds : List D) (ys : List D) (e : ι → En), I ds ys e → Wp (compL vs t c el ds) e fun zs e' => I [] (ys ++ zs) e'
  | [], ys, e, h => ⟨[], e, fun _ => rfl, by show I [] (ys ++ []) e; rw [List.append_nil]; exact h⟩
  | d :: ds, ys, e, h => by
    obtain ⟨e1, h1, b, e2, h2, q⟩ := turn d ds ys e h
    cases b with
    | true =>
      rw [if_pos rfl] at q
      obtain ⟨y, e3, h3, q⟩ := q
      obtain ⟨zs, e4, h4, q⟩ := Wp.compL I turn ds _ _ q
      refine ⟨y :: zs, e4, fun a => ?_, by
        have q' : I [] (ys ++ [y] ++ zs) e4 := q
        rw [List.append_assoc] at q'
        exact q'⟩
      simp [DL.compL, h1, h2, h3, h4]
    | false =>
      rw [if_neg Bool.false_ne_true] at q
      obtain ⟨zs, e4, h4, q⟩ := Wp.compL I turn ds _ _ q
      refine ⟨zs, e4, fun a => ?_, q⟩
      simp [DL.compL, h1, h2, h4]
theorem Wp.compM {vs : List Nat} {it : M (List D)} {t : D → En → Option En} {c : M Bool} {el : M D} {Q : Ob → (ι → En) → Prop} (I : List D → List D → (ι → En) → Prop)
    (hit : Wp it e fun ds e1 => ds.length ≤ sizeLine ∧ I ds [] fun a => wipeE (e1 a) vs) (done : ∀ ys e, I [] ys e → Q (.lst ys) fun a => wipeE (e a) vs)
    (turn : ∀ d r ys e, I (d :: r) ys e → ∃ e1 : ι → En, (∀ a, t d (e a) = some (e1 a)) ∧ Wp c e1 fun b e2 => if b = true then Wp el e2 fun y e3 => I r (ys ++ [y]) fun a => wipeE (e3 a) vs else I r ys fun a => wipeE (e2 a) vs) : Wp (compM vs it t c el) e Q := by
  obtain ⟨ds, e1, h1, hl, q⟩ := hit
  obtain ⟨zs, e2, h2, q⟩ := Wp.compL I turn ds [] _ q
  refine ⟨.lst zs, _, fun a => ?_, done _ _ q⟩
  unfold DL.compM M.bnd
  rw [h1]
  dsimp only
  rw [if_pos hl, h2]
end
/-! ### a def's answer -/
def Fin (gs : List Ag) (R : D → List Ob → Prop) : Fl → ((Nat → Addr) → En) → Prop := fun fl e => match fl with
  | .rt d => ∃ os, (∀ adr, outs adr 0 gs (e adr) = some os) ∧ R d os
  | .nx => ∃ os, (∀ adr, outs adr 0 gs (e adr) = some os) ∧ R .non os
  | _ => False
theorem Wp.fn {p n : Nat} {m : M Fl} {gs : List Ag} {R : D → List Ob → Prop} (hl : gs.length = p) (h : Wp m (fun adr => ini adr gs n) (Fin gs R)) : ∃ d os, autoF p m n gs = some (.ret d, os) ∧ R d os := by
  obtain ⟨fl, e', h1, q⟩ := h
  cases fl with
  | nx =>
    obtain ⟨os, h2, q⟩ := q
    refine ⟨_, os, autoF_eq hl fun adr => ?_, q⟩
    unfold fin
    rw [h1]
    dsimp only
    rw [h2]
    rfl
  | ct => exact q.elim
  | bk => exact q.elim
  | rt d =>
    obtain ⟨os, h2, q⟩ := q
    refine ⟨_, os, autoF_eq hl fun adr => ?_, q⟩
    unfold fin
    rw [h1]
    dsimp only
    rw [h2]
    rfl
end DL
set_option maxRecDepth 100000
set_option maxHeartbeats 1000000
/-! # DL22: the helpers that all laws share, by their meanings. -/
namespace DL
open PySem L2 PyProof.Rows
/-! ### comprehensions whose turns change nothing -/
theorem compL_pure {vs : List Nat} {t : D → DL.En → Option DL.En} {c : M Bool} {el : M D} {e : DL.En} {E : D → DL.En} {p : D → Bool} {f : D → D} : ∀ {ds : List D}, (∀ d ∈ ds, t d e = some (E d)) → (∀ d ∈ ds, c (E d) = .ok (p d) (E d)) → (∀ d ∈ ds, p d = true → el (E d) = .ok (f d) (E d)) → (∀ d ∈ ds, wipeE (E d) vs = e) →
    compL vs t c el ds e = .ok ((ds.filter p).map f) e
  | [], _, _, _, _ => rfl
  | d :: ds, h1, h2, h3, h4 => by
    have ih := compL_pure (ds := ds) (fun x hx => h1 x (List.mem_cons_of_mem _ hx)) (fun x hx => h2 x (List.mem_cons_of_mem _ hx)) (fun x hx => h3 x (List.mem_cons_of_mem _ hx)) (fun x hx => h4 x (List.mem_cons_of_mem _ hx))
    have a := h1 d List.mem_cons_self
    have b := h2 d List.mem_cons_self
    have c' := h3 d List.mem_cons_self
    have w := h4 d List.mem_cons_self
    cases q : p d with
    | true =>
      rw [q] at b
      rw [List.filter_cons_of_pos q, List.map_cons]
      exact compL_cons a b (c' q) (by rw [w]; exact ih)
    | false =>
      rw [q] at b
      rw [List.filter_cons_of_neg (by rw [q]; exact Bool.false_ne_true), compL_skip a b, w]
      exact ih
theorem compM_pure {vs : List Nat} {it : M (List D)} {t : D → DL.En → Option DL.En} {c : M Bool} {el : M D} {e e1 : DL.En} {ds : List D} (E : D → DL.En) (p : D → Bool) (f : D → D) (hi : it e = .ok ds e1) (hz : ds.length ≤ 16777216) (h1 : ∀ d ∈ ds, t d (wipeE e1 vs) = some (E d)) (h2 : ∀ d ∈ ds, c (E d) = .ok (p d) (E d))
    (h3 : ∀ d ∈ ds, p d = true → el (E d) = .ok (f d) (E d)) (h4 : ∀ d ∈ ds, wipeE (E d) vs = wipeE e1 vs) : compM vs it t c el e = .ok (.lst ((ds.filter p).map f)) (wipeE (wipeE e1 vs) vs) := by
  unfold compM M.bnd
  rw [hi]
  dsimp only
  rw [if_pos (sz_le hz), compL_pure h1 h2 h3 h4]
theorem filter_tt {α : Type} (l : List α) : l.filter (fun _ => true) = l := by simp
/-- without a test -/
theorem compM_map {vs : List Nat} {it : M (List D)} {t : D → DL.En → Option DL.En} {el : M D} {e e1 : DL.En} {ds : List D} (E : D → DL.En) (f : D → D) (hi : it e = .ok ds e1) (hz : ds.length ≤ 16777216) (h1 : ∀ d ∈ ds, t d (wipeE e1 vs) = some (E d))
    (h3 : ∀ d ∈ ds, el (E d) = .ok (f d) (E d)) (h4 : ∀ d ∈ ds, wipeE (E d) vs = wipeE e1 vs) : compM vs it t (M.ret true) el e = .ok (.lst (ds.map f)) (wipeE (wipeE e1 vs) vs) := by
  have q := compM_pure (c := M.ret true) E (fun _ => true) f hi hz h1 (fun d hd => rfl) (fun d hd _ => h3 d hd) h4
  rw [filter_tt] at q
  exact q
/-! ### how deep data is; data with tuples for lists, and lists for tuples -/
mutual
def D.dep : D → Nat
  | .lst xs => D.deps xs + 1
  | .tup xs => D.deps xs + 1
  | .non | .bl _ | .int _ | .str _ | .ins _ _ => 0
def D.deps : List D → Nat
  | [] => 0
  | d :: ds => max d.dep (D.deps ds)
end
mutual
def D.tt : D → D
  | .lst xs => .tup (D.tts xs)
  | .tup xs => .tup (D.tts xs)
  | .non => .non
  | .bl b => .bl b
  | .int i => .int i
  | .str s => .str s
  | .ins c fs => .ins c fs
def D.tts : List D → List D
  | [] => []
  | d :: ds => d.tt :: D.tts ds
end
mutual
def D.ll : D → D
  | .lst xs => .lst (D.lls xs)
  | .tup xs => .lst (D.lls xs)
  | .non => .non
  | .bl b => .bl b
  | .int i => .int i
  | .str s => .str s
  | .ins c fs => .ins c fs
def D.lls : List D → List D
  | [] => []
  | d :: ds => d.ll :: D.lls ds
end
mutual
/-- told by the law's plain -/
def D.pl : D → Bool
  | .tup xs => D.pls xs
  | .non | .int _ | .str _ => true
  | .bl _ | .lst _ | .ins _ _ => false
def D.pls : List D → Bool
  | [] => true
  | d :: ds => d.pl && D.pls ds
end
mutual
/-- lists short enough -/
def D.szd : D → Bool
  | .lst xs => decide (xs.length ≤ 16777216) && D.szds xs
  | .tup xs => decide (xs.length ≤ 16777216) && D.szds xs
  | .non | .bl _ | .int _ | .str _ => true
  | .ins _ _ => false
def D.szds : List D → Bool
  | [] => true
  | d :: ds => d.szd && D.szds ds
end
theorem deps_mem {d : D} : ∀ {ds : List D}, d ∈ ds → d.dep ≤ D.deps ds
  | [], h => (List.not_mem_nil h).elim
  | x :: ds, h => by
    rcases List.mem_cons.mp h with rfl | h
    · exact Nat.le_max_left _ _
    · exact Nat.le_trans (deps_mem h) (Nat.le_max_right _ _)
theorem szds_mem {d : D} : ∀ {ds : List D}, D.szds ds = true → d ∈ ds → d.szd = true
  | [], _, h => (List.not_mem_nil h).elim
  | x :: ds, q, h => by
    have q' : (x.szd && D.szds ds) = true := q
    rw [Bool.and_eq_true] at q'
    rcases List.mem_cons.mp h with rfl | h
    · exact q'.1
    · exact szds_mem q'.2 h
theorem tts_map : ∀ (ds : List D), D.tts ds = ds.map D.tt
  | [] => rfl
  | d :: ds => by show d.tt :: D.tts ds = _; rw [tts_map ds]; rfl
theorem lls_map : ∀ (ds : List D), D.lls ds = ds.map D.ll
  | [] => rfl
  | d :: ds => by show d.ll :: D.lls ds = _; rw [lls_map ds]; rfl
theorem pls_all : ∀ (ds : List D), D.pls ds = ds.all D.pl
  | [] => rfl
  | d :: ds => by show (d.pl && D.pls ds) = _; rw [pls_all ds]; rfl
section
variable {F : FS}
/-! ### the draws -/
noncomputable abbrev pickF : FS := autoF 2 pickM 4
structure Nx (b b' : Bag) : Prop where
  ok : 0 ≤ b'.at_
  lc : b'.lc = b.lc
  cs : b'.cs = b.cs
theorem Nx.trans {a b c : Bag} (h : Nx a b) (g : Nx b c) : Nx a c := ⟨g.ok, g.lc.trans h.lc, g.cs.trans h.cs⟩
theorem Nx.refl {a : Bag} (h : 0 ≤ a.at_) : Nx a a := ⟨h, rfl, rfl⟩
theorem log2_small {n k : Nat} (hn : 0 < n) (h : n < 2 ^ k) : n.log2 < k := (Nat.log2_lt (Nat.pos_iff_ne_zero.mp hn)).mpr h
theorem log2_lt {n k : Nat} (hk : 0 < k) (h : n < 2 ^ k) : n.log2 < k := by
  rcases Nat.eq_zero_or_pos n with rfl | hn
  · simpa using hk
  · exact log2_small hn h
theorem pick_r {b : Bag} (hb : 0 ≤ b.at_) {m : Int} (h0 : 0 < m) (h9 : m.natAbs.log2 < 9000) : ∃ r b', pickF [.o (.bag b), .d (.int m)] = some (.ret (.int r), [.bag b']) ∧ 0 ≤ r ∧ r < m ∧ Nx b b' := by
  obtain ⟨r, b', h, d⟩ := pick_run hb h0 h9
  exact ⟨r, b', h, d.lo, d.hi, d.ok, d.lc, d.cs⟩
/-- the same with a number -/
theorem pick_n {b : Bag} (hb : 0 ≤ b.at_) {m : Nat} (h0 : 0 < m) (h9 : m < 2 ^ 200) : ∃ r b', pickF [.o (.bag b), .d (.int m)] = some (.ret (.int (r : Nat)), [.bag b']) ∧ r < m ∧ Nx b b' := by
  obtain ⟨r, b', h, h1, h2, h3⟩ := pick_r hb (m := m) (by omega) (by
    show m.log2 < 9000
    exact Nat.lt_trans (log2_lt (by decide) h9) (by decide))
  obtain ⟨n, rfl⟩ := Int.eq_ofNat_of_zero_le h1
  exact ⟨n, b', h, by omega, h3⟩
def choiceM (F : FS) : M Fl := retM (op2 ixD (getV 1) (callM F (refV 0 (consV (bltM lenD (consA (getV 1) (M.ret []))) (M.ret [])))))
noncomputable abbrev choiceF : FS := autoF 2 (choiceM pickF) 2
theorem atI_n {xs : List D} {n : Nat} (h : n < xs.length) : atI xs (n : Int) = some xs[n] := by
  have g : (n : Int) < xs.length := by omega
  unfold atI ixN
  rw [if_pos (Int.natCast_nonneg n), if_pos g]
  simp [h]
theorem choice_r {b : Bag} (hb : 0 ≤ b.at_) {xs : List D} (h0 : xs ≠ []) (hz : xs.length < 2 ^ 200) : ∃ x b', choiceF [.o (.bag b), .d (.lst xs)] = some (.ret x, [.bag b']) ∧ x ∈ xs ∧ Nx b b' := by
  have hp : 0 < xs.length := List.length_pos_iff.mpr h0
  obtain ⟨r, b', h, h1, h3⟩ := pick_n hb hp hz
  have hx := atI_n h1
  refine ⟨xs[r], b', autoF_eq rfl fun adr => ?_, List.getElem_mem h1, h3⟩
  simp [choiceM, DL.ini, DL.agsF, DL.fin, DL.outs, DL.seqM, M.bnd, M.ret, M.opt, DL.op2, DL.op1, DL.getV, DL.setM, DL.ifM, DL.tstB, DL.asB, DL.retM, DL.nxM, DL.bltM, DL.consA, DL.consV, DL.refV, DL.callM, DL.argG, DL.refs, DL.putR, DL.mkTup, DL.mkLst, DL.andV, DL.orV, DL.notV, DL.andB, DL.orB, DL.notB, DL.isiM, DL.addD, DL.subD, DL.mulD, DL.gtD, DL.ltD, DL.geD, DL.leD, DL.fdivD, DL.modD, DL.powD, DL.negD, DL.intD, DL.lenD, DL.absD, DL.dropM, DL.parM, DL.eqD_int, DL.neD_int, PySem.sizeLine, ixD, h, hx]
theorem choice_t {b : Bag} (hb : 0 ≤ b.at_) {xs : List D} (h0 : xs ≠ []) (hz : xs.length < 2 ^ 200) : ∃ x b', choiceF [.o (.bag b), .d (.tup xs)] = some (.ret x, [.bag b']) ∧ x ∈ xs ∧ Nx b b' := by
  have hp : 0 < xs.length := List.length_pos_iff.mpr h0
  obtain ⟨r, b', h, h1, h3⟩ := pick_n hb hp hz
  have hx := atI_n h1
  refine ⟨xs[r], b', autoF_eq rfl fun adr => ?_, List.getElem_mem h1, h3⟩
  simp [choiceM, DL.ini, DL.agsF, DL.fin, DL.outs, DL.seqM, M.bnd, M.ret, M.opt, DL.op2, DL.op1, DL.getV, DL.setM, DL.ifM, DL.tstB, DL.asB, DL.retM, DL.nxM, DL.bltM, DL.consA, DL.consV, DL.refV, DL.callM, DL.argG, DL.refs, DL.putR, DL.mkTup, DL.mkLst, DL.andV, DL.orV, DL.notV, DL.andB, DL.orB, DL.notB, DL.isiM, DL.addD, DL.subD, DL.mulD, DL.gtD, DL.ltD, DL.geD, DL.leD, DL.fdivD, DL.modD, DL.powD, DL.negD, DL.intD, DL.lenD, DL.absD, DL.dropM, DL.parM, DL.eqD_int, DL.neD_int, PySem.sizeLine, ixD, h, hx]
def oneInM (F : FS) : M Fl := retM (op2 eqD (callM F (refV 0 (consV (getV 1) (M.ret [])))) (M.ret (.int 0)))
noncomputable abbrev oneInF : FS := autoF 2 (oneInM pickF) 2
theorem one_in_r {b : Bag} (hb : 0 ≤ b.at_) {m : Int} (h0 : 0 < m) (h9 : m.natAbs.log2 < 9000) : ∃ k b', oneInF [.o (.bag b), .d (.int m)] = some (.ret (.bl k), [.bag b']) ∧ Nx b b' := by
  obtain ⟨r, b', h, h1, h2, h3⟩ := pick_r hb h0 h9
  refine ⟨r == 0, b', autoF_eq rfl fun adr => ?_, h3⟩
  simp [oneInM, DL.ini, DL.agsF, DL.fin, DL.outs, DL.seqM, M.bnd, M.ret, M.opt, DL.op2, DL.op1, DL.getV, DL.setM, DL.ifM, DL.tstB, DL.asB, DL.retM, DL.nxM, DL.bltM, DL.consA, DL.consV, DL.refV, DL.callM, DL.argG, DL.refs, DL.putR, DL.mkTup, DL.mkLst, DL.andV, DL.orV, DL.notV, DL.andB, DL.orB, DL.notB, DL.isiM, DL.addD, DL.subD, DL.mulD, DL.gtD, DL.ltD, DL.geD, DL.leD, DL.fdivD, DL.modD, DL.powD, DL.negD, DL.intD, DL.lenD, DL.absD, DL.dropM, DL.parM, DL.eqD_int, DL.neD_int, PySem.sizeLine, h]
def shuffledM (F : FS) : M Fl := (seqM (ownM 2 (listM (getV 1))) (seqM (ownM 3 (lstM (M.ret []))) (seqM (forM (itRange1 (consA (bltM lenD (consA (getV 1) (M.ret []))) (M.ret []))) (gSet 4) (dropM (appendM 3 (popAtM 2 (peekM (callM F (refV 0 (consV (bltM lenD (consA (getV 2) (M.ret []))) (M.ret [])))))))))
  (retM (getV 3)))))
noncomputable abbrev shuffledF : FS := autoF 2 (shuffledM pickF) 5
theorem shuffled_turn {b : Bag} (hb : 0 ≤ b.at_) {x d : D} {rest row : List D} (h0 : rest ≠ []) (hz : rest.length + row.length ≤ 100000) :
    ∃ (k : Nat) (y : D) (b' : Bag), rest[k]? = some y ∧ Nx b b' ∧ ∀ a : Addr, dropM (appendM 3 (popAtM 2 (peekM (callM pickF (refV 0 (consV (bltM lenD (consA (getV 2) (M.ret []))) (M.ret []))))))) [.own (some a) (.bag b), .dat x, .own none (.lst rest), .own none (.lst row), .dat d] = .ok .nx [.own (some a) (.bag b'), .dat x, .own none (.lst (rest.eraseIdx k)), .own none (.lst (row ++ [y])), .dat d] := by
  have hp : 0 < rest.length := List.length_pos_iff.mpr h0
  obtain ⟨n, b', h, hn, h3⟩ := pick_n hb (m := rest.length) hp (Nat.lt_of_le_of_lt (m := 100000) (by omega) (by decide))
  have hx : rest[n]? = some rest[n] := List.getElem?_eq_getElem hn
  have g1 : (n : Int) < rest.length := by omega
  have g2 : (n : Int) < 9223372036854775808 := by omega
  have g3 : (-9223372036854775808 : Int) ≤ n := by omega
  have g4 : row.length < 16777216 := by omega
  refine ⟨n, rest[n], b', hx, h3, fun a => ?_⟩
  simp [DL.ini, DL.agsF, DL.fin, DL.outs, DL.seqM, M.bnd, M.ret, M.opt, DL.op2, DL.op1, DL.getV, DL.setM, DL.ifM, DL.tstB, DL.asB, DL.retM, DL.nxM, DL.bltM, DL.consA, DL.consV, DL.refV, DL.callM, DL.argG, DL.refs, DL.putR, DL.mkTup, DL.mkLst, DL.andV, DL.orV, DL.notV, DL.andB, DL.orB, DL.notB, DL.isiM, DL.addD, DL.subD, DL.mulD, DL.gtD, DL.ltD, DL.geD, DL.leD, DL.fdivD, DL.modD, DL.powD, DL.negD, DL.intD, DL.lenD, DL.absD, DL.dropM, DL.parM, DL.eqD_int, DL.neD_int, PySem.sizeLine, appendM, popAtM, peekM, peekG, ownL, frozS, thawE, thawS, ixN, D.noLst, h, h3.lc, h3.cs, hx, g1, g2, g3, g4, hn]
theorem shuffled_seq {b : Bag} (hb : 0 ≤ b.at_) {x : D} {xs : List D} (hx : seqOf x = some xs) (hlen : lenD [x] = some (.int xs.length)) (hz : xs.length ≤ 100000) : ∃ ys b', shuffledF [.o (.bag b), .d x] = some (.ret (.lst ys), [.bag b']) ∧ ys.Perm xs ∧ Nx b b' := by
  have key : Wp (shuffledM pickF) (fun adr : Nat → Addr => ini adr [.o (.bag b), .d x] 5) (Fin [.o (.bag b), .d x] fun d os => ∃ ys b', d = .lst ys ∧ os = [.bag b'] ∧ ys.Perm xs ∧ Nx b b') := by
    refine Wp.seqR (e1 := fun adr => [.own (some (adr 0)) (.bag b), .dat x, .own none (.lst xs), .un, .un]) (fun adr => by simp [DL.ini, DL.agsF, DL.fin, DL.outs, DL.seqM, M.bnd, M.ret, M.opt, DL.op2, DL.op1, DL.getV, DL.setM, DL.ifM, DL.tstB, DL.asB, DL.retM, DL.nxM, DL.bltM, DL.consA, DL.consV, DL.refV, DL.callM, DL.argG, DL.refs, DL.putR, DL.mkTup, DL.mkLst, DL.andV, DL.orV, DL.notV, DL.andB, DL.orB, DL.notB, DL.isiM, DL.addD, DL.subD, DL.mulD, DL.gtD, DL.ltD, DL.geD, DL.leD, DL.fdivD, DL.modD, DL.powD, DL.negD, DL.intD, DL.lenD, DL.absD, DL.dropM, DL.parM, DL.eqD_int, DL.neD_int, PySem.sizeLine, ownM, listM, hx]) ?_
    refine Wp.seqR (e1 := fun adr => [.own (some (adr 0)) (.bag b), .dat x, .own none (.lst xs), .own none (.lst []), .un]) (fun adr => by simp [DL.ini, DL.agsF, DL.fin, DL.outs, DL.seqM, M.bnd, M.ret, M.opt, DL.op2, DL.op1, DL.getV, DL.setM, DL.ifM, DL.tstB, DL.asB, DL.retM, DL.nxM, DL.bltM, DL.consA, DL.consV, DL.refV, DL.callM, DL.argG, DL.refs, DL.putR, DL.mkTup, DL.mkLst, DL.andV, DL.orV, DL.notV, DL.andB, DL.orB, DL.notB, DL.isiM, DL.addD, DL.subD, DL.mulD, DL.gtD, DL.ltD, DL.geD, DL.leD, DL.fdivD, DL.modD, DL.powD, DL.negD, DL.intD, DL.lenD, DL.absD, DL.dropM, DL.parM, DL.eqD_int, DL.neD_int, PySem.sizeLine, ownM, lstM]) ?_
    refine Wp.seq (Wp.forM (fun r e => ∃ b1 rest row s4, (e = fun adr => [.own (some (adr 0)) (.bag b1), .dat x, .own none (.lst rest), .own none (.lst row), s4]) ∧ rest.length = r.length ∧ (rest ++ row).Perm xs ∧ Nx b b1) ?_ ?_ ?_)
    · refine Wp.run (x := rangeL 0 xs.length) (e' := fun adr => [.own (some (adr 0)) (.bag b), .dat x, .own none (.lst xs), .own none (.lst []), .un]) (fun adr => range1_run ?_ (by omega)) ⟨b, xs, [], .un, rfl, (rangeL_length _ _).symm, by rw [List.append_nil], .refl hb⟩
      simp [consA, bltM, getV, M.bnd, M.ret, M.opt, hlen]
    · rintro e ⟨b1, rest, row, s4, rfl, e2, e3, e4⟩
      have hr : rest = [] := List.eq_nil_of_length_eq_zero e2
      subst hr
      refine Wp.run (x := .rt (.lst row)) (e' := fun adr => [.own (some (adr 0)) (.bag b1), .dat x, .own none (.lst []), .dat (.lst row), s4]) (fun adr => by simp [DL.ini, DL.agsF, DL.fin, DL.outs, DL.seqM, M.bnd, M.ret, M.opt, DL.op2, DL.op1, DL.getV, DL.setM, DL.ifM, DL.tstB, DL.asB, DL.retM, DL.nxM, DL.bltM, DL.consA, DL.consV, DL.refV, DL.callM, DL.argG, DL.refs, DL.putR, DL.mkTup, DL.mkLst, DL.andV, DL.orV, DL.notV, DL.andB, DL.orB, DL.notB, DL.isiM, DL.addD, DL.subD, DL.mulD, DL.gtD, DL.ltD, DL.geD, DL.leD, DL.fdivD, DL.modD, DL.powD, DL.negD, DL.intD, DL.lenD, DL.absD, DL.dropM, DL.parM, DL.eqD_int, DL.neD_int, PySem.sizeLine]) ?_
      exact ⟨[.bag b1], fun adr => by simp [outs], row, b1, rfl, rfl, by simpa using e3, e4⟩
    · rintro d r e ⟨b1, rest, row, s4, rfl, e2, e3, e4⟩
      have hl := e3.length_eq
      rw [List.length_append] at hl
      obtain ⟨k, y, b', h1, h2, h3⟩ := shuffled_turn (x := x) (d := d) (rest := rest) (row := row) e4.ok (by intro q; rw [q] at e2; cases e2) (by omega)
      obtain ⟨hk, hy⟩ := List.getElem?_eq_some_iff.mp h1
      refine ⟨fun adr => [.own (some (adr 0)) (.bag b1), .dat x, .own none (.lst rest), .own none (.lst row), .dat d], fun adr => rfl, Wp.run (fun adr => h3 (adr 0)) ?_⟩
      refine ⟨b', rest.eraseIdx k, row ++ [y], .dat d, rfl, ?_, ?_, e4.trans h2⟩
      · rw [List.length_eraseIdx_of_lt hk, e2]
        rfl
      · refine List.Perm.trans ?_ e3
        refine List.Perm.trans ?_ ((perm_eraseIdx h1).append_right row)
        rw [← List.append_assoc]
        exact (List.perm_append_comm (l₁ := rest.eraseIdx k ++ row) (l₂ := [y]))
  obtain ⟨d, os, h, ys, b', rfl, rfl, h1, h2⟩ := Wp.fn (p := 2) rfl key
  exact ⟨ys, b', h, h1, h2⟩
theorem shuffled_l {b : Bag} (hb : 0 ≤ b.at_) {xs : List D} (hz : xs.length ≤ 100000) : ∃ ys b', shuffledF [.o (.bag b), .d (.lst xs)] = some (.ret (.lst ys), [.bag b']) ∧ ys.Perm xs ∧ Nx b b' := shuffled_seq hb rfl rfl hz
/-! ### what things are -/
def integerM : M Fl := retM (andV (isiM "int" (getV 0)) (notV (isiM "bool" (getV 0))))
noncomputable abbrev integerF : FS := autoF 1 integerM 1
def D.isInt : D → Bool
  | .int _ => true
  | _ => false
def D.notIns : D → Bool
  | .ins _ _ => false
  | _ => true
theorem integer_r {d : D} (h : d.notIns = true) : integerF [.d d] = some (.ret (.bl d.isInt), []) := autoF_eq rfl fun adr => by
  cases d
  case ins => cases h
  all_goals simp [integerM, DL.ini, DL.agsF, DL.fin, DL.outs, DL.seqM, M.bnd, M.ret, M.opt, DL.op2, DL.op1, DL.getV, DL.setM, DL.ifM, DL.tstB, DL.asB, DL.retM, DL.nxM, DL.bltM, DL.consA, DL.consV, DL.refV, DL.callM, DL.argG, DL.refs, DL.putR, DL.mkTup, DL.mkLst, DL.andV, DL.orV, DL.notV, DL.andB, DL.orB, DL.notB, DL.isiM, DL.addD, DL.subD, DL.mulD, DL.gtD, DL.ltD, DL.geD, DL.leD, DL.fdivD, DL.modD, DL.powD, DL.negD, DL.intD, DL.lenD, DL.absD, DL.dropM, DL.parM, DL.eqD_int, DL.neD_int, PySem.sizeLine, DL.kit_int_int, DL.kit_int_bool, DL.kit_int_str, DL.kit_int_tuple, DL.kit_int_list, DL.kit_bool_int, DL.kit_bool_bool, DL.kit_bool_str, DL.kit_bool_tuple, DL.kit_bool_list, DL.kit_str_int, DL.kit_str_bool, DL.kit_str_str, DL.kit_str_tuple, DL.kit_str_list, DL.kit_tuple_int, DL.kit_tuple_bool, DL.kit_tuple_str, DL.kit_tuple_tuple, DL.kit_tuple_list, DL.kit_list_int, DL.kit_list_bool, DL.kit_list_str, DL.kit_list_tuple, DL.kit_list_list, DL.kit_none_int, DL.kit_none_bool, DL.kit_none_str, DL.kit_none_tuple, DL.kit_none_list, DL.D.ty, D.isInt]
def truthM : M Fl := retM (andV (isiM "bool" (getV 0)) (op2 eqD (getV 0) (getV 1)))
noncomputable abbrev truthF : FS := autoF 2 truthM 2
theorem eqD_bl {a b : Bool} : eqD (.bl a) (.bl b) = some (.bl (a == b)) := by
  rw [eqD_of okN_bl okN_bl (by decide) (by decide)]
  rfl
theorem truth_r {a b : Bool} : truthF [.d (.bl a), .d (.bl b)] = some (.ret (.bl (a == b)), []) := autoF_eq rfl fun adr => by
  simp [truthM, DL.ini, DL.agsF, DL.fin, DL.outs, DL.seqM, M.bnd, M.ret, M.opt, DL.op2, DL.op1, DL.getV, DL.setM, DL.ifM, DL.tstB, DL.asB, DL.retM, DL.nxM, DL.bltM, DL.consA, DL.consV, DL.refV, DL.callM, DL.argG, DL.refs, DL.putR, DL.mkTup, DL.mkLst, DL.andV, DL.orV, DL.notV, DL.andB, DL.orB, DL.notB, DL.isiM, DL.addD, DL.subD, DL.mulD, DL.gtD, DL.ltD, DL.geD, DL.leD, DL.fdivD, DL.modD, DL.powD, DL.negD, DL.intD, DL.lenD, DL.absD, DL.dropM, DL.parM, DL.eqD_int, DL.neD_int, PySem.sizeLine, DL.kit_int_int, DL.kit_int_bool, DL.kit_int_str, DL.kit_int_tuple, DL.kit_int_list, DL.kit_bool_int, DL.kit_bool_bool, DL.kit_bool_str, DL.kit_bool_tuple, DL.kit_bool_list, DL.kit_str_int, DL.kit_str_bool, DL.kit_str_str, DL.kit_str_tuple, DL.kit_str_list, DL.kit_tuple_int, DL.kit_tuple_bool, DL.kit_tuple_str, DL.kit_tuple_tuple, DL.kit_tuple_list, DL.kit_list_int, DL.kit_list_bool, DL.kit_list_str, DL.kit_list_tuple, DL.kit_list_list, DL.kit_none_int, DL.kit_none_bool, DL.kit_none_str, DL.kit_none_tuple, DL.kit_none_list, DL.D.ty, eqD_bl]
def isIntegerM : M Fl := retM (andV (isiM "int" (getV 0)) (andV (notV (isiM "bool" (getV 0))) (chainM leD leD (getV 1) (getV 0) (getV 2))))
noncomputable abbrev isIntegerF : FS := autoF 3 isIntegerM 3
/-- an integer within two bounds -/
def D.within (lo hi : Int) : D → Bool
  | .int i => decide (lo ≤ i) && decide (i ≤ hi)
  | _ => false
theorem isInteger_r {d : D} {lo hi : Int} (h : d.notIns = true) : isIntegerF [.d d, .d (.int lo), .d (.int hi)] = some (.ret (.bl (d.within lo hi)), []) := autoF_eq rfl fun adr => by
  cases d
  case ins => cases h
  case int i =>
    by_cases q : lo ≤ i
    · simp [isIntegerM, DL.ini, DL.agsF, DL.fin, DL.outs, DL.seqM, M.bnd, M.ret, M.opt, DL.op2, DL.op1, DL.getV, DL.setM, DL.ifM, DL.tstB, DL.asB, DL.retM, DL.nxM, DL.bltM, DL.consA, DL.consV, DL.refV, DL.callM, DL.argG, DL.refs, DL.putR, DL.mkTup, DL.mkLst, DL.andV, DL.orV, DL.notV, DL.andB, DL.orB, DL.notB, DL.isiM, DL.addD, DL.subD, DL.mulD, DL.gtD, DL.ltD, DL.geD, DL.leD, DL.fdivD, DL.modD, DL.powD, DL.negD, DL.intD, DL.lenD, DL.absD, DL.dropM, DL.parM, DL.eqD_int, DL.neD_int, PySem.sizeLine, DL.kit_int_int, DL.kit_int_bool, DL.kit_int_str, DL.kit_int_tuple, DL.kit_int_list, DL.kit_bool_int, DL.kit_bool_bool, DL.kit_bool_str, DL.kit_bool_tuple, DL.kit_bool_list, DL.kit_str_int, DL.kit_str_bool, DL.kit_str_str, DL.kit_str_tuple, DL.kit_str_list, DL.kit_tuple_int, DL.kit_tuple_bool, DL.kit_tuple_str, DL.kit_tuple_tuple, DL.kit_tuple_list, DL.kit_list_int, DL.kit_list_bool, DL.kit_list_str, DL.kit_list_tuple, DL.kit_list_list, DL.kit_none_int, DL.kit_none_bool, DL.kit_none_str, DL.kit_none_tuple, DL.kit_none_list, DL.D.ty, D.within, chainM, q]
    · simp [isIntegerM, DL.ini, DL.agsF, DL.fin, DL.outs, DL.seqM, M.bnd, M.ret, M.opt, DL.op2, DL.op1, DL.getV, DL.setM, DL.ifM, DL.tstB, DL.asB, DL.retM, DL.nxM, DL.bltM, DL.consA, DL.consV, DL.refV, DL.callM, DL.argG, DL.refs, DL.putR, DL.mkTup, DL.mkLst, DL.andV, DL.orV, DL.notV, DL.andB, DL.orB, DL.notB, DL.isiM, DL.addD, DL.subD, DL.mulD, DL.gtD, DL.ltD, DL.geD, DL.leD, DL.fdivD, DL.modD, DL.powD, DL.negD, DL.intD, DL.lenD, DL.absD, DL.dropM, DL.parM, DL.eqD_int, DL.neD_int, PySem.sizeLine, DL.kit_int_int, DL.kit_int_bool, DL.kit_int_str, DL.kit_int_tuple, DL.kit_int_list, DL.kit_bool_int, DL.kit_bool_bool, DL.kit_bool_str, DL.kit_bool_tuple, DL.kit_bool_list, DL.kit_str_int, DL.kit_str_bool, DL.kit_str_str, DL.kit_str_tuple, DL.kit_str_list, DL.kit_tuple_int, DL.kit_tuple_bool, DL.kit_tuple_str, DL.kit_tuple_tuple, DL.kit_tuple_list, DL.kit_list_int, DL.kit_list_bool, DL.kit_list_str, DL.kit_list_tuple, DL.kit_list_list, DL.kit_none_int, DL.kit_none_bool, DL.kit_none_str, DL.kit_none_tuple, DL.kit_none_list, DL.D.ty, D.within, chainM, q]
  all_goals simp [isIntegerM, DL.ini, DL.agsF, DL.fin, DL.outs, DL.seqM, M.bnd, M.ret, M.opt, DL.op2, DL.op1, DL.getV, DL.setM, DL.ifM, DL.tstB, DL.asB, DL.retM, DL.nxM, DL.bltM, DL.consA, DL.consV, DL.refV, DL.callM, DL.argG, DL.refs, DL.putR, DL.mkTup, DL.mkLst, DL.andV, DL.orV, DL.notV, DL.andB, DL.orB, DL.notB, DL.isiM, DL.addD, DL.subD, DL.mulD, DL.gtD, DL.ltD, DL.geD, DL.leD, DL.fdivD, DL.modD, DL.powD, DL.negD, DL.intD, DL.lenD, DL.absD, DL.dropM, DL.parM, DL.eqD_int, DL.neD_int, PySem.sizeLine, DL.kit_int_int, DL.kit_int_bool, DL.kit_int_str, DL.kit_int_tuple, DL.kit_int_list, DL.kit_bool_int, DL.kit_bool_bool, DL.kit_bool_str, DL.kit_bool_tuple, DL.kit_bool_list, DL.kit_str_int, DL.kit_str_bool, DL.kit_str_str, DL.kit_str_tuple, DL.kit_str_list, DL.kit_tuple_int, DL.kit_tuple_bool, DL.kit_tuple_str, DL.kit_tuple_tuple, DL.kit_tuple_list, DL.kit_list_int, DL.kit_list_bool, DL.kit_list_str, DL.kit_list_tuple, DL.kit_list_list, DL.kit_none_int, DL.kit_none_bool, DL.kit_none_str, DL.kit_none_tuple, DL.kit_none_list, DL.D.ty, D.within]
/-! ### tuples and lists, deep -/
def tuplesM (F : FS) : M Fl := (seqM (ifM (orB (tstB (isiM "list" (getV 0))) (tstB (isiM "tuple" (getV 0)))) (retM (bltM tupD (consA (datM (compM [1] (itSeq (getV 0)) (gSet 1) (M.ret true) (callM F (consV (getV 1) (M.ret []))))) (M.ret [])))) nxM)
  (retM (getV 0)))
def deepM (F : FS) : M Fl := (seqM (ifM (tstB (isi2M "tuple" "list" (getV 0))) (retM (bltM tupD (consA (datM (compM [1] (itSeq (getV 0)) (gSet 1) (M.ret true) (callM F (consV (getV 1) (M.ret []))))) (M.ret [])))) nxM)
  (retM (getV 0)))
def listsM (F : FS) : M Fl := (seqM (ifM (orB (tstB (isiM "tuple" (getV 0))) (tstB (isiM "list" (getV 0)))) (retM (datM (compM [1] (itSeq (getV 0)) (gSet 1) (M.ret true) (callM F (consV (getV 1) (M.ret [])))))) nxM)
  (retM (getV 0)))
/-- a comprehension of calls over a thing's items -/
theorem comp_call {G : FS} {g : D → D} {x : D} {xs : List D} (hx : seqOf x = some xs) (hz : xs.length ≤ 16777216) (hG : ∀ d ∈ xs, G [.d d] = some (.ret (g d), [])) :
    compM [1] (itSeq (getV 0)) (gSet 1) (M.ret true) (callM G (consV (getV 1) (M.ret []))) [.dat x, .un] = .ok (.lst (xs.map g)) [.dat x, .un] := by
  rw [compM_map (e1 := [.dat x, .un]) (fun d => [.dat x, .dat d]) g (by simp [itSeq, getV, M.bnd, M.opt, hx]) hz (fun d hd => by simp [gSet, wipeE]) (fun d hd => by simp [DL.ini, DL.agsF, DL.fin, DL.outs, DL.seqM, M.bnd, M.ret, M.opt, DL.op2, DL.op1, DL.getV, DL.setM, DL.ifM, DL.tstB, DL.asB, DL.retM, DL.nxM, DL.bltM, DL.consA, DL.consV, DL.refV, DL.callM, DL.argG, DL.refs, DL.putR, DL.mkTup, DL.mkLst, DL.andV, DL.orV, DL.notV, DL.andB, DL.orB, DL.notB, DL.isiM, DL.addD, DL.subD, DL.mulD, DL.gtD, DL.ltD, DL.geD, DL.leD, DL.fdivD, DL.modD, DL.powD, DL.negD, DL.intD, DL.lenD, DL.absD, DL.dropM, DL.parM, DL.eqD_int, DL.neD_int, PySem.sizeLine, hG d hd]) (fun d hd => by simp [wipeE])]
  simp [wipeE]
theorem tuples_r : ∀ (n : Nat) {d : D}, d.szd = true → d.dep < n → famF 1 tuplesM 2 n [.d d] = some (.ret d.tt, [])
  | 0, _, _, h => absurd h (Nat.not_lt_zero _)
  | n + 1, d, hs, h => famF_eq rfl fun adr => by
    have ih := fun d => tuples_r n (d := d)
    generalize famF 1 tuplesM 2 n = G at ih ⊢
    cases d with
    | lst xs =>
      have hs' : (decide (xs.length ≤ 16777216) && D.szds xs) = true := hs
      rw [Bool.and_eq_true] at hs'
      have hz := of_decide_eq_true hs'.1
      have hd : D.deps xs + 1 < n + 1 := h
      have c := comp_call (x := .lst xs) (g := D.tt) rfl hz (fun d hd' => ih d (szds_mem hs'.2 hd') (by have := deps_mem hd'; omega))
      unfold tuplesM; generalize compM [1] (itSeq (getV 0)) (gSet 1) (M.ret true) (callM G (consV (getV 1) (M.ret []))) = C at c ⊢
      simp [DL.ini, DL.agsF, DL.fin, DL.outs, DL.seqM, M.bnd, M.ret, M.opt, DL.op2, DL.op1, DL.getV, DL.setM, DL.ifM, DL.tstB, DL.asB, DL.retM, DL.nxM, DL.bltM, DL.consA, DL.consV, DL.refV, DL.callM, DL.argG, DL.refs, DL.putR, DL.mkTup, DL.mkLst, DL.andV, DL.orV, DL.notV, DL.andB, DL.orB, DL.notB, DL.isiM, DL.addD, DL.subD, DL.mulD, DL.gtD, DL.ltD, DL.geD, DL.leD, DL.fdivD, DL.modD, DL.powD, DL.negD, DL.intD, DL.lenD, DL.absD, DL.dropM, DL.parM, DL.eqD_int, DL.neD_int, PySem.sizeLine, DL.kit_int_int, DL.kit_int_bool, DL.kit_int_str, DL.kit_int_tuple, DL.kit_int_list, DL.kit_bool_int, DL.kit_bool_bool, DL.kit_bool_str, DL.kit_bool_tuple, DL.kit_bool_list, DL.kit_str_int, DL.kit_str_bool, DL.kit_str_str, DL.kit_str_tuple, DL.kit_str_list, DL.kit_tuple_int, DL.kit_tuple_bool, DL.kit_tuple_str, DL.kit_tuple_tuple, DL.kit_tuple_list, DL.kit_list_int, DL.kit_list_bool, DL.kit_list_str, DL.kit_list_tuple, DL.kit_list_list, DL.kit_none_int, DL.kit_none_bool, DL.kit_none_str, DL.kit_none_tuple, DL.kit_none_list, DL.D.ty, datM, frzO, c, tupD, D.tt, tts_map]
    | tup xs =>
      have hs' : (decide (xs.length ≤ 16777216) && D.szds xs) = true := hs
      rw [Bool.and_eq_true] at hs'
      have hz := of_decide_eq_true hs'.1
      have hd : D.deps xs + 1 < n + 1 := h
      have c := comp_call (x := .tup xs) (g := D.tt) rfl hz (fun d hd' => ih d (szds_mem hs'.2 hd') (by have := deps_mem hd'; omega))
      unfold tuplesM; generalize compM [1] (itSeq (getV 0)) (gSet 1) (M.ret true) (callM G (consV (getV 1) (M.ret []))) = C at c ⊢
      simp [DL.ini, DL.agsF, DL.fin, DL.outs, DL.seqM, M.bnd, M.ret, M.opt, DL.op2, DL.op1, DL.getV, DL.setM, DL.ifM, DL.tstB, DL.asB, DL.retM, DL.nxM, DL.bltM, DL.consA, DL.consV, DL.refV, DL.callM, DL.argG, DL.refs, DL.putR, DL.mkTup, DL.mkLst, DL.andV, DL.orV, DL.notV, DL.andB, DL.orB, DL.notB, DL.isiM, DL.addD, DL.subD, DL.mulD, DL.gtD, DL.ltD, DL.geD, DL.leD, DL.fdivD, DL.modD, DL.powD, DL.negD, DL.intD, DL.lenD, DL.absD, DL.dropM, DL.parM, DL.eqD_int, DL.neD_int, PySem.sizeLine, DL.kit_int_int, DL.kit_int_bool, DL.kit_int_str, DL.kit_int_tuple, DL.kit_int_list, DL.kit_bool_int, DL.kit_bool_bool, DL.kit_bool_str, DL.kit_bool_tuple, DL.kit_bool_list, DL.kit_str_int, DL.kit_str_bool, DL.kit_str_str, DL.kit_str_tuple, DL.kit_str_list, DL.kit_tuple_int, DL.kit_tuple_bool, DL.kit_tuple_str, DL.kit_tuple_tuple, DL.kit_tuple_list, DL.kit_list_int, DL.kit_list_bool, DL.kit_list_str, DL.kit_list_tuple, DL.kit_list_list, DL.kit_none_int, DL.kit_none_bool, DL.kit_none_str, DL.kit_none_tuple, DL.kit_none_list, DL.D.ty, datM, frzO, c, tupD, D.tt, tts_map]
    | ins _ _ => cases hs
    | _ => simp [tuplesM, DL.ini, DL.agsF, DL.fin, DL.outs, DL.seqM, M.bnd, M.ret, M.opt, DL.op2, DL.op1, DL.getV, DL.setM, DL.ifM, DL.tstB, DL.asB, DL.retM, DL.nxM, DL.bltM, DL.consA, DL.consV, DL.refV, DL.callM, DL.argG, DL.refs, DL.putR, DL.mkTup, DL.mkLst, DL.andV, DL.orV, DL.notV, DL.andB, DL.orB, DL.notB, DL.isiM, DL.addD, DL.subD, DL.mulD, DL.gtD, DL.ltD, DL.geD, DL.leD, DL.fdivD, DL.modD, DL.powD, DL.negD, DL.intD, DL.lenD, DL.absD, DL.dropM, DL.parM, DL.eqD_int, DL.neD_int, PySem.sizeLine, DL.kit_int_int, DL.kit_int_bool, DL.kit_int_str, DL.kit_int_tuple, DL.kit_int_list, DL.kit_bool_int, DL.kit_bool_bool, DL.kit_bool_str, DL.kit_bool_tuple, DL.kit_bool_list, DL.kit_str_int, DL.kit_str_bool, DL.kit_str_str, DL.kit_str_tuple, DL.kit_str_list, DL.kit_tuple_int, DL.kit_tuple_bool, DL.kit_tuple_str, DL.kit_tuple_tuple, DL.kit_tuple_list, DL.kit_list_int, DL.kit_list_bool, DL.kit_list_str, DL.kit_list_tuple, DL.kit_list_list, DL.kit_none_int, DL.kit_none_bool, DL.kit_none_str, DL.kit_none_tuple, DL.kit_none_list, DL.D.ty, D.tt]
theorem deep_r : ∀ (n : Nat) {d : D}, d.szd = true → d.dep < n → famF 1 deepM 2 n [.d d] = some (.ret d.tt, [])
  | 0, _, _, h => absurd h (Nat.not_lt_zero _)
  | n + 1, d, hs, h => famF_eq rfl fun adr => by
    have ih := fun d => deep_r n (d := d)
    generalize famF 1 deepM 2 n = G at ih ⊢
    cases d with
    | lst xs =>
      have hs' : (decide (xs.length ≤ 16777216) && D.szds xs) = true := hs
      rw [Bool.and_eq_true] at hs'
      have hz := of_decide_eq_true hs'.1
      have hd : D.deps xs + 1 < n + 1 := h
      have c := comp_call (x := .lst xs) (g := D.tt) rfl hz (fun d hd' => ih d (szds_mem hs'.2 hd') (by have := deps_mem hd'; omega))
      unfold deepM; generalize compM [1] (itSeq (getV 0)) (gSet 1) (M.ret true) (callM G (consV (getV 1) (M.ret []))) = C at c ⊢
      simp [isi2M, DL.ini, DL.agsF, DL.fin, DL.outs, DL.seqM, M.bnd, M.ret, M.opt, DL.op2, DL.op1, DL.getV, DL.setM, DL.ifM, DL.tstB, DL.asB, DL.retM, DL.nxM, DL.bltM, DL.consA, DL.consV, DL.refV, DL.callM, DL.argG, DL.refs, DL.putR, DL.mkTup, DL.mkLst, DL.andV, DL.orV, DL.notV, DL.andB, DL.orB, DL.notB, DL.isiM, DL.addD, DL.subD, DL.mulD, DL.gtD, DL.ltD, DL.geD, DL.leD, DL.fdivD, DL.modD, DL.powD, DL.negD, DL.intD, DL.lenD, DL.absD, DL.dropM, DL.parM, DL.eqD_int, DL.neD_int, PySem.sizeLine, DL.kit_int_int, DL.kit_int_bool, DL.kit_int_str, DL.kit_int_tuple, DL.kit_int_list, DL.kit_bool_int, DL.kit_bool_bool, DL.kit_bool_str, DL.kit_bool_tuple, DL.kit_bool_list, DL.kit_str_int, DL.kit_str_bool, DL.kit_str_str, DL.kit_str_tuple, DL.kit_str_list, DL.kit_tuple_int, DL.kit_tuple_bool, DL.kit_tuple_str, DL.kit_tuple_tuple, DL.kit_tuple_list, DL.kit_list_int, DL.kit_list_bool, DL.kit_list_str, DL.kit_list_tuple, DL.kit_list_list, DL.kit_none_int, DL.kit_none_bool, DL.kit_none_str, DL.kit_none_tuple, DL.kit_none_list, DL.D.ty, datM, frzO, c, tupD, D.tt, tts_map]
    | tup xs =>
      have hs' : (decide (xs.length ≤ 16777216) && D.szds xs) = true := hs
      rw [Bool.and_eq_true] at hs'
      have hz := of_decide_eq_true hs'.1
      have hd : D.deps xs + 1 < n + 1 := h
      have c := comp_call (x := .tup xs) (g := D.tt) rfl hz (fun d hd' => ih d (szds_mem hs'.2 hd') (by have := deps_mem hd'; omega))
      unfold deepM; generalize compM [1] (itSeq (getV 0)) (gSet 1) (M.ret true) (callM G (consV (getV 1) (M.ret []))) = C at c ⊢
      simp [isi2M, DL.ini, DL.agsF, DL.fin, DL.outs, DL.seqM, M.bnd, M.ret, M.opt, DL.op2, DL.op1, DL.getV, DL.setM, DL.ifM, DL.tstB, DL.asB, DL.retM, DL.nxM, DL.bltM, DL.consA, DL.consV, DL.refV, DL.callM, DL.argG, DL.refs, DL.putR, DL.mkTup, DL.mkLst, DL.andV, DL.orV, DL.notV, DL.andB, DL.orB, DL.notB, DL.isiM, DL.addD, DL.subD, DL.mulD, DL.gtD, DL.ltD, DL.geD, DL.leD, DL.fdivD, DL.modD, DL.powD, DL.negD, DL.intD, DL.lenD, DL.absD, DL.dropM, DL.parM, DL.eqD_int, DL.neD_int, PySem.sizeLine, DL.kit_int_int, DL.kit_int_bool, DL.kit_int_str, DL.kit_int_tuple, DL.kit_int_list, DL.kit_bool_int, DL.kit_bool_bool, DL.kit_bool_str, DL.kit_bool_tuple, DL.kit_bool_list, DL.kit_str_int, DL.kit_str_bool, DL.kit_str_str, DL.kit_str_tuple, DL.kit_str_list, DL.kit_tuple_int, DL.kit_tuple_bool, DL.kit_tuple_str, DL.kit_tuple_tuple, DL.kit_tuple_list, DL.kit_list_int, DL.kit_list_bool, DL.kit_list_str, DL.kit_list_tuple, DL.kit_list_list, DL.kit_none_int, DL.kit_none_bool, DL.kit_none_str, DL.kit_none_tuple, DL.kit_none_list, DL.D.ty, datM, frzO, c, tupD, D.tt, tts_map]
    | ins _ _ => cases hs
    | _ => simp [deepM, isi2M, DL.ini, DL.agsF, DL.fin, DL.outs, DL.seqM, M.bnd, M.ret, M.opt, DL.op2, DL.op1, DL.getV, DL.setM, DL.ifM, DL.tstB, DL.asB, DL.retM, DL.nxM, DL.bltM, DL.consA, DL.consV, DL.refV, DL.callM, DL.argG, DL.refs, DL.putR, DL.mkTup, DL.mkLst, DL.andV, DL.orV, DL.notV, DL.andB, DL.orB, DL.notB, DL.isiM, DL.addD, DL.subD, DL.mulD, DL.gtD, DL.ltD, DL.geD, DL.leD, DL.fdivD, DL.modD, DL.powD, DL.negD, DL.intD, DL.lenD, DL.absD, DL.dropM, DL.parM, DL.eqD_int, DL.neD_int, PySem.sizeLine, DL.kit_int_int, DL.kit_int_bool, DL.kit_int_str, DL.kit_int_tuple, DL.kit_int_list, DL.kit_bool_int, DL.kit_bool_bool, DL.kit_bool_str, DL.kit_bool_tuple, DL.kit_bool_list, DL.kit_str_int, DL.kit_str_bool, DL.kit_str_str, DL.kit_str_tuple, DL.kit_str_list, DL.kit_tuple_int, DL.kit_tuple_bool, DL.kit_tuple_str, DL.kit_tuple_tuple, DL.kit_tuple_list, DL.kit_list_int, DL.kit_list_bool, DL.kit_list_str, DL.kit_list_tuple, DL.kit_list_list, DL.kit_none_int, DL.kit_none_bool, DL.kit_none_str, DL.kit_none_tuple, DL.kit_none_list, DL.D.ty, D.tt]
theorem lists_r : ∀ (n : Nat) {d : D}, d.szd = true → d.dep < n → famF 1 listsM 2 n [.d d] = some (.ret d.ll, [])
  | 0, _, _, h => absurd h (Nat.not_lt_zero _)
  | n + 1, d, hs, h => famF_eq rfl fun adr => by
    have ih := fun d => lists_r n (d := d)
    generalize famF 1 listsM 2 n = G at ih ⊢
    cases d with
    | lst xs =>
      have hs' : (decide (xs.length ≤ 16777216) && D.szds xs) = true := hs
      rw [Bool.and_eq_true] at hs'
      have hz := of_decide_eq_true hs'.1
      have hd : D.deps xs + 1 < n + 1 := h
      have c := comp_call (x := .lst xs) (g := D.ll) rfl hz (fun d hd' => ih d (szds_mem hs'.2 hd') (by have := deps_mem hd'; omega))
      unfold listsM; generalize compM [1] (itSeq (getV 0)) (gSet 1) (M.ret true) (callM G (consV (getV 1) (M.ret []))) = C at c ⊢
      simp [DL.ini, DL.agsF, DL.fin, DL.outs, DL.seqM, M.bnd, M.ret, M.opt, DL.op2, DL.op1, DL.getV, DL.setM, DL.ifM, DL.tstB, DL.asB, DL.retM, DL.nxM, DL.bltM, DL.consA, DL.consV, DL.refV, DL.callM, DL.argG, DL.refs, DL.putR, DL.mkTup, DL.mkLst, DL.andV, DL.orV, DL.notV, DL.andB, DL.orB, DL.notB, DL.isiM, DL.addD, DL.subD, DL.mulD, DL.gtD, DL.ltD, DL.geD, DL.leD, DL.fdivD, DL.modD, DL.powD, DL.negD, DL.intD, DL.lenD, DL.absD, DL.dropM, DL.parM, DL.eqD_int, DL.neD_int, PySem.sizeLine, DL.kit_int_int, DL.kit_int_bool, DL.kit_int_str, DL.kit_int_tuple, DL.kit_int_list, DL.kit_bool_int, DL.kit_bool_bool, DL.kit_bool_str, DL.kit_bool_tuple, DL.kit_bool_list, DL.kit_str_int, DL.kit_str_bool, DL.kit_str_str, DL.kit_str_tuple, DL.kit_str_list, DL.kit_tuple_int, DL.kit_tuple_bool, DL.kit_tuple_str, DL.kit_tuple_tuple, DL.kit_tuple_list, DL.kit_list_int, DL.kit_list_bool, DL.kit_list_str, DL.kit_list_tuple, DL.kit_list_list, DL.kit_none_int, DL.kit_none_bool, DL.kit_none_str, DL.kit_none_tuple, DL.kit_none_list, DL.D.ty, datM, frzO, c, D.ll, lls_map]
    | tup xs =>
      have hs' : (decide (xs.length ≤ 16777216) && D.szds xs) = true := hs
      rw [Bool.and_eq_true] at hs'
      have hz := of_decide_eq_true hs'.1
      have hd : D.deps xs + 1 < n + 1 := h
      have c := comp_call (x := .tup xs) (g := D.ll) rfl hz (fun d hd' => ih d (szds_mem hs'.2 hd') (by have := deps_mem hd'; omega))
      unfold listsM; generalize compM [1] (itSeq (getV 0)) (gSet 1) (M.ret true) (callM G (consV (getV 1) (M.ret []))) = C at c ⊢
      simp [DL.ini, DL.agsF, DL.fin, DL.outs, DL.seqM, M.bnd, M.ret, M.opt, DL.op2, DL.op1, DL.getV, DL.setM, DL.ifM, DL.tstB, DL.asB, DL.retM, DL.nxM, DL.bltM, DL.consA, DL.consV, DL.refV, DL.callM, DL.argG, DL.refs, DL.putR, DL.mkTup, DL.mkLst, DL.andV, DL.orV, DL.notV, DL.andB, DL.orB, DL.notB, DL.isiM, DL.addD, DL.subD, DL.mulD, DL.gtD, DL.ltD, DL.geD, DL.leD, DL.fdivD, DL.modD, DL.powD, DL.negD, DL.intD, DL.lenD, DL.absD, DL.dropM, DL.parM, DL.eqD_int, DL.neD_int, PySem.sizeLine, DL.kit_int_int, DL.kit_int_bool, DL.kit_int_str, DL.kit_int_tuple, DL.kit_int_list, DL.kit_bool_int, DL.kit_bool_bool, DL.kit_bool_str, DL.kit_bool_tuple, DL.kit_bool_list, DL.kit_str_int, DL.kit_str_bool, DL.kit_str_str, DL.kit_str_tuple, DL.kit_str_list, DL.kit_tuple_int, DL.kit_tuple_bool, DL.kit_tuple_str, DL.kit_tuple_tuple, DL.kit_tuple_list, DL.kit_list_int, DL.kit_list_bool, DL.kit_list_str, DL.kit_list_tuple, DL.kit_list_list, DL.kit_none_int, DL.kit_none_bool, DL.kit_none_str, DL.kit_none_tuple, DL.kit_none_list, DL.D.ty, datM, frzO, c, D.ll, lls_map]
    | ins _ _ => cases hs
    | _ => simp [listsM, DL.ini, DL.agsF, DL.fin, DL.outs, DL.seqM, M.bnd, M.ret, M.opt, DL.op2, DL.op1, DL.getV, DL.setM, DL.ifM, DL.tstB, DL.asB, DL.retM, DL.nxM, DL.bltM, DL.consA, DL.consV, DL.refV, DL.callM, DL.argG, DL.refs, DL.putR, DL.mkTup, DL.mkLst, DL.andV, DL.orV, DL.notV, DL.andB, DL.orB, DL.notB, DL.isiM, DL.addD, DL.subD, DL.mulD, DL.gtD, DL.ltD, DL.geD, DL.leD, DL.fdivD, DL.modD, DL.powD, DL.negD, DL.intD, DL.lenD, DL.absD, DL.dropM, DL.parM, DL.eqD_int, DL.neD_int, PySem.sizeLine, DL.kit_int_int, DL.kit_int_bool, DL.kit_int_str, DL.kit_int_tuple, DL.kit_int_list, DL.kit_bool_int, DL.kit_bool_bool, DL.kit_bool_str, DL.kit_bool_tuple, DL.kit_bool_list, DL.kit_str_int, DL.kit_str_bool, DL.kit_str_str, DL.kit_str_tuple, DL.kit_str_list, DL.kit_tuple_int, DL.kit_tuple_bool, DL.kit_tuple_str, DL.kit_tuple_tuple, DL.kit_tuple_list, DL.kit_list_int, DL.kit_list_bool, DL.kit_list_str, DL.kit_list_tuple, DL.kit_list_list, DL.kit_none_int, DL.kit_none_bool, DL.kit_none_str, DL.kit_none_tuple, DL.kit_none_list, DL.D.ty, D.ll]
/-! ### plain things -/
def plainM (G F : FS) : M Fl := (seqM (ifM (tstB (isiM "tuple" (getV 0))) (seqM (forM (itSeq (getV 0)) (gSet 1) (ifM (notB (tstB (callM F (consV (getV 1) (M.ret []))))) (retM (M.ret (.bl false))) nxM))
  (retM (M.ret (.bl true)))) nxM)
  (retM (orV (op2 isD (getV 0) (M.ret .non)) (orV (isiM "str" (getV 0)) (callM G (consV (getV 0) (M.ret [])))))))
theorem plain_loop {G : FS} {x : D} : ∀ (xs : List D) (s : Sl), (∀ d ∈ xs, G [.d d] = some (.ret (.bl d.pl), [])) → ∃ s', forL (gSet 1) (ifM (notB (tstB (callM G (consV (getV 1) (M.ret []))))) (retM (M.ret (.bl false))) nxM) xs [.dat x, s] = .ok (if D.pls xs = true then .nx else .rt (.bl false)) [.dat x, s']
  | [], s, _ => ⟨s, rfl⟩
  | d :: xs, s, h => by
    have hd := h d List.mem_cons_self
    cases q : d.pl with
    | true =>
      obtain ⟨s', e⟩ := plain_loop xs (.dat d) (fun y hy => h y (List.mem_cons_of_mem _ hy))
      refine ⟨s', ?_⟩
      rw [q] at hd
      rw [forL_cons (e1 := [.dat x, .dat d]) (e2 := [.dat x, .dat d]) (by simp [gSet]) (by simp [DL.ini, DL.agsF, DL.fin, DL.outs, DL.seqM, M.bnd, M.ret, M.opt, DL.op2, DL.op1, DL.getV, DL.setM, DL.ifM, DL.tstB, DL.asB, DL.retM, DL.nxM, DL.bltM, DL.consA, DL.consV, DL.refV, DL.callM, DL.argG, DL.refs, DL.putR, DL.mkTup, DL.mkLst, DL.andV, DL.orV, DL.notV, DL.andB, DL.orB, DL.notB, DL.isiM, DL.addD, DL.subD, DL.mulD, DL.gtD, DL.ltD, DL.geD, DL.leD, DL.fdivD, DL.modD, DL.powD, DL.negD, DL.intD, DL.lenD, DL.absD, DL.dropM, DL.parM, DL.eqD_int, DL.neD_int, PySem.sizeLine, hd]), e]
      simp [D.pls, q]
    | false =>
      rw [q] at hd
      refine ⟨.dat d, ?_⟩
      simp [forL, gSet, DL.ini, DL.agsF, DL.fin, DL.outs, DL.seqM, M.bnd, M.ret, M.opt, DL.op2, DL.op1, DL.getV, DL.setM, DL.ifM, DL.tstB, DL.asB, DL.retM, DL.nxM, DL.bltM, DL.consA, DL.consV, DL.refV, DL.callM, DL.argG, DL.refs, DL.putR, DL.mkTup, DL.mkLst, DL.andV, DL.orV, DL.notV, DL.andB, DL.orB, DL.notB, DL.isiM, DL.addD, DL.subD, DL.mulD, DL.gtD, DL.ltD, DL.geD, DL.leD, DL.fdivD, DL.modD, DL.powD, DL.negD, DL.intD, DL.lenD, DL.absD, DL.dropM, DL.parM, DL.eqD_int, DL.neD_int, PySem.sizeLine, hd, D.pls, q]
theorem plain_r : ∀ (n : Nat) {d : D}, d.notIns = true → d.szd = true → d.dep < n → famF 1 (plainM integerF) 2 n [.d d] = some (.ret (.bl d.pl), [])
  | 0, _, _, _, h => absurd h (Nat.not_lt_zero _)
  | n + 1, d, hi, hs, h => famF_eq rfl fun adr => by
    have ih := fun d => plain_r n (d := d)
    have hint := integer_r hi
    generalize famF 1 (plainM integerF) 2 n = G at ih ⊢
    generalize integerF = I at hint ⊢
    cases d with
    | tup xs =>
      have hs' : (decide (xs.length ≤ 16777216) && D.szds xs) = true := hs
      rw [Bool.and_eq_true] at hs'
      have hd : D.deps xs + 1 < n + 1 := h
      obtain ⟨s', c⟩ := plain_loop (G := G) (x := .tup xs) xs .un (fun d hd' => ih d (by have := szds_mem hs'.2 hd'; cases d <;> first | rfl | cases this) (szds_mem hs'.2 hd') (by have := deps_mem hd'; omega))
      have c' : forM (itSeq (getV 0)) (gSet 1) (ifM (notB (tstB (callM G (consV (getV 1) (M.ret []))))) (retM (M.ret (.bl false))) nxM) [.dat (.tup xs), .un] = .ok (if D.pls xs = true then .nx else .rt (.bl false)) [.dat (.tup xs), s'] := by
        rw [← c]
        simp [forM, itSeq, seqOf, getV, M.bnd, M.opt]
      unfold plainM
      generalize forM (itSeq (getV 0)) (gSet 1) (ifM (notB (tstB (callM G (consV (getV 1) (M.ret []))))) (retM (M.ret (.bl false))) nxM) = B at c' ⊢
      cases q : D.pls xs <;> simp [DL.ini, DL.agsF, DL.fin, DL.outs, DL.seqM, M.bnd, M.ret, M.opt, DL.op2, DL.op1, DL.getV, DL.setM, DL.ifM, DL.tstB, DL.asB, DL.retM, DL.nxM, DL.bltM, DL.consA, DL.consV, DL.refV, DL.callM, DL.argG, DL.refs, DL.putR, DL.mkTup, DL.mkLst, DL.andV, DL.orV, DL.notV, DL.andB, DL.orB, DL.notB, DL.isiM, DL.addD, DL.subD, DL.mulD, DL.gtD, DL.ltD, DL.geD, DL.leD, DL.fdivD, DL.modD, DL.powD, DL.negD, DL.intD, DL.lenD, DL.absD, DL.dropM, DL.parM, DL.eqD_int, DL.neD_int, PySem.sizeLine, DL.kit_int_int, DL.kit_int_bool, DL.kit_int_str, DL.kit_int_tuple, DL.kit_int_list, DL.kit_bool_int, DL.kit_bool_bool, DL.kit_bool_str, DL.kit_bool_tuple, DL.kit_bool_list, DL.kit_str_int, DL.kit_str_bool, DL.kit_str_str, DL.kit_str_tuple, DL.kit_str_list, DL.kit_tuple_int, DL.kit_tuple_bool, DL.kit_tuple_str, DL.kit_tuple_tuple, DL.kit_tuple_list, DL.kit_list_int, DL.kit_list_bool, DL.kit_list_str, DL.kit_list_tuple, DL.kit_list_list, DL.kit_none_int, DL.kit_none_bool, DL.kit_none_str, DL.kit_none_tuple, DL.kit_none_list, DL.D.ty, c', D.pl, q]
    | ins _ _ => cases hs
    | _ => simp [plainM, DL.ini, DL.agsF, DL.fin, DL.outs, DL.seqM, M.bnd, M.ret, M.opt, DL.op2, DL.op1, DL.getV, DL.setM, DL.ifM, DL.tstB, DL.asB, DL.retM, DL.nxM, DL.bltM, DL.consA, DL.consV, DL.refV, DL.callM, DL.argG, DL.refs, DL.putR, DL.mkTup, DL.mkLst, DL.andV, DL.orV, DL.notV, DL.andB, DL.orB, DL.notB, DL.isiM, DL.addD, DL.subD, DL.mulD, DL.gtD, DL.ltD, DL.geD, DL.leD, DL.fdivD, DL.modD, DL.powD, DL.negD, DL.intD, DL.lenD, DL.absD, DL.dropM, DL.parM, DL.eqD_int, DL.neD_int, PySem.sizeLine, DL.kit_int_int, DL.kit_int_bool, DL.kit_int_str, DL.kit_int_tuple, DL.kit_int_list, DL.kit_bool_int, DL.kit_bool_bool, DL.kit_bool_str, DL.kit_bool_tuple, DL.kit_bool_list, DL.kit_str_int, DL.kit_str_bool, DL.kit_str_str, DL.kit_str_tuple, DL.kit_str_list, DL.kit_tuple_int, DL.kit_tuple_bool, DL.kit_tuple_str, DL.kit_tuple_tuple, DL.kit_tuple_list, DL.kit_list_int, DL.kit_list_bool, DL.kit_list_str, DL.kit_list_tuple, DL.kit_list_list, DL.kit_none_int, DL.kit_none_bool, DL.kit_none_str, DL.kit_none_tuple, DL.kit_none_list, DL.D.ty, D.pl, isD, isNoneD, hint, D.isInt]
end
end DL
set_option maxRecDepth 100000
set_option maxHeartbeats 1000000
/-! # DL23: names and words. -/
namespace DL
open PySem L2 PyProof.Rows
def wordsS : List Str := ["ask", "bar", "add", "coin", "near", "dear", "low", "span", "least", "few", "all", "not", "both", "either", "made", "face", "within", "there", "close", "many", "offer", "day", "back", "object", "rule", "house", "first", "last", "cheapest", "stands", "falls", "nobody"]
abbrev lettersS : Str := "abcdefghijklmnopqrstuvwxyz"
theorem eqv_str {a b : Str} : D.eqv (.str a) (.str b) = (a == b) := by
  unfold D.eqv
  simp [D.toPy, PyData.eqv]
theorem words_ok : ∀ w ∈ wordsS, PyData.strOk w = true := by decide +kernel
theorem okEq_words_t : (D.tup (wordsS.map .str)).okEq = true := (okN_tup (n := 0) fun x hx => by
  obtain ⟨w, hw, rfl⟩ := List.mem_map.mp hx
  exact okN_str (words_ok w hw)).eq (by decide)
theorem okEq_words_l : (D.lst (wordsS.map .str)).okEq = true := (okN_lst (n := 0) fun x hx => by
  obtain ⟨w, hw, rfl⟩ := List.mem_map.mp hx
  exact okN_str (words_ok w hw)).eq (by decide)
theorem any_words (ws : List Str) (s : Str) : ((ws.map D.str).any fun z => z.eqv (.str s)) = ws.any (· == s) := by
  rw [List.any_map]
  have e : ((fun z : D => z.eqv (.str s)) ∘ D.str) = (· == s) := by
    funext w
    exact eqv_str
  rw [e]
theorem in_words_t {s : Str} (hs : PyData.strOk s = true) : inD (.str s) (.tup (wordsS.map .str)) = some (.bl (wordsS.any (· == s))) := by
  unfold inD
  dsimp only
  rw [if_pos ⟨(okN_str hs).eq (by decide), okEq_words_t⟩, any_words]
theorem in_words_l {s : Str} (hs : PyData.strOk s = true) : inD (.str s) (.lst (wordsS.map .str)) = some (.bl (wordsS.any (· == s))) := by
  unfold inD
  dsimp only
  rw [if_pos ⟨(okN_str hs).eq (by decide), okEq_words_l⟩, any_words]
def isLetter (c : Nat) : Bool := decide (c ∈ lettersS.cps.toList)
theorem strIn_letter {c : Nat} : strIn ⟨#[c]⟩ lettersS = isLetter c := PySem.StrLaws.found_one lettersS c
theorem letter_iff {c : Nat} : isLetter c = true ↔ 97 ≤ c ∧ c ≤ 122 := by
  have e : lettersS.cps.toList = [97, 98, 99, 100, 101, 102, 103, 104, 105, 106, 107, 108, 109, 110, 111, 112, 113, 114, 115, 116, 117, 118, 119, 120, 121, 122] := by decide +kernel
  unfold isLetter
  rw [e]
  simp
  omega
/-- a text that is a name -/
def nameB (s : Str) : Bool := decide (1 ≤ s.length) && decide (s.length ≤ 8) && !(wordsS.any (· == s)) && s.cps.toList.all isLetter
def D.isName : D → Bool
  | .str s => nameB s
  | _ => false
theorem boolsOf_map {α : Type} (l : List α) (f : α → Bool) : boolsOf (l.map fun x => .bl (f x)) = some (l.map f) := by
  induction l with
  | nil => rfl
  | cons x l ih => show (boolsOf (l.map fun x => D.bl (f x))).map (f x :: ·) = _; rw [ih]; rfl
theorem cps_len {s : Str} : s.cps.toList.length = s.length := by simp [Str.length]
def isNameM : M Fl := (seqM (ifM (orB (notB (tstB (isiM "str" (getV 0)))) (orB (notB (tstB (chainM leD leD (M.ret (.int 1)) (bltM lenD (consA (getV 0) (M.ret []))) (M.ret (.int 8))))) (tstB (op2 inD (getV 0) (M.ret (.tup (wordsS.map .str))))))) (retM (M.ret (.bl false))) nxM)
  (retM (bltM allD (consA (datM (compM [1] (itStr (getV 0)) (gSet 1) (M.ret true) (op2 inD (getV 1) (M.ret (.str lettersS))))) (M.ret [])))))
noncomputable abbrev isNameF : FS := autoF 1 isNameM 2
theorem charsOf_mem {s : Str} {d : D} (h : d ∈ charsOf s) : ∃ c, c ∈ s.cps.toList ∧ d = .str ⟨#[c]⟩ := by
  obtain ⟨c, hc, rfl⟩ := List.mem_map.mp h
  exact ⟨c, hc, rfl⟩
def inLet : D → D
  | .str s => .bl (strIn s lettersS)
  | _ => .bl false
theorem inLet_map (s : Str) : (charsOf s).map inLet = s.cps.toList.map fun c => .bl (isLetter c) := by
  unfold charsOf
  rw [List.map_map]
  refine List.map_congr_left fun c hc => ?_
  show D.bl (strIn ⟨#[c]⟩ lettersS) = _
  rw [strIn_letter]
theorem name_comp {s : Str} (hl : s.length ≤ 2000) : compM [1] (itStr (getV 0)) (gSet 1) (M.ret true) (op2 inD (getV 1) (M.ret (.str lettersS))) [.dat (.str s), .un] = .ok (.lst (s.cps.toList.map fun c => .bl (isLetter c))) [.dat (.str s), .un] := by
  rw [compM_map (e1 := [.dat (.str s), .un]) (ds := charsOf s) (fun d => [.dat (.str s), .dat d]) inLet (by simp [itStr, getV, M.bnd, M.opt]) (by unfold charsOf; rw [List.length_map, cps_len]; omega) (fun d hd => by simp [gSet, wipeE]) (fun d hd => by
    obtain ⟨c, hc, rfl⟩ := charsOf_mem hd
    simp [DL.ini, DL.agsF, DL.fin, DL.outs, DL.seqM, M.bnd, M.ret, M.opt, DL.op2, DL.op1, DL.getV, DL.setM, DL.ifM, DL.tstB, DL.asB, DL.retM, DL.nxM, DL.bltM, DL.consA, DL.consV, DL.refV, DL.callM, DL.argG, DL.refs, DL.putR, DL.mkTup, DL.mkLst, DL.andV, DL.orV, DL.notV, DL.andB, DL.orB, DL.notB, DL.isiM, DL.addD, DL.subD, DL.mulD, DL.gtD, DL.ltD, DL.geD, DL.leD, DL.fdivD, DL.modD, DL.powD, DL.negD, DL.intD, DL.lenD, DL.absD, DL.dropM, DL.parM, DL.eqD_int, DL.neD_int, PySem.sizeLine, inD, inLet]) (fun d hd => by simp [wipeE]), inLet_map]
  simp [wipeE]
theorem isName_str {s : Str} (hs : PyData.strOk s = true) (hl : s.length ≤ 2000) : isNameF [.d (.str s)] = some (.ret (.bl (nameB s)), []) := autoF_eq rfl fun adr => by
  have hw := in_words_t hs
  have c := name_comp hl
  have hz : s.length ≤ 16777216 := by omega
  unfold isNameM
  generalize compM [1] (itStr (getV 0)) (gSet 1) (M.ret true) (op2 inD (getV 1) (M.ret (.str lettersS))) = C at c ⊢
  have e1 : ((1 : Int) ≤ s.length) ↔ 1 ≤ s.length := by omega
  have e2 : ((s.length : Int) ≤ 8) ↔ s.length ≤ 8 := by omega
  have b := boolsOf_map s.cps.toList isLetter
  by_cases h1 : 1 ≤ s.length
  · by_cases h2 : s.length ≤ 8
    · cases h3 : wordsS.any (· == s) with
      | true =>
        rw [h3] at hw
        have h3' : ((wordsS.any fun x => x == s) = true) := h3
        simp [DL.ini, DL.agsF, DL.fin, DL.outs, DL.seqM, M.bnd, M.ret, M.opt, DL.op2, DL.op1, DL.getV, DL.setM, DL.ifM, DL.tstB, DL.asB, DL.retM, DL.nxM, DL.bltM, DL.consA, DL.consV, DL.refV, DL.callM, DL.argG, DL.refs, DL.putR, DL.mkTup, DL.mkLst, DL.andV, DL.orV, DL.notV, DL.andB, DL.orB, DL.notB, DL.isiM, DL.addD, DL.subD, DL.mulD, DL.gtD, DL.ltD, DL.geD, DL.leD, DL.fdivD, DL.modD, DL.powD, DL.negD, DL.intD, DL.lenD, DL.absD, DL.dropM, DL.parM, DL.eqD_int, DL.neD_int, PySem.sizeLine, DL.kit_int_int, DL.kit_int_bool, DL.kit_int_str, DL.kit_int_tuple, DL.kit_int_list, DL.kit_bool_int, DL.kit_bool_bool, DL.kit_bool_str, DL.kit_bool_tuple, DL.kit_bool_list, DL.kit_str_int, DL.kit_str_bool, DL.kit_str_str, DL.kit_str_tuple, DL.kit_str_list, DL.kit_tuple_int, DL.kit_tuple_bool, DL.kit_tuple_str, DL.kit_tuple_tuple, DL.kit_tuple_list, DL.kit_list_int, DL.kit_list_bool, DL.kit_list_str, DL.kit_list_tuple, DL.kit_list_list, DL.kit_none_int, DL.kit_none_bool, DL.kit_none_str, DL.kit_none_tuple, DL.kit_none_list, DL.D.ty, chainM, e1, e2, h1, h2, hw, hz, nameB, h3']
      | false =>
        rw [h3] at hw
        have h3' : ((wordsS.any fun x => x == s) = false) := h3
        simp only [nameB, h3', decide_eq_true h1, decide_eq_true h2]
        simp [DL.ini, DL.agsF, DL.fin, DL.outs, DL.seqM, M.bnd, M.ret, M.opt, DL.op2, DL.op1, DL.getV, DL.setM, DL.ifM, DL.tstB, DL.asB, DL.retM, DL.nxM, DL.bltM, DL.consA, DL.consV, DL.refV, DL.callM, DL.argG, DL.refs, DL.putR, DL.mkTup, DL.mkLst, DL.andV, DL.orV, DL.notV, DL.andB, DL.orB, DL.notB, DL.isiM, DL.addD, DL.subD, DL.mulD, DL.gtD, DL.ltD, DL.geD, DL.leD, DL.fdivD, DL.modD, DL.powD, DL.negD, DL.intD, DL.lenD, DL.absD, DL.dropM, DL.parM, DL.eqD_int, DL.neD_int, PySem.sizeLine, DL.kit_int_int, DL.kit_int_bool, DL.kit_int_str, DL.kit_int_tuple, DL.kit_int_list, DL.kit_bool_int, DL.kit_bool_bool, DL.kit_bool_str, DL.kit_bool_tuple, DL.kit_bool_list, DL.kit_str_int, DL.kit_str_bool, DL.kit_str_str, DL.kit_str_tuple, DL.kit_str_list, DL.kit_tuple_int, DL.kit_tuple_bool, DL.kit_tuple_str, DL.kit_tuple_tuple, DL.kit_tuple_list, DL.kit_list_int, DL.kit_list_bool, DL.kit_list_str, DL.kit_list_tuple, DL.kit_list_list, DL.kit_none_int, DL.kit_none_bool, DL.kit_none_str, DL.kit_none_tuple, DL.kit_none_list, DL.D.ty, chainM, e1, e2, h1, h2, hw, hz, datM, frzO, c, allD, b]
    · simp [DL.ini, DL.agsF, DL.fin, DL.outs, DL.seqM, M.bnd, M.ret, M.opt, DL.op2, DL.op1, DL.getV, DL.setM, DL.ifM, DL.tstB, DL.asB, DL.retM, DL.nxM, DL.bltM, DL.consA, DL.consV, DL.refV, DL.callM, DL.argG, DL.refs, DL.putR, DL.mkTup, DL.mkLst, DL.andV, DL.orV, DL.notV, DL.andB, DL.orB, DL.notB, DL.isiM, DL.addD, DL.subD, DL.mulD, DL.gtD, DL.ltD, DL.geD, DL.leD, DL.fdivD, DL.modD, DL.powD, DL.negD, DL.intD, DL.lenD, DL.absD, DL.dropM, DL.parM, DL.eqD_int, DL.neD_int, PySem.sizeLine, DL.kit_int_int, DL.kit_int_bool, DL.kit_int_str, DL.kit_int_tuple, DL.kit_int_list, DL.kit_bool_int, DL.kit_bool_bool, DL.kit_bool_str, DL.kit_bool_tuple, DL.kit_bool_list, DL.kit_str_int, DL.kit_str_bool, DL.kit_str_str, DL.kit_str_tuple, DL.kit_str_list, DL.kit_tuple_int, DL.kit_tuple_bool, DL.kit_tuple_str, DL.kit_tuple_tuple, DL.kit_tuple_list, DL.kit_list_int, DL.kit_list_bool, DL.kit_list_str, DL.kit_list_tuple, DL.kit_list_list, DL.kit_none_int, DL.kit_none_bool, DL.kit_none_str, DL.kit_none_tuple, DL.kit_none_list, DL.D.ty, chainM, e1, e2, h1, h2, hz, nameB]
  · simp [DL.ini, DL.agsF, DL.fin, DL.outs, DL.seqM, M.bnd, M.ret, M.opt, DL.op2, DL.op1, DL.getV, DL.setM, DL.ifM, DL.tstB, DL.asB, DL.retM, DL.nxM, DL.bltM, DL.consA, DL.consV, DL.refV, DL.callM, DL.argG, DL.refs, DL.putR, DL.mkTup, DL.mkLst, DL.andV, DL.orV, DL.notV, DL.andB, DL.orB, DL.notB, DL.isiM, DL.addD, DL.subD, DL.mulD, DL.gtD, DL.ltD, DL.geD, DL.leD, DL.fdivD, DL.modD, DL.powD, DL.negD, DL.intD, DL.lenD, DL.absD, DL.dropM, DL.parM, DL.eqD_int, DL.neD_int, PySem.sizeLine, DL.kit_int_int, DL.kit_int_bool, DL.kit_int_str, DL.kit_int_tuple, DL.kit_int_list, DL.kit_bool_int, DL.kit_bool_bool, DL.kit_bool_str, DL.kit_bool_tuple, DL.kit_bool_list, DL.kit_str_int, DL.kit_str_bool, DL.kit_str_str, DL.kit_str_tuple, DL.kit_str_list, DL.kit_tuple_int, DL.kit_tuple_bool, DL.kit_tuple_str, DL.kit_tuple_tuple, DL.kit_tuple_list, DL.kit_list_int, DL.kit_list_bool, DL.kit_list_str, DL.kit_list_tuple, DL.kit_list_list, DL.kit_none_int, DL.kit_none_bool, DL.kit_none_str, DL.kit_none_tuple, DL.kit_none_list, DL.D.ty, chainM, e1, e2, h1, hz, nameB]
theorem isName_r {d : D} (hi : d.notIns = true) (hs : ∀ s, d = .str s → PyData.strOk s = true ∧ s.length ≤ 2000) : isNameF [.d d] = some (.ret (.bl d.isName), []) := by
  cases d with
  | str s => exact isName_str (hs s rfl).1 (hs s rfl).2
  | ins _ _ => cases hi
  | _ => exact autoF_eq rfl fun adr => by simp [isNameM, DL.ini, DL.agsF, DL.fin, DL.outs, DL.seqM, M.bnd, M.ret, M.opt, DL.op2, DL.op1, DL.getV, DL.setM, DL.ifM, DL.tstB, DL.asB, DL.retM, DL.nxM, DL.bltM, DL.consA, DL.consV, DL.refV, DL.callM, DL.argG, DL.refs, DL.putR, DL.mkTup, DL.mkLst, DL.andV, DL.orV, DL.notV, DL.andB, DL.orB, DL.notB, DL.isiM, DL.addD, DL.subD, DL.mulD, DL.gtD, DL.ltD, DL.geD, DL.leD, DL.fdivD, DL.modD, DL.powD, DL.negD, DL.intD, DL.lenD, DL.absD, DL.dropM, DL.parM, DL.eqD_int, DL.neD_int, PySem.sizeLine, DL.kit_int_int, DL.kit_int_bool, DL.kit_int_str, DL.kit_int_tuple, DL.kit_int_list, DL.kit_bool_int, DL.kit_bool_bool, DL.kit_bool_str, DL.kit_bool_tuple, DL.kit_bool_list, DL.kit_str_int, DL.kit_str_bool, DL.kit_str_str, DL.kit_str_tuple, DL.kit_str_list, DL.kit_tuple_int, DL.kit_tuple_bool, DL.kit_tuple_str, DL.kit_tuple_tuple, DL.kit_tuple_list, DL.kit_list_int, DL.kit_list_bool, DL.kit_list_str, DL.kit_list_tuple, DL.kit_list_list, DL.kit_none_int, DL.kit_none_bool, DL.kit_none_str, DL.kit_none_tuple, DL.kit_none_list, DL.D.ty, D.isName]
/-! ### the law's words -/
def reservedM : M Fl := (seqM (setM 0 (M.ret (.str ("ask bar add coin near dear low span least few all not both either made face within there close many offer " : Str))))
  (retM (datM (strA splitD (op2 addD (getV 0) (M.ret (.str ("day back object rule house first last cheapest stands falls nobody" : Str)))) (M.ret (.str (" " : Str)))))))
noncomputable abbrev reservedF : FS := autoF 0 reservedM 1
theorem reserved_split : Txt.split (("ask bar add coin near dear low span least few all not both either made face within there close many offer " : Str) ++ ("day back object rule house first last cheapest stands falls nobody" : Str)) (" " : Str) = wordsS := by decide +kernel
theorem reserved_len : (("ask bar add coin near dear low span least few all not both either made face within there close many offer " : Str)).length + (("day back object rule house first last cheapest stands falls nobody" : Str)).length ≤ 16777216 ∧ ((" " : Str).length == 0) = false ∧
    (("ask bar add coin near dear low span least few all not both either made face within there close many offer " : Str) ++ ("day back object rule house first last cheapest stands falls nobody" : Str)).length + 2 ≤ 16777216 := by decide +kernel
theorem reserved_fin {A B S : Str} {ws : List Str} (h1 : A.length + B.length ≤ 16777216) (h2 : (S.length == 0) = false) (h3 : (A ++ B).length + 2 ≤ 16777216) (hs : Txt.split (A ++ B) S = ws) (e : DL.En) (q : 0 < e.length) :
    seqM (setM 0 (M.ret (.str A))) (retM (datM (strA splitD (op2 addD (getV 0) (M.ret (.str B))) (M.ret (.str S))))) e = .ok (.rt (.lst (ws.map .str))) (e.set 0 (.dat (.str A))) := by
  have z : PySem.sizeLine = 16777216 := by decide
  have es : splitD (A ++ B) (.str S) = some (.lst (ws.map .str)) := by
    unfold splitD
    dsimp only
    rw [if_pos ⟨h2, by rw [z]; exact h3⟩, hs]
  simp [DL.ini, DL.agsF, DL.fin, DL.outs, DL.seqM, M.bnd, M.ret, M.opt, DL.op2, DL.op1, DL.getV, DL.setM, DL.ifM, DL.tstB, DL.asB, DL.retM, DL.nxM, DL.bltM, DL.consA, DL.consV, DL.refV, DL.callM, DL.argG, DL.refs, DL.putR, DL.mkTup, DL.mkLst, DL.andV, DL.orV, DL.notV, DL.andB, DL.orB, DL.notB, DL.isiM, DL.addD, DL.subD, DL.mulD, DL.gtD, DL.ltD, DL.geD, DL.leD, DL.fdivD, DL.modD, DL.powD, DL.negD, DL.intD, DL.lenD, DL.absD, DL.dropM, DL.parM, DL.eqD_int, DL.neD_int, PySem.sizeLine, strA, datM, frzO, h1, es, q]
theorem reserved_r : reservedF [] = some (.ret (.lst (wordsS.map .str)), []) := autoF_eq rfl fun adr => by
  obtain ⟨h1, h2, h3⟩ := reserved_len
  unfold reservedM
  rw [reserved_fin h1 h2 h3 reserved_split _ (by simp [DL.ini, DL.agsF])]
  rfl
def nameFitsM (F : FS) : M Fl := (seqM (ifM (orB (notB (tstB (isiM "str" (getV 0)))) (tstB (op2 inD (getV 0) (callM F (M.ret []))))) (retM (M.ret (.bl false))) nxM)
  (seqM (ifM (orB (tstB (op2 ltD (bltM lenD (consA (getV 0) (M.ret []))) (M.ret (.int 1)))) (tstB (op2 gtD (bltM lenD (consA (getV 0) (M.ret []))) (M.ret (.int 8))))) (retM (M.ret (.bl false))) nxM)
  (retM (op2 eqD (datM (compM [1] (itStr (getV 0)) (gSet 1) (tstB (op2 notInD (getV 1) (M.ret (.str ("abcdefghijklmnopqrstuvwxyz" : Str))))) (getV 1))) (mkLst (M.ret []))))))
noncomputable abbrev nameFitsF : FS := autoF 1 (nameFitsM reservedF) 2
def notLet : D → Bool
  | .str s => !strIn s lettersS
  | _ => false
theorem fits_comp {s : Str} (hl : s.length ≤ 2000) : compM [1] (itStr (getV 0)) (gSet 1) (tstB (op2 notInD (getV 1) (M.ret (.str ("abcdefghijklmnopqrstuvwxyz" : Str))))) (getV 1) [.dat (.str s), .un] = .ok (.lst (((charsOf s).filter notLet).map id)) [.dat (.str s), .un] := by
  rw [compM_pure (e1 := [.dat (.str s), .un]) (ds := charsOf s) (fun d => [.dat (.str s), .dat d]) notLet id (by simp [itStr, getV, M.bnd, M.opt]) (by unfold charsOf; rw [List.length_map, cps_len]; omega) (fun d hd => by simp [gSet, wipeE]) (fun d hd => by
    obtain ⟨c, hc, rfl⟩ := charsOf_mem hd
    simp [DL.ini, DL.agsF, DL.fin, DL.outs, DL.seqM, M.bnd, M.ret, M.opt, DL.op2, DL.op1, DL.getV, DL.setM, DL.ifM, DL.tstB, DL.asB, DL.retM, DL.nxM, DL.bltM, DL.consA, DL.consV, DL.refV, DL.callM, DL.argG, DL.refs, DL.putR, DL.mkTup, DL.mkLst, DL.andV, DL.orV, DL.notV, DL.andB, DL.orB, DL.notB, DL.isiM, DL.addD, DL.subD, DL.mulD, DL.gtD, DL.ltD, DL.geD, DL.leD, DL.fdivD, DL.modD, DL.powD, DL.negD, DL.intD, DL.lenD, DL.absD, DL.dropM, DL.parM, DL.eqD_int, DL.neD_int, PySem.sizeLine, notInD, inD, notLet, lettersS]) (fun d hd _ => by simp [DL.ini, DL.agsF, DL.fin, DL.outs, DL.seqM, M.bnd, M.ret, M.opt, DL.op2, DL.op1, DL.getV, DL.setM, DL.ifM, DL.tstB, DL.asB, DL.retM, DL.nxM, DL.bltM, DL.consA, DL.consV, DL.refV, DL.callM, DL.argG, DL.refs, DL.putR, DL.mkTup, DL.mkLst, DL.andV, DL.orV, DL.notV, DL.andB, DL.orB, DL.notB, DL.isiM, DL.addD, DL.subD, DL.mulD, DL.gtD, DL.ltD, DL.geD, DL.leD, DL.fdivD, DL.modD, DL.powD, DL.negD, DL.intD, DL.lenD, DL.absD, DL.dropM, DL.parM, DL.eqD_int, DL.neD_int, PySem.sizeLine]) (fun d hd => by simp [wipeE])]
  simp [wipeE]
theorem strOk_mem {s : Str} (hs : PyData.strOk s = true) {c : Nat} (hc : c ∈ s.cps.toList) : PyData.strOk ⟨#[c]⟩ = true := by
  unfold PyData.strOk at hs ⊢
  have h := (Array.all_eq_true'.mp hs) c (by simpa using hc)
  simpa using h
theorem filter_letters {s : Str} : ((charsOf s).filter notLet).isEmpty = s.cps.toList.all isLetter := by
  unfold charsOf
  rw [Bool.eq_iff_iff, List.isEmpty_iff, List.filter_eq_nil_iff, List.all_eq_true]
  constructor
  · intro h c hc
    have := h (.str ⟨#[c]⟩) (List.mem_map.mpr ⟨c, hc, rfl⟩)
    have q : ¬ (!strIn ⟨#[c]⟩ lettersS) = true := this
    rw [strIn_letter] at q
    simpa using q
  · intro h d hd
    obtain ⟨c, hc, rfl⟩ := List.mem_map.mp hd
    show ¬ (!strIn ⟨#[c]⟩ lettersS) = true
    rw [strIn_letter, h c hc]
    decide
theorem eqv_lst_nil (xs : List D) : D.eqv (.lst xs) (.lst []) = xs.isEmpty := by
  unfold D.eqv
  cases xs <;> simp [D.toPy, D.toPys, PyData.eqv, PyData.eqvAll]
theorem eqD_nil {xs : List D} {n : Nat} (h : ∀ x ∈ xs, OkN n x) (hn : n ≤ 60) : eqD (.lst xs) (.lst []) = some (.bl xs.isEmpty) := by
  rw [eqD_of (okN_lst h) (okN_lst (n := 0) (xs := []) (fun x hx => (List.not_mem_nil hx).elim)) (by omega) (by decide), eqv_lst_nil]
theorem nameFits_str {s : Str} (hs : PyData.strOk s = true) (hl : s.length ≤ 2000) : nameFitsF [.d (.str s)] = some (.ret (.bl (nameB s)), []) := autoF_eq rfl fun adr => by
  have hw := in_words_l hs
  have c := fits_comp hl
  have hz : s.length ≤ 16777216 := by omega
  have hr := reserved_r
  have q : eqD (.lst (((charsOf s).filter notLet).map id)) (.lst []) = some (.bl (s.cps.toList.all isLetter)) := by
    rw [List.map_id, eqD_nil (n := 0) (fun x hx => by
      obtain ⟨c, hc, rfl⟩ := charsOf_mem (List.mem_filter.mp hx).1
      exact okN_str (strOk_mem hs hc)) (by decide), filter_letters]
  unfold nameFitsM
  generalize reservedF = R at hr ⊢
  generalize compM [1] (itStr (getV 0)) (gSet 1) (tstB (op2 notInD (getV 1) (M.ret (.str ("abcdefghijklmnopqrstuvwxyz" : Str))))) (getV 1) = C at c ⊢
  generalize (((charsOf s).filter notLet).map id) = L at c q ⊢
  have e1 : ((s.length : Int) < 1) ↔ ¬ 1 ≤ s.length := by omega
  have e2 : (8 : Int) < s.length ↔ ¬ s.length ≤ 8 := by omega
  cases h3 : wordsS.any (· == s) with
  | true =>
    rw [h3] at hw
    have h3' : ((wordsS.any fun x => x == s) = true) := h3
    simp only [nameB, h3']
    simp [DL.ini, DL.agsF, DL.fin, DL.outs, DL.seqM, M.bnd, M.ret, M.opt, DL.op2, DL.op1, DL.getV, DL.setM, DL.ifM, DL.tstB, DL.asB, DL.retM, DL.nxM, DL.bltM, DL.consA, DL.consV, DL.refV, DL.callM, DL.argG, DL.refs, DL.putR, DL.mkTup, DL.mkLst, DL.andV, DL.orV, DL.notV, DL.andB, DL.orB, DL.notB, DL.isiM, DL.addD, DL.subD, DL.mulD, DL.gtD, DL.ltD, DL.geD, DL.leD, DL.fdivD, DL.modD, DL.powD, DL.negD, DL.intD, DL.lenD, DL.absD, DL.dropM, DL.parM, DL.eqD_int, DL.neD_int, PySem.sizeLine, DL.kit_int_int, DL.kit_int_bool, DL.kit_int_str, DL.kit_int_tuple, DL.kit_int_list, DL.kit_bool_int, DL.kit_bool_bool, DL.kit_bool_str, DL.kit_bool_tuple, DL.kit_bool_list, DL.kit_str_int, DL.kit_str_bool, DL.kit_str_str, DL.kit_str_tuple, DL.kit_str_list, DL.kit_tuple_int, DL.kit_tuple_bool, DL.kit_tuple_str, DL.kit_tuple_tuple, DL.kit_tuple_list, DL.kit_list_int, DL.kit_list_bool, DL.kit_list_str, DL.kit_list_tuple, DL.kit_list_list, DL.kit_none_int, DL.kit_none_bool, DL.kit_none_str, DL.kit_none_tuple, DL.kit_none_list, DL.D.ty, hr, hw]
  | false =>
    rw [h3] at hw
    have h3' : ((wordsS.any fun x => x == s) = false) := h3
    simp only [nameB, h3']
    by_cases h1 : 1 ≤ s.length
    · by_cases h2 : s.length ≤ 8
      · simp only [decide_eq_true h1, decide_eq_true h2]
        simp [DL.ini, DL.agsF, DL.fin, DL.outs, DL.seqM, M.bnd, M.ret, M.opt, DL.op2, DL.op1, DL.getV, DL.setM, DL.ifM, DL.tstB, DL.asB, DL.retM, DL.nxM, DL.bltM, DL.consA, DL.consV, DL.refV, DL.callM, DL.argG, DL.refs, DL.putR, DL.mkTup, DL.mkLst, DL.andV, DL.orV, DL.notV, DL.andB, DL.orB, DL.notB, DL.isiM, DL.addD, DL.subD, DL.mulD, DL.gtD, DL.ltD, DL.geD, DL.leD, DL.fdivD, DL.modD, DL.powD, DL.negD, DL.intD, DL.lenD, DL.absD, DL.dropM, DL.parM, DL.eqD_int, DL.neD_int, PySem.sizeLine, DL.kit_int_int, DL.kit_int_bool, DL.kit_int_str, DL.kit_int_tuple, DL.kit_int_list, DL.kit_bool_int, DL.kit_bool_bool, DL.kit_bool_str, DL.kit_bool_tuple, DL.kit_bool_list, DL.kit_str_int, DL.kit_str_bool, DL.kit_str_str, DL.kit_str_tuple, DL.kit_str_list, DL.kit_tuple_int, DL.kit_tuple_bool, DL.kit_tuple_str, DL.kit_tuple_tuple, DL.kit_tuple_list, DL.kit_list_int, DL.kit_list_bool, DL.kit_list_str, DL.kit_list_tuple, DL.kit_list_list, DL.kit_none_int, DL.kit_none_bool, DL.kit_none_str, DL.kit_none_tuple, DL.kit_none_list, DL.D.ty, hr, hw, hz, e1, e2, h1, h2, datM, frzO, c, q]
      · simp [DL.ini, DL.agsF, DL.fin, DL.outs, DL.seqM, M.bnd, M.ret, M.opt, DL.op2, DL.op1, DL.getV, DL.setM, DL.ifM, DL.tstB, DL.asB, DL.retM, DL.nxM, DL.bltM, DL.consA, DL.consV, DL.refV, DL.callM, DL.argG, DL.refs, DL.putR, DL.mkTup, DL.mkLst, DL.andV, DL.orV, DL.notV, DL.andB, DL.orB, DL.notB, DL.isiM, DL.addD, DL.subD, DL.mulD, DL.gtD, DL.ltD, DL.geD, DL.leD, DL.fdivD, DL.modD, DL.powD, DL.negD, DL.intD, DL.lenD, DL.absD, DL.dropM, DL.parM, DL.eqD_int, DL.neD_int, PySem.sizeLine, DL.kit_int_int, DL.kit_int_bool, DL.kit_int_str, DL.kit_int_tuple, DL.kit_int_list, DL.kit_bool_int, DL.kit_bool_bool, DL.kit_bool_str, DL.kit_bool_tuple, DL.kit_bool_list, DL.kit_str_int, DL.kit_str_bool, DL.kit_str_str, DL.kit_str_tuple, DL.kit_str_list, DL.kit_tuple_int, DL.kit_tuple_bool, DL.kit_tuple_str, DL.kit_tuple_tuple, DL.kit_tuple_list, DL.kit_list_int, DL.kit_list_bool, DL.kit_list_str, DL.kit_list_tuple, DL.kit_list_list, DL.kit_none_int, DL.kit_none_bool, DL.kit_none_str, DL.kit_none_tuple, DL.kit_none_list, DL.D.ty, hr, hw, hz, e1, e2, h1, h2]
    · simp [DL.ini, DL.agsF, DL.fin, DL.outs, DL.seqM, M.bnd, M.ret, M.opt, DL.op2, DL.op1, DL.getV, DL.setM, DL.ifM, DL.tstB, DL.asB, DL.retM, DL.nxM, DL.bltM, DL.consA, DL.consV, DL.refV, DL.callM, DL.argG, DL.refs, DL.putR, DL.mkTup, DL.mkLst, DL.andV, DL.orV, DL.notV, DL.andB, DL.orB, DL.notB, DL.isiM, DL.addD, DL.subD, DL.mulD, DL.gtD, DL.ltD, DL.geD, DL.leD, DL.fdivD, DL.modD, DL.powD, DL.negD, DL.intD, DL.lenD, DL.absD, DL.dropM, DL.parM, DL.eqD_int, DL.neD_int, PySem.sizeLine, DL.kit_int_int, DL.kit_int_bool, DL.kit_int_str, DL.kit_int_tuple, DL.kit_int_list, DL.kit_bool_int, DL.kit_bool_bool, DL.kit_bool_str, DL.kit_bool_tuple, DL.kit_bool_list, DL.kit_str_int, DL.kit_str_bool, DL.kit_str_str, DL.kit_str_tuple, DL.kit_str_list, DL.kit_tuple_int, DL.kit_tuple_bool, DL.kit_tuple_str, DL.kit_tuple_tuple, DL.kit_tuple_list, DL.kit_list_int, DL.kit_list_bool, DL.kit_list_str, DL.kit_list_tuple, DL.kit_list_list, DL.kit_none_int, DL.kit_none_bool, DL.kit_none_str, DL.kit_none_tuple, DL.kit_none_list, DL.D.ty, hr, hw, hz, e1, e2, h1]
theorem nameFits_r {d : D} (hi : d.notIns = true) (hs : ∀ s, d = .str s → PyData.strOk s = true ∧ s.length ≤ 2000) : nameFitsF [.d d] = some (.ret (.bl d.isName), []) := by
  cases d with
  | str s => exact nameFits_str (hs s rfl).1 (hs s rfl).2
  | ins _ _ => cases hi
  | _ => exact autoF_eq rfl fun adr => by simp [nameFitsM, DL.ini, DL.agsF, DL.fin, DL.outs, DL.seqM, M.bnd, M.ret, M.opt, DL.op2, DL.op1, DL.getV, DL.setM, DL.ifM, DL.tstB, DL.asB, DL.retM, DL.nxM, DL.bltM, DL.consA, DL.consV, DL.refV, DL.callM, DL.argG, DL.refs, DL.putR, DL.mkTup, DL.mkLst, DL.andV, DL.orV, DL.notV, DL.andB, DL.orB, DL.notB, DL.isiM, DL.addD, DL.subD, DL.mulD, DL.gtD, DL.ltD, DL.geD, DL.leD, DL.fdivD, DL.modD, DL.powD, DL.negD, DL.intD, DL.lenD, DL.absD, DL.dropM, DL.parM, DL.eqD_int, DL.neD_int, PySem.sizeLine, DL.kit_int_int, DL.kit_int_bool, DL.kit_int_str, DL.kit_int_tuple, DL.kit_int_list, DL.kit_bool_int, DL.kit_bool_bool, DL.kit_bool_str, DL.kit_bool_tuple, DL.kit_bool_list, DL.kit_str_int, DL.kit_str_bool, DL.kit_str_str, DL.kit_str_tuple, DL.kit_str_list, DL.kit_tuple_int, DL.kit_tuple_bool, DL.kit_tuple_str, DL.kit_tuple_tuple, DL.kit_tuple_list, DL.kit_list_int, DL.kit_list_bool, DL.kit_list_str, DL.kit_list_tuple, DL.kit_list_list, DL.kit_none_int, DL.kit_none_bool, DL.kit_none_str, DL.kit_none_tuple, DL.kit_none_list, DL.D.ty, D.isName]
/-! ### words spelled -/
def spelledM (F : FS) : M Fl := (retM (strM joinD (M.ret (.str ("" : Str))) (datM (compM [2] (itRange1 (consA (getV 1) (M.ret []))) (gSet 2) (M.ret true) (op2 ixD (M.ret (.str ("abcdefghijklmnopqrstuvwxyz" : Str))) (callM F (refV 0 (consV (M.ret (.int 26)) (M.ret [])))))))))
noncomputable abbrev spelledF : FS := autoF 2 (spelledM pickF) 3
theorem letters_at {r : Nat} (h : r < 26) : ∃ c, lettersS.cps.toList[r]? = some c ∧ isLetter c = true := by
  have e : lettersS.cps.toList = [97, 98, 99, 100, 101, 102, 103, 104, 105, 106, 107, 108, 109, 110, 111, 112, 113, 114, 115, 116, 117, 118, 119, 120, 121, 122] := by decide +kernel
  rw [e]
  have h' : r < [97, 98, 99, 100, 101, 102, 103, 104, 105, 106, 107, 108, 109, 110, 111, 112, 113, 114, 115, 116, 117, 118, 119, 120, 121, 122].length := h
  refine ⟨_, List.getElem?_eq_getElem h', ?_⟩
  have := List.getElem_mem h'
  unfold isLetter
  rw [e]
  exact decide_eq_true this
theorem ixD_letter {r : Nat} (h : r < 26) : ∃ c, ixD (.str ("abcdefghijklmnopqrstuvwxyz" : Str)) (.int r) = some (.str ⟨#[c]⟩) ∧ isLetter c = true := by
  obtain ⟨c, hc, hl⟩ := letters_at h
  refine ⟨c, ?_, hl⟩
  have z : lettersS.length ≤ sizeLine := by decide +kernel
  have l26 : lettersS.cps.toList.length = 26 := by decide +kernel
  unfold ixD
  dsimp only
  rw [if_pos z]
  have this : atI lettersS.cps.toList (r : Int) = some c := by
    unfold atI ixN
    rw [if_pos (Int.natCast_nonneg r), l26, if_pos (by omega : (r : Int) < (26 : Nat))]
    exact hc
  show (atI lettersS.cps.toList (r : Int)).map _ = _
  rw [this]
  rfl
theorem strsOf_map (ws : List Str) : strsOf (ws.map D.str) = some ws := by
  induction ws with
  | nil => rfl
  | cons w ws ih => show (strsOf (ws.map D.str)).map (w :: ·) = _; rw [ih]; rfl
theorem join_signs : ∀ (cs : List Nat), Str.join ("" : Str) (cs.map fun c => ⟨#[c]⟩) = ⟨cs.toArray⟩
  | [] => by rfl
  | [c] => by rfl
  | c :: c2 :: cs => by
    have ih := join_signs (c2 :: cs)
    have e : ("" : Str) = Str.empty := by decide +kernel
    rw [e] at ih ⊢
    show (⟨#[c]⟩ : Str) ++ Str.empty ++ Str.join Str.empty ((c2 :: cs).map fun c => ⟨#[c]⟩) = _
    rw [ih]
    apply TL.ext_tl
    rw [TL.tl_append, TL.tl_append]
    rfl
theorem strOk_of {cs : List Nat} (h : ∀ c ∈ cs, c < 1114112) : PyData.strOk ⟨cs.toArray⟩ = true := by
  unfold PyData.strOk
  simpa using h
/-- a text of letters -/
structure Letters (s : Str) : Prop where
  l : ∀ c ∈ s.cps.toList, isLetter c = true
theorem Letters.ok {s : Str} (h : Letters s) : PyData.strOk s = true := by
  have := strOk_of (cs := s.cps.toList) (fun c hc => by
    have := letter_iff.mp (h.l c hc)
    omega)
  simpa using this
theorem spelled_fin {C : M Ob} {L : List D} {Z s : Str} {e e' : DL.En} (h1 : C e = .ok (.lst L) e') (j : joinD (.str Z) (.lst L) = some (.str s)) : DL.retM (strM joinD (M.ret (.str Z)) (datM C)) e = .ok (.rt (.str s)) e' := by
  simp only [DL.retM, strM, M.bnd, M.ret, M.opt, datM, frzO, h1, j]
theorem spelled_r {b : Bag} (hb : 0 ≤ b.at_) {n : Nat} (hn : n ≤ 1000) : ∃ s b', spelledF [.o (.bag b), .d (.int n)] = some (.ret (.str s), [.bag b']) ∧ s.length = n ∧ Letters s ∧ Nx b b' := by
  have key : Wp (spelledM pickF) (fun adr : Nat → Addr => ini adr [.o (.bag b), .d (.int n)] 3) (Fin [.o (.bag b), .d (.int n)] fun d os => ∃ s b', d = .str s ∧ os = [.bag b'] ∧ s.length = n ∧ Letters s ∧ Nx b b') := by
    have c : Wp (compM [2] (itRange1 (consA (getV 1) (M.ret []))) (gSet 2) (M.ret true) (op2 ixD (M.ret (.str ("abcdefghijklmnopqrstuvwxyz" : Str))) (callM pickF (refV 0 (consV (M.ret (.int 26)) (M.ret [])))))) (fun adr : Nat → Addr => [.own (some (adr 0)) (.bag b), .dat (.int n), .un])
        (fun o e => ∃ (cs : List Nat) (b' : Bag), o = .lst ((cs.map fun c => (⟨#[c]⟩ : Str)).map .str) ∧ cs.length = n ∧ (∀ c ∈ cs, isLetter c = true) ∧ Nx b b' ∧ e = fun adr => [.own (some (adr 0)) (.bag b'), .dat (.int n), .un]) := by
      refine Wp.compM (fun r ys e => ∃ (cs : List Nat) (b' : Bag), ys = (cs.map fun c => (⟨#[c]⟩ : Str)).map D.str ∧ r.length + cs.length = n ∧ (∀ c ∈ cs, isLetter c = true) ∧ Nx b b' ∧ e = fun adr => [.own (some (adr 0)) (.bag b'), .dat (.int n), .un]) ?_ ?_ ?_
      · refine Wp.run (x := rangeL 0 n) (e' := fun adr => [.own (some (adr 0)) (.bag b), .dat (.int n), .un]) (fun adr => range1_run ?_ (by omega)) ⟨?_, [], b, rfl, ?_, ?_, .refl hb, ?_⟩
        · simp [DL.ini, DL.agsF, DL.fin, DL.outs, DL.seqM, M.bnd, M.ret, M.opt, DL.op2, DL.op1, DL.getV, DL.setM, DL.ifM, DL.tstB, DL.asB, DL.retM, DL.nxM, DL.bltM, DL.consA, DL.consV, DL.refV, DL.callM, DL.argG, DL.refs, DL.putR, DL.mkTup, DL.mkLst, DL.andV, DL.orV, DL.notV, DL.andB, DL.orB, DL.notB, DL.isiM, DL.addD, DL.subD, DL.mulD, DL.gtD, DL.ltD, DL.geD, DL.leD, DL.fdivD, DL.modD, DL.powD, DL.negD, DL.intD, DL.lenD, DL.absD, DL.dropM, DL.parM, DL.eqD_int, DL.neD_int, PySem.sizeLine]
        · rw [rangeL_length]
          exact sz_le (by omega)
        · rw [rangeL_length]
          rfl
        · intro c hc
          exact (List.not_mem_nil hc).elim
        · funext adr
          simp [wipeE]
      · rintro ys e ⟨cs, b', rfl, h1, h2, h3, rfl⟩
        refine ⟨cs, b', rfl, by simpa using h1, h2, h3, ?_⟩
        funext adr
        simp [wipeE]
      · rintro d r ys e ⟨cs, b1, rfl, h1, h2, h3, rfl⟩
        obtain ⟨k, b', hp, hk, hx⟩ := pick_n h3.ok (m := 26) (by decide) (by decide)
        obtain ⟨c, hc, hl⟩ := ixD_letter hk
        have hp' : pickF [.o (.bag b1), .d (.int 26)] = some (.ret (.int (k : Nat)), [.bag b']) := hp
        refine ⟨fun adr => [.own (some (adr 0)) (.bag b1), .dat (.int n), .dat d], fun adr => rfl, Wp.run (x := true) (e' := fun adr => [.own (some (adr 0)) (.bag b1), .dat (.int n), .dat d]) (fun adr => rfl) ?_⟩
        rw [if_pos rfl]
        generalize (Str.ofString "abcdefghijklmnopqrstuvwxyz") = L at hc ⊢
        refine Wp.run (x := .str ⟨#[c]⟩) (e' := fun adr => [.own (some (adr 0)) (.bag b'), .dat (.int n), .dat d]) (fun adr => by simp [DL.ini, DL.agsF, DL.fin, DL.outs, DL.seqM, M.bnd, M.ret, M.opt, DL.op2, DL.op1, DL.getV, DL.setM, DL.ifM, DL.tstB, DL.asB, DL.retM, DL.nxM, DL.bltM, DL.consA, DL.consV, DL.refV, DL.callM, DL.argG, DL.refs, DL.putR, DL.mkTup, DL.mkLst, DL.andV, DL.orV, DL.notV, DL.andB, DL.orB, DL.notB, DL.isiM, DL.addD, DL.subD, DL.mulD, DL.gtD, DL.ltD, DL.geD, DL.leD, DL.fdivD, DL.modD, DL.powD, DL.negD, DL.intD, DL.lenD, DL.absD, DL.dropM, DL.parM, DL.eqD_int, DL.neD_int, PySem.sizeLine, hp', hc]) ?_
        refine ⟨cs ++ [c], b', by simp, by simp at h1 ⊢; omega, fun c' hc' => ?_, h3.trans hx, ?_⟩
        · rcases List.mem_append.mp hc' with q | q
          · exact h2 c' q
          · rw [List.mem_singleton.mp q]
            exact hl
        · funext adr
          simp [wipeE]
    obtain ⟨o, e', h1, cs, b', rfl, h2, h3, h4, rfl⟩ := c
    have j : joinD (.str ("" : Str)) (.lst ((cs.map fun c => (⟨#[c]⟩ : Str)).map .str)) = some (.str ⟨cs.toArray⟩) := by
      have l0 : ("" : Str).length = 0 := by decide +kernel
      have ls : ((cs.map fun c => (⟨#[c]⟩ : Str)).map (·.length)).sum = cs.length := by
        rw [List.map_map]
        clear h1 h2 h3
        induction cs with
        | nil => rfl
        | cons c cs ih => rw [List.map_cons, List.sum_cons, ih, List.length_cons]; show 1 + cs.length = _; omega
      unfold joinD
      dsimp only
      rw [strsOf_map]
      dsimp only
      rw [ls, l0, if_pos (by omega), TL.join_eq, join_signs]
    refine Wp.run (e' := fun adr => [.own (some (adr 0)) (.bag b'), .dat (.int n), .un]) (fun adr => spelled_fin (h1 adr) j) ?_
    exact ⟨[.bag b'], fun adr => by simp [outs], _, b', rfl, rfl, by show cs.toArray.size = n; simpa using h2, ⟨fun c hc => h3 c (by simpa using hc)⟩, h4⟩
  obtain ⟨d, os, h, s, b', rfl, rfl, h1, h2, h3⟩ := Wp.fn (p := 2) rfl key
  exact ⟨s, b', h, h1, h2, h3⟩
end DL
set_option maxRecDepth 100000
set_option maxHeartbeats 1000000
/-! # DL24: statements and comprehensions run on given slots. -/
namespace DL
open PySem L2 PyProof.Rows
section
variable {e e1 e2 : DL.En} {i j : Nat} {x d : D} {xs : List D}
theorem own_run {m : M Ob} {o : Ob} (h : m e = .ok o e1) : ownM i m e = .ok .nx (e1.set i (.own none o)) := by unfold ownM M.bnd; rw [h]
theorem set_run {m : M D} (h : m e = .ok d e1) : setM i m e = .ok .nx (e1.set i (.dat d)) := by unfold setM M.bnd; rw [h]
theorem ret_run {m : M D} (h : m e = .ok d e1) : retM m e = .ok (.rt d) e1 := by unfold retM M.bnd; rw [h]; rfl
theorem dat_run {m : M Ob} {o : Ob} (h : m e = .ok o e1) (ho : frzO o = some d) : datM m e = .ok d e1 := by unfold datM M.bnd; rw [h]; dsimp only; rw [ho]; rfl
theorem getV_dat (h : e[i]? = some (.dat x)) : getV i e = .ok x e := by unfold getV; rw [h]
theorem getV_own {t : Option Addr} (h : e[i]? = some (.own t (.lst xs))) : getV i e = .ok (.lst xs) (e.set i (.dat (.lst xs))) := by unfold getV; rw [h]
theorem itSeq_run {m : M D} (h : m e = .ok x e1) (hx : seqOf x = some xs) : itSeq m e = .ok xs e1 := by unfold itSeq M.bnd; rw [h]; dsimp only; rw [hx]; rfl
theorem comp_it {it : M (List D)} {c : M Bool} {el : M D} (p : D → Bool) (f : D → D) (hi : it e = .ok xs e1) (hz : xs.length ≤ 16777216) (hc : ∀ d ∈ xs, c (e1.set j (.dat d)) = .ok (p d) (e1.set j (.dat d)))
    (hel : ∀ d ∈ xs, p d = true → el (e1.set j (.dat d)) = .ok (f d) (e1.set j (.dat d))) : compM [j] it (gSet j) c el e = .ok (.lst ((xs.filter p).map f)) (e1.set j .un) := by
  rw [compM_pure (e1 := e1) (fun d => e1.set j (.dat d)) p f hi hz (fun d hd => by simp [gSet, wipeE]) hc hel (fun d hd => by simp [wipeE])]
  simp [wipeE]
theorem comp_itM {it : M (List D)} {el : M D} (f : D → D) (hi : it e = .ok xs e1) (hz : xs.length ≤ 16777216)
    (hel : ∀ d ∈ xs, el (e1.set j (.dat d)) = .ok (f d) (e1.set j (.dat d))) : compM [j] it (gSet j) (M.ret true) el e = .ok (.lst (xs.map f)) (e1.set j .un) := by
  have q := comp_it (j := j) (c := M.ret true) (fun _ => true) f hi hz (fun d hd => rfl) (fun d hd _ => hel d hd)
  rw [filter_tt] at q
  exact q
/-- a comprehension over the data in slot i -/
theorem comp_slot {el : M D} (f : D → D) (hi : e[i]? = some (.dat x)) (hx : seqOf x = some xs) (hz : xs.length ≤ 16777216) (hel : ∀ d ∈ xs, el (e.set j (.dat d)) = .ok (f d) (e.set j (.dat d))) :
    compM [j] (itSeq (getV i)) (gSet j) (M.ret true) el e = .ok (.lst (xs.map f)) (e.set j .un) := comp_itM f (itSeq_run (getV_dat hi) hx) hz hel
theorem comp_slotF {c : M Bool} {el : M D} (p : D → Bool) (f : D → D) (hi : e[i]? = some (.dat x)) (hx : seqOf x = some xs) (hz : xs.length ≤ 16777216) (hc : ∀ d ∈ xs, c (e.set j (.dat d)) = .ok (p d) (e.set j (.dat d))) (hel : ∀ d ∈ xs, p d = true → el (e.set j (.dat d)) = .ok (f d) (e.set j (.dat d))) :
    compM [j] (itSeq (getV i)) (gSet j) c el e = .ok (.lst ((xs.filter p).map f)) (e.set j .un) := comp_it p f (itSeq_run (getV_dat hi) hx) hz hc hel
/-- over the own list in slot i, which becomes data -/
theorem comp_own {el : M D} {t : Option Addr} (f : D → D) (hi : e[i]? = some (.own t (.lst xs))) (hz : xs.length ≤ 16777216) (hel : ∀ d ∈ xs, el ((e.set i (.dat (.lst xs))).set j (.dat d)) = .ok (f d) ((e.set i (.dat (.lst xs))).set j (.dat d))) :
    compM [j] (itSeq (getV i)) (gSet j) (M.ret true) el e = .ok (.lst (xs.map f)) ((e.set i (.dat (.lst xs))).set j .un) := comp_itM f (itSeq_run (getV_own hi) rfl) hz hel
theorem comp_range {el : M D} {m : M (List D)} {n : Nat} (f : D → D) (hm : m e = .ok [.int (n : Int)] e1) (hn : n ≤ 1000000) (hel : ∀ k : Nat, k < n → el (e1.set j (.dat (.int k))) = .ok (f (.int k)) (e1.set j (.dat (.int k)))) :
    compM [j] (itRange1 m) (gSet j) (M.ret true) el e = .ok (.lst ((rangeL 0 n).map f)) (e1.set j .un) := comp_itM f (range1_run hm hn) (by rw [rangeL_length]; omega) fun d hd => by
  obtain ⟨k, hk, rfl⟩ := List.mem_map.mp hd
  rw [Int.zero_add]
  exact hel k (List.mem_range.mp hk)
end
/-! ### calls run on given slots -/
section
variable {F : FS} {e : DL.En}
theorem eqD_refl {n : Nat} {a : D} (ha : OkN n a) (hn : n ≤ 64) : eqD a a = some (.bl true) := eqD_self ha hn
end
end DL
set_option maxRecDepth 100000
set_option maxHeartbeats 4000000
namespace K01
open PySem L2 DL PyProof.Rows

def top (i : Nat) : Stmt := PySem.Challenge.pw_strawturn_k01_ratios_and_names.main.body.getD i (.Pass ⟨0, 0, 0, 0⟩)
abbrev s_is_name : Stmt := top 7
abbrev s_is_integer : Stmt := top 8
abbrev s_deep : Stmt := top 9
abbrev s_common : Stmt := top 11
abbrev s_ratio : Stmt := top 12
abbrev s_rate_of : Stmt := top 13
abbrev s_is_ratio : Stmt := top 14
abbrev s_plus : Stmt := top 15
abbrev s_minus : Stmt := top 16
abbrev s_times : Stmt := top 17
abbrev s_less : Stmt := top 18
abbrev s_write_ratio : Stmt := top 19
abbrev s_l_bag_of : Stmt := top 21
abbrev s_l_pick : Stmt := top 22
abbrev s_l_choice : Stmt := top 23
abbrev s_l_one_in : Stmt := top 24
abbrev s_l_shuffled : Stmt := top 25
abbrev s_l_integer : Stmt := top 26
abbrev s_l_plain : Stmt := top 27
abbrev s_l_lists : Stmt := top 28
abbrev s_l_tuples : Stmt := top 29
abbrev s_l_spelled : Stmt := top 30
abbrev s_l_reserved : Stmt := top 31
abbrev s_l_common : Stmt := top 32
abbrev s_l_ratio : Stmt := top 33
abbrev s_l_plus : Stmt := top 34
abbrev s_l_number_of : Stmt := top 35
abbrev s_l_drawn : Stmt := top 36
abbrev s_l_made : Stmt := top 37
abbrev s_l_made_right : Stmt := top 38
abbrev s_l_sum : Stmt := top 39
abbrev s_l_sums_right : Stmt := top 40
abbrev s_l_text : Stmt := top 41
abbrev s_l_truth : Stmt := top 42
abbrev s_l_two_right : Stmt := top 43
abbrev s_l_algebra : Stmt := top 44
abbrev s_l_odd_ratio : Stmt := top 45
abbrev s_l_ratio_fits : Stmt := top 46
abbrev s_l_word_of : Stmt := top 47
abbrev s_l_name_fits : Stmt := top 48
abbrev s_l_names_right : Stmt := top 49
abbrev s_law : Stmt := top 50
def wordsL : List Str := ["ask", "bar", "add", "coin", "near", "dear", "low", "span", "least", "few", "all", "not", "both", "either", "made", "face", "within", "there", "close", "many", "offer", "day", "back", "object", "rule", "house", "first", "last", "cheapest", "stands", "falls", "nobody"]
def letters : Str := "abcdefghijklmnopqrstuvwxyz"
def clsSt (s : Stmt) (j : Nat) : Stmt := match s with
  | .ClassDef _ _ _ b _ _ _ _ _ _ _ => b.getD j (.Pass ⟨0, 0, 0, 0⟩)
  | s => s

structure Tx (P : Program) (K : PySem.W.Frag) (mg : Str → Option Value) where
  f_l_pick : Addr
  u_l_pick : FunX K mg "_law_pick" s_l_pick ["_law_bag", "_law_many"] f_l_pick
  f_l_choice : Addr
  u_l_choice : FunX K mg "_law_choice" s_l_choice ["_law_bag", "_law_things"] f_l_choice
  f_l_number_of : Addr
  u_l_number_of : FunX K mg "_law_number_of" s_l_number_of ["_law_bag", "_law_size"] f_l_number_of
  f_l_common : Addr
  u_l_common : FunX K mg "_law_common" s_l_common ["_law_first", "_law_second"] f_l_common
  f_l_ratio : Addr
  u_l_ratio : FunX K mg "_law_ratio" s_l_ratio ["_law_top", "_law_under"] f_l_ratio
  f_l_drawn : Addr
  u_l_drawn : FunX K mg "_law_drawn" s_l_drawn ["_law_bag", "_law_size"] f_l_drawn
  f_l_reserved : Addr
  u_l_reserved : FunX K mg "_law_reserved" s_l_reserved [] f_l_reserved
  f_l_spelled : Addr
  u_l_spelled : FunX K mg "_law_spelled" s_l_spelled ["_law_bag", "_law_many"] f_l_spelled
  f_l_word_of : Addr
  u_l_word_of : FunX K mg "_law_word_of" s_l_word_of ["_law_bag"] f_l_word_of
  f_l_odd_ratio : Addr
  u_l_odd_ratio : FunX K mg "_law_odd_ratio" s_l_odd_ratio ["_law_bag"] f_l_odd_ratio
  f_l_integer : Addr
  u_l_integer : FunX K mg "_law_integer" s_l_integer ["_law_thing"] f_l_integer
  f_l_plain : Addr
  u_l_plain : FunX K mg "_law_plain" s_l_plain ["_law_thing"] f_l_plain
  f_l_truth : Addr
  u_l_truth : FunX K mg "_law_truth" s_l_truth ["_law_found", "_law_due"] f_l_truth
  f_is_name : Addr
  u_is_name : FunX K mg "is_name" s_is_name ["thing"] f_is_name
  f_l_name_fits : Addr
  u_l_name_fits : FunX K mg "_law_name_fits" s_l_name_fits ["_law_thing"] f_l_name_fits
  f_deep : Addr
  u_deep : FunX K mg "deep" s_deep ["thing"] f_deep
  f_common : Addr
  u_common : FunX K mg "common" s_common ["first", "second"] f_common
  f_is_integer : Addr
  u_is_integer : FunX K mg "is_integer" s_is_integer ["thing", "low", "high"] f_is_integer
  f_rate_of : Addr
  u_rate_of : FunX K mg "rate_of" s_rate_of ["thing"] f_rate_of
  f_is_ratio : Addr
  u_is_ratio : FunX K mg "is_ratio" s_is_ratio ["thing"] f_is_ratio
  f_l_ratio_fits : Addr
  u_l_ratio_fits : FunX K mg "_law_ratio_fits" s_l_ratio_fits ["_law_thing"] f_l_ratio_fits
  f_l_lists : Addr
  u_l_lists : FunX K mg "_law_lists" s_l_lists ["_law_thing"] f_l_lists
  f_l_names_right : Addr
  u_l_names_right : FunX K mg "_law_names_right" s_l_names_right ["_law_bag"] f_l_names_right
  f_l_one_in : Addr
  u_l_one_in : FunX K mg "_law_one_in" s_l_one_in ["_law_bag", "_law_many"] f_l_one_in
  f_ratio : Addr
  u_ratio : FunO K mg "ratio" s_ratio [.int 1] f_ratio
  f_l_made : Addr
  u_l_made : FunX K mg "_law_made" s_l_made ["_law_top", "_law_low"] f_l_made
  f_l_made_right : Addr
  u_l_made_right : FunX K mg "_law_made_right" s_l_made_right ["_law_bag", "_law_size"] f_l_made_right
  f_plus : Addr
  u_plus : FunS K mg "plus" s_plus f_plus
  f_l_sum : Addr
  u_l_sum : FunX K mg "_law_sum" s_l_sum ["_law_rows"] f_l_sum
  f_l_plus : Addr
  u_l_plus : FunX K mg "_law_plus" s_l_plus ["_law_first", "_law_second"] f_l_plus
  f_l_tuples : Addr
  u_l_tuples : FunX K mg "_law_tuples" s_l_tuples ["_law_thing"] f_l_tuples
  f_l_shuffled : Addr
  u_l_shuffled : FunX K mg "_law_shuffled" s_l_shuffled ["_law_bag", "_law_things"] f_l_shuffled
  f_l_sums_right : Addr
  u_l_sums_right : FunX K mg "_law_sums_right" s_l_sums_right ["_law_bag", "_law_rows"] f_l_sums_right
  f_write_ratio : Addr
  u_write_ratio : FunX K mg "write_ratio" s_write_ratio ["ratio_told"] f_write_ratio
  f_minus : Addr
  u_minus : FunX K mg "minus" s_minus ["first", "second"] f_minus
  f_times : Addr
  u_times : FunX K mg "times" s_times ["first", "second"] f_times
  f_less : Addr
  u_less : FunX K mg "less" s_less ["first", "second"] f_less
  f_l_text : Addr
  u_l_text : FunX K mg "_law_text" s_l_text ["_law_told"] f_l_text
  f_l_two_right : Addr
  u_l_two_right : FunX K mg "_law_two_right" s_l_two_right ["_law_one", "_law_two"] f_l_two_right
  f_l_algebra : Addr
  u_l_algebra : FunX K mg "_law_algebra" s_l_algebra ["_law_one", "_law_two", "_law_third"] f_l_algebra
  f_law : Addr
  u_law : FunX K mg "law" s_law ["_law_script"] f_law
  f_l_bag_of : Addr
  u_l_bag_of : FunX K mg "_law_bag_of" s_l_bag_of ["_law_script"] f_l_bag_of
  C_StrawError : Addr
  C_BadRatio : Addr
  C_BadFace : Addr
  g_StrawError : mg "StrawError" = some (.ref C_StrawError)
  g_BadRatio : mg "BadRatio" = some (.ref C_BadRatio)
  g_BadFace : mg "BadFace" = some (.ref C_BadFace)
  i_BadRatio : Addr
  cc_BadRatio : Addr
  cda_BadRatio : Addr
  ex_BadRatio : PySem.EXS.ExTxt P K mg "BadRatio" C_BadRatio i_BadRatio cc_BadRatio cda_BadRatio ["top", "bottom"] (clsSt (top 2) 0) "BadRatio.__init__"
  xf_BadRatio : XfC K C_BadRatio
  ec_BadRatio : ExcC K C_BadRatio
  no_BadRatio_top : PySem.W.findIn K (.ref C_BadRatio) "top" = some none
  no_BadRatio_bottom : PySem.W.findIn K (.ref C_BadRatio) "bottom" = some none
  xm_BadRatio_BadRatio : PySem.W.exmOne K (.ref C_BadRatio) (.ref C_BadRatio) = some true
  ke_BadRatio_StrawError : PySem.W.kitOne K (.ref C_BadRatio) (.ref C_StrawError) = some true
  ke_BadRatio_ValueError : PySem.W.kitOne K (.ref C_BadRatio) (.type "ValueError") = some true
  ke_BadRatio_BadFace : PySem.W.kitOne K (.ref C_BadRatio) (.ref C_BadFace) = some false
  a_WORDS : Addr
  c_WORDS : mg "WORDS" = some (.ref a_WORDS)
  d_WORDS : ∀ H : Hp, SqT K H a_WORDS (wordsL.map V.str)
  tk_LETTERS : Tok
  c_LETTERS : mg "LETTERS" = some (.str letters tk_LETTERS)
  n_ValueError : mg "ValueError" = none
  n_abs : mg "abs" = none
  n_all : mg "all" = none
  n_bool : mg "bool" = none
  n_int : mg "int" = none
  n_isinstance : mg "isinstance" = none
  n_len : mg "len" = none
  n_list : mg "list" = none
  n_range : mg "range" = none
  n_str : mg "str" = none
  n_tuple : mg "tuple" = none
def Tx.cm {P : Program} {K : PySem.W.Frag} {mg : Str → Option Value} (T : Tx P K mg) : CM := fun n => match n with
  | 3 => T.C_StrawError
  | 4 => T.C_BadRatio
  | 5 => T.C_BadFace
  | _ => 0
def t_BadRatio (n : Nat) : Option Bool := if n = 4 then some true else none
def t_StrawError (n : Nat) : Option Bool := none
theorem Tx.t_BadRatio {P : Program} {K : PySem.W.Frag} {mg : Str → Option Value} (T : Tx P K mg) : ∀ n b, t_BadRatio n = some b → PySem.W.exmOne K (.ref (T.cm n)) (.ref T.C_BadRatio) = some b := fun n b h => by
  unfold K01.t_BadRatio at h
  split at h
  · rename_i q
    subst q
    cases h
    exact T.xm_BadRatio_BadRatio
  · cases h
theorem Tx.t_StrawError {P : Program} {K : PySem.W.Frag} {mg : Str → Option Value} (T : Tx P K mg) : ∀ n b, t_StrawError n = some b → PySem.W.exmOne K (.ref (T.cm n)) (.ref T.C_StrawError) = some b := fun n b h => by cases h
/-- how many turns Euclid takes at most: the second slot -/
def bnd1 (e : DL.En) : Nat := match e[1]? with
  | some (DL.Sl.dat (.int i)) => i.toNat + 1
  | _ => 0

section
variable {P : Program} {w : World} {K : PySem.W.Frag} {mg : Str → Option Value} {base : Heap}
abbrev N_l_pick : List Str := ["_law_bag", "_law_many", "_law_number", "_law_cell"]
theorem sc_l_pick : FnScope N_l_pick ["_law_bag", "_law_many"] (defScope s_l_pick) := ⟨rfl, rfl, rfl, by decide +kernel, rfl, by decide +kernel, by decide +kernel⟩
def m_l_pick : M Fl := (seqM (bagSetM 0 "count" (op2 addD (bagI 0 "count") (M.ret (.int 1))))
  (seqM (ifM (tstB (op2 gtD (bagI 0 "rest") (M.ret (.int 0)))) (seqM (setM 2 (bagI 0 "rest"))
  (seqM (bagSetM 0 "rest" (op2 fdivD (getV 2) (getV 1)))
  (retM (op2 modD (bltM intD (consA (getV 2) (M.ret []))) (getV 1))))) nxM)
  (seqM (setM 3 (M.ret (.int 0)))
  (seqM (ifM (tstB (op2 ltD (bagI 0 "at") (bltM lenD (consA (bagI 0 "cells") (M.ret []))))) (seqM (setM 3 (op2 ixD (bagI 0 "cells") (bagI 0 "at")))
  (seqM (bagSetM 0 "at" (op2 addD (bagI 0 "at") (M.ret (.int 1))))
  (ifM (tstB (op2 geD (getV 3) (op2 powD (M.ret (.int 10)) (M.ret (.int 18))))) (seqM (bagSetM 0 "rest" (op2 fdivD (getV 3) (getV 1)))
  (retM (op2 modD (bltM intD (consA (getV 3) (M.ret []))) (getV 1)))) nxM))) nxM)
  (seqM (setM 2 (op2 modD (bltM intD (consA (op2 addD (op2 addD (op2 mulD (getV 3) (M.ret (.int 48271))) (op2 mulD (bagI 0 "mixed") (M.ret (.int 69621)))) (op2 mulD (bagI 0 "count") (M.ret (.int 16807)))) (M.ret []))) (M.ret (.int 2147483647))))
  (seqM (setM 2 (op2 modD (bltM intD (consA (op2 addD (op2 mulD (getV 2) (M.ret (.int 48271))) (M.ret (.int 12345))) (M.ret []))) (M.ret (.int 2147483647))))
  (seqM (bagSetM 0 "mixed" (op2 modD (bltM intD (consA (getV 2) (M.ret []))) (M.ret (.int 1000003))))
  (retM (op2 modD (bltM intD (consA (op2 fdivD (getV 2) (M.ret (.int 11))) (M.ret []))) (getV 1))))))))))
theorem b_l_pick (T : Tx P K mg) : DBody P w K mg base T.cm N_l_pick "_law_pick" s_l_pick T.f_l_pick 0 (m_l_pick) := by
  intro cdv A outer s H E hr tk
  have hu := DL.hu_of hr
  exact (dss_cons (ds_bagSet hu (de_op ox_add (de_bagI hu) de_int))
  (dss_cons (ds_if (dt_cmp ox_gt (de_bagI hu) de_int) (dss_cons (ds_set sc_l_pick.nd rfl (by first | exact Or.inl rfl | exact Or.inr rfl) (de_bagI hu))
  (dss_cons (ds_bagSet hu (de_op ox_fdiv (de_var 2) (de_var 1)))
  (dss_one (ds_ret (de_op ox_mod (de_callTy cx_int T.n_int rfl (da_cons (de_var 2) da_nil)) (de_var 1)))))) dss_nil)
  (dss_cons (ds_set sc_l_pick.nd rfl (by first | exact Or.inl rfl | exact Or.inr rfl) de_int)
  (dss_cons (ds_if (dt_cmp (ox_lt hu) (de_bagI hu) (de_callB cx_len T.n_len rfl (da_cons (de_bagI hu) da_nil))) (dss_cons (ds_set sc_l_pick.nd rfl (by first | exact Or.inl rfl | exact Or.inr rfl) (de_ix (de_bagI hu) (de_bagI hu)))
  (dss_cons (ds_bagSet hu (de_op ox_add (de_bagI hu) de_int))
  (dss_one (ds_if (dt_cmp ox_ge (de_var 3) (de_op ox_pow de_int de_int)) (dss_cons (ds_bagSet hu (de_op ox_fdiv (de_var 3) (de_var 1)))
  (dss_one (ds_ret (de_op ox_mod (de_callTy cx_int T.n_int rfl (da_cons (de_var 3) da_nil)) (de_var 1))))) dss_nil)))) dss_nil)
  (dss_cons (ds_set sc_l_pick.nd rfl (by first | exact Or.inl rfl | exact Or.inr rfl) (de_op ox_mod (de_callTy cx_int T.n_int rfl (da_cons (de_op ox_add (de_op ox_add (de_op ox_mul (de_var 3) de_int) (de_op ox_mul (de_bagI hu) de_int)) (de_op ox_mul (de_bagI hu) de_int)) da_nil)) de_int))
  (dss_cons (ds_set sc_l_pick.nd rfl (by first | exact Or.inl rfl | exact Or.inr rfl) (de_op ox_mod (de_callTy cx_int T.n_int rfl (da_cons (de_op ox_add (de_op ox_mul (de_var 2) de_int) de_int) da_nil)) de_int))
  (dss_cons (ds_bagSet hu (de_op ox_mod (de_callTy cx_int T.n_int rfl (da_cons (de_var 2) da_nil)) de_int))
  (dss_one (ds_ret (de_op ox_mod (de_callTy cx_int T.n_int rfl (da_cons (de_op ox_fdiv (de_var 2) de_int) da_nil)) (de_var 1)))))))))))
abbrev N_l_choice : List Str := ["_law_bag", "_law_things"]
theorem sc_l_choice : FnScope N_l_choice ["_law_bag", "_law_things"] (defScope s_l_choice) := ⟨rfl, rfl, rfl, by decide +kernel, rfl, by decide +kernel, by decide +kernel⟩
def m_l_choice (F_l_pick : FS) : M Fl := (retM (op2 ixD (getV 1) (callM F_l_pick (refV 0 (consV (bltM lenD (consA (getV 1) (M.ret []))) (M.ret []))))))
theorem b_l_choice (T : Tx P K mg) {F_l_pick : FS} (G_l_pick : DFn P w K mg base T.cm 1 T.f_l_pick F_l_pick) : DBody P w K mg base T.cm N_l_choice "_law_choice" s_l_choice T.f_l_choice 1 (m_l_choice F_l_pick) := by
  intro cdv A outer s H E hr tk
  have hu := DL.hu_of hr
  exact (dss_one (ds_ret (de_ix (de_var 1) (de_call G_l_pick tk hr (by omega) T.u_l_pick.g T.u_l_pick.kp (dv_ref 0 (dv_cons (de_callB cx_len T.n_len rfl (da_cons (de_var 1) da_nil)) dv_nil))))))
abbrev N_l_number_of : List Str := ["_law_bag", "_law_size", "_law_most"]
theorem sc_l_number_of : FnScope N_l_number_of ["_law_bag", "_law_size"] (defScope s_l_number_of) := ⟨rfl, rfl, rfl, by decide +kernel, rfl, by decide +kernel, by decide +kernel⟩
def m_l_number_of (F_l_pick : FS) : M Fl := (seqM (setM 2 (op2 ixD (mkLst (consA (M.ret (.int 13)) (consA (M.ret (.int 1000)) (consA (op2 powD (M.ret (.int 10)) (M.ret (.int 9))) (consA (op2 addD (op2 powD (M.ret (.int 10)) (M.ret (.int 39))) (M.ret (.int 1))) (M.ret [])))))) (getV 1)))
  (retM (op2 subD (callM F_l_pick (refV 0 (consV (getV 2) (M.ret [])))) (callM F_l_pick (refV 0 (consV (getV 2) (M.ret [])))))))
theorem b_l_number_of (T : Tx P K mg) {F_l_pick : FS} (G_l_pick : DFn P w K mg base T.cm 1 T.f_l_pick F_l_pick) : DBody P w K mg base T.cm N_l_number_of "_law_number_of" s_l_number_of T.f_l_number_of 1 (m_l_number_of F_l_pick) := by
  intro cdv A outer s H E hr tk
  have hu := DL.hu_of hr
  exact (dss_cons (ds_set sc_l_number_of.nd rfl (by first | exact Or.inl rfl | exact Or.inr rfl) (de_ix (de_lst (da_cons de_int (da_cons de_int (da_cons (de_op ox_pow de_int de_int) (da_cons (de_op ox_add (de_op ox_pow de_int de_int) de_int) da_nil))))) (de_var 1)))
  (dss_one (ds_ret (de_op ox_sub (de_call G_l_pick tk hr (by omega) T.u_l_pick.g T.u_l_pick.kp (dv_ref 0 (dv_cons (de_var 2) dv_nil))) (de_call G_l_pick tk hr (by omega) T.u_l_pick.g T.u_l_pick.kp (dv_ref 0 (dv_cons (de_var 2) dv_nil)))))))
abbrev N_l_common : List Str := ["_law_first", "_law_second"]
theorem sc_l_common : FnScope N_l_common ["_law_first", "_law_second"] (defScope s_l_common) := ⟨rfl, rfl, rfl, by decide +kernel, rfl, by decide +kernel, by decide +kernel⟩
def m_l_common : M Fl := (seqM (whileM bnd1 (tstB (op2 gtD (getV 1) (M.ret (.int 0)))) (parM 0 1 (consA (getV 1) (consA (op2 modD (bltM intD (consA (getV 0) (M.ret []))) (getV 1)) (M.ret [])))))
  (retM (getV 0)))
theorem b_l_common (T : Tx P K mg) : DBody P w K mg base T.cm N_l_common "_law_common" s_l_common T.f_l_common 0 (m_l_common) := by
  intro cdv A outer s H E hr tk
  have hu := DL.hu_of hr
  exact (dss_cons (ds_while bnd1 hp_of (dt_cmp ox_gt (de_var 1) de_int) (dss_one (ds_par rfl sc_l_common.nd rfl rfl (by decide) rfl rfl (da_cons (de_var 1) (da_cons (de_op ox_mod (de_callTy cx_int T.n_int rfl (da_cons (de_var 0) da_nil)) (de_var 1)) da_nil)) rfl)))
  (dss_one (ds_ret (de_var 0))))
abbrev N_l_ratio : List Str := ["_law_top", "_law_under", "_law_shared"]
theorem sc_l_ratio : FnScope N_l_ratio ["_law_top", "_law_under"] (defScope s_l_ratio) := ⟨rfl, rfl, rfl, by decide +kernel, rfl, by decide +kernel, by decide +kernel⟩
def m_l_ratio (F_l_common : FS) : M Fl := (seqM (setM 2 (callM F_l_common (consV (bltM absD (consA (getV 0) (M.ret []))) (consV (getV 1) (M.ret [])))))
  (retM (mkTup (consA (op2 fdivD (getV 0) (getV 2)) (consA (op2 fdivD (getV 1) (getV 2)) (M.ret []))))))
theorem b_l_ratio (T : Tx P K mg) {F_l_common : FS} (G_l_common : DFn P w K mg base T.cm 1 T.f_l_common F_l_common) : DBody P w K mg base T.cm N_l_ratio "_law_ratio" s_l_ratio T.f_l_ratio 1 (m_l_ratio F_l_common) := by
  intro cdv A outer s H E hr tk
  have hu := DL.hu_of hr
  exact (dss_cons (ds_set sc_l_ratio.nd rfl (by first | exact Or.inl rfl | exact Or.inr rfl) (de_call G_l_common tk hr (by omega) T.u_l_common.g T.u_l_common.kp (dv_cons (de_callB cx_abs T.n_abs rfl (da_cons (de_var 0) da_nil)) (dv_cons (de_var 1) dv_nil))))
  (dss_one (ds_ret (de_tup (da_cons (de_op ox_fdiv (de_var 0) (de_var 2)) (da_cons (de_op ox_fdiv (de_var 1) (de_var 2)) da_nil))))))
abbrev N_l_drawn : List Str := ["_law_bag", "_law_size", "_law_top"]
theorem sc_l_drawn : FnScope N_l_drawn ["_law_bag", "_law_size"] (defScope s_l_drawn) := ⟨rfl, rfl, rfl, by decide +kernel, rfl, by decide +kernel, by decide +kernel⟩
def m_l_drawn (F_l_number_of : FS) (F_l_pick : FS) (F_l_ratio : FS) : M Fl := (seqM (setM 2 (callM F_l_number_of (refV 0 (consV (getV 1) (M.ret [])))))
  (retM (callM F_l_ratio (consV (getV 2) (consV (op2 addD (M.ret (.int 1)) (callM F_l_pick (refV 0 (consV (op2 ixD (mkLst (consA (M.ret (.int 12)) (consA (M.ret (.int 99)) (consA (op2 powD (M.ret (.int 10)) (M.ret (.int 9))) (consA (op2 powD (M.ret (.int 10)) (M.ret (.int 39))) (M.ret [])))))) (getV 1)) (M.ret []))))) (M.ret []))))))
theorem b_l_drawn (T : Tx P K mg) {F_l_number_of F_l_pick F_l_ratio : FS} (G_l_number_of : DFn P w K mg base T.cm 2 T.f_l_number_of F_l_number_of) (G_l_pick : DFn P w K mg base T.cm 1 T.f_l_pick F_l_pick) (G_l_ratio : DFn P w K mg base T.cm 2 T.f_l_ratio F_l_ratio) : DBody P w K mg base T.cm N_l_drawn "_law_drawn" s_l_drawn T.f_l_drawn 2 (m_l_drawn F_l_number_of F_l_pick F_l_ratio) := by
  intro cdv A outer s H E hr tk
  have hu := DL.hu_of hr
  exact (dss_cons (ds_set sc_l_drawn.nd rfl (by first | exact Or.inl rfl | exact Or.inr rfl) (de_call G_l_number_of tk hr (by omega) T.u_l_number_of.g T.u_l_number_of.kp (dv_ref 0 (dv_cons (de_var 1) dv_nil))))
  (dss_one (ds_ret (de_call G_l_ratio tk hr (by omega) T.u_l_ratio.g T.u_l_ratio.kp (dv_cons (de_var 2) (dv_cons (de_op ox_add de_int (de_call G_l_pick tk hr (by omega) T.u_l_pick.g T.u_l_pick.kp (dv_ref 0 (dv_cons (de_ix (de_lst (da_cons de_int (da_cons de_int (da_cons (de_op ox_pow de_int de_int) (da_cons (de_op ox_pow de_int de_int) da_nil))))) (de_var 1)) dv_nil)))) dv_nil))))))
abbrev N_l_reserved : List Str := ["_law_told"]
theorem sc_l_reserved : FnScope N_l_reserved [] (defScope s_l_reserved) := ⟨rfl, rfl, rfl, by decide +kernel, rfl, by decide +kernel, by decide +kernel⟩
def m_l_reserved : M Fl := (seqM (setM 0 (M.ret (.str ("ask bar add coin near dear low span least few all not both either made face within there close many offer " : Str))))
  (retM (datM (strA splitD (op2 addD (getV 0) (M.ret (.str ("day back object rule house first last cheapest stands falls nobody" : Str)))) (M.ret (.str (" " : Str)))))))
theorem b_l_reserved (T : Tx P K mg) : DBody P w K mg base T.cm N_l_reserved "_law_reserved" s_l_reserved T.f_l_reserved 0 (m_l_reserved) := by
  intro cdv A outer s H E hr tk
  have hu := DL.hu_of hr
  exact (dss_cons (ds_set sc_l_reserved.nd rfl (by first | exact Or.inl rfl | exact Or.inr rfl) de_str)
  (dss_one (ds_ret (de_fresh (df_split (de_op ox_add (de_var 0) de_str) de_str)))))
abbrev N_l_spelled : List Str := ["_law_bag", "_law_many", "_law_k"]
theorem sc_l_spelled : FnScope N_l_spelled ["_law_bag", "_law_many"] (defScope s_l_spelled) := ⟨rfl, rfl, rfl, by decide +kernel, rfl, by decide +kernel, by decide +kernel⟩
def m_l_spelled (F_l_pick : FS) : M Fl := (retM (strM joinD (M.ret (.str ("" : Str))) (datM (compM [2] (itRange1 (consA (getV 1) (M.ret []))) (gSet 2) (M.ret true) (op2 ixD (M.ret (.str ("abcdefghijklmnopqrstuvwxyz" : Str))) (callM F_l_pick (refV 0 (consV (M.ret (.int 26)) (M.ret [])))))))))
theorem b_l_spelled (T : Tx P K mg) {F_l_pick : FS} (G_l_pick : DFn P w K mg base T.cm 1 T.f_l_pick F_l_pick) : DBody P w K mg base T.cm N_l_spelled "_law_spelled" s_l_spelled T.f_l_spelled 1 (m_l_spelled F_l_pick) := by
  intro cdv A outer s H E hr tk
  have hu := DL.hu_of hr
  exact (dss_one (ds_ret (de_join de_str (de_fresh (df_lc (own := [("_law_k", 2)]) rfl sc_l_spelled.nd (di_range1 rfl T.n_range (da_cons (de_var 1) da_nil)) (blkOk_by (by kernel_rfl)) (by decide) (fun _ _ _ _ _ => (dg_name sc_l_spelled.nd rfl (by first | exact Or.inl rfl | exact Or.inr rfl))) (fun _ _ _ _ _ => dts_yes) (fun _ _ _ _ _ => (de_ix de_str (de_call G_l_pick takes_none5 hr (by omega) T.u_l_pick.g T.u_l_pick.kp (dv_ref 0 (dv_cons de_int dv_nil))))))))))
abbrev N_l_word_of : List Str := ["_law_bag", "_law_way", "_law_word", "_law_spoil", "_law_at", "_law_sign"]
theorem sc_l_word_of : FnScope N_l_word_of ["_law_bag"] (defScope s_l_word_of) := ⟨rfl, rfl, rfl, by decide +kernel, rfl, by decide +kernel, by decide +kernel⟩
def m_l_word_of (F_l_choice : FS) (F_l_pick : FS) (F_l_reserved : FS) (F_l_spelled : FS) : M Fl := (seqM (setM 1 (callM F_l_pick (refV 0 (consV (M.ret (.int 8)) (M.ret [])))))
  (seqM (ifM (tstB (op2 eqD (getV 1) (M.ret (.int 7)))) (retM (callM F_l_choice (refV 0 (consV (mkLst (consA (M.ret .non) (consA (M.ret (.bl true)) (consA (M.ret (.int 7)) (consA (mkTup (consA (M.ret (.str ("quality" : Str))) (M.ret []))) (consA (mkLst (consA (M.ret (.str ("q" : Str))) (M.ret []))) (consA (mkTup (M.ret [])) (consA (op2 powD (M.ret (.int 10)) (M.ret (.int 30))) (M.ret []))))))))) (M.ret []))))) nxM)
  (seqM (setM 2 (callM F_l_spelled (refV 0 (consV (callM F_l_pick (refV 0 (consV (M.ret (.int 11)) (M.ret [])))) (M.ret [])))))
  (seqM (ifM (tstB (op2 ltD (getV 1) (M.ret (.int 4)))) (setM 2 (callM F_l_choice (refV 0 (consV (callM F_l_reserved (M.ret [])) (M.ret []))))) nxM)
  (seqM (setM 3 (callM F_l_pick (refV 0 (consV (M.ret (.int 7)) (M.ret [])))))
  (seqM (setM 4 (callM F_l_pick (refV 0 (consV (op2 addD (bltM lenD (consA (getV 2) (M.ret []))) (M.ret (.int 1))) (M.ret [])))))
  (seqM (setM 5 (callM F_l_choice (refV 0 (consV (mkLst (consA (M.ret (.str ("a" : Str))) (consA (M.ret (.str ("z" : Str))) (consA (M.ret (.str ("m" : Str))) (consA (M.ret (.str ("s" : Str))) (consA (M.ret (.str ("A" : Str))) (consA (M.ret (.str ("Z" : Str))) (consA (M.ret (.str ("0" : Str))) (consA (M.ret (.str ("9" : Str))) (consA (M.ret (.str ("_" : Str))) (consA (M.ret (.str (" " : Str))) (consA (M.ret (.str ("-" : Str))) (consA (M.ret (.str ("~" : Str))) (consA (M.ret (.str ("{" : Str))) (consA (M.ret (.str ("@" : Str))) (M.ret [])))))))))))))))) (M.ret [])))))
  (seqM (ifM (tstB (op2 eqD (getV 3) (M.ret (.int 1)))) (setM 2 (op2 addD (op2 addD (slice3 (getV 2) partN (partD (getV 4))) (getV 5)) (slice3 (getV 2) (partD (getV 4)) partN))) nxM)
  (seqM (ifM (tstB (op2 eqD (getV 3) (M.ret (.int 2)))) (setM 2 (op2 addD (slice3 (getV 2) partN (partD (getV 4))) (slice3 (getV 2) (partD (op2 addD (getV 4) (M.ret (.int 1)))) partN))) nxM)
  (seqM (ifM (tstB (op2 eqD (getV 3) (M.ret (.int 3)))) (setM 2 (op2 addD (op2 addD (slice3 (getV 2) partN (partD (getV 4))) (getV 5)) (slice3 (getV 2) (partD (op2 addD (getV 4) (M.ret (.int 1)))) partN))) nxM)
  (retM (getV 2))))))))))))
theorem b_l_word_of (T : Tx P K mg) {F_l_choice F_l_pick F_l_reserved F_l_spelled : FS} (G_l_choice : DFn P w K mg base T.cm 2 T.f_l_choice F_l_choice) (G_l_pick : DFn P w K mg base T.cm 1 T.f_l_pick F_l_pick) (G_l_reserved : DFn P w K mg base T.cm 1 T.f_l_reserved F_l_reserved) (G_l_spelled : DFn P w K mg base T.cm 2 T.f_l_spelled F_l_spelled) : DBody P w K mg base T.cm N_l_word_of "_law_word_of" s_l_word_of T.f_l_word_of 2 (m_l_word_of F_l_choice F_l_pick F_l_reserved F_l_spelled) := by
  intro cdv A outer s H E hr tk
  have hu := DL.hu_of hr
  exact (dss_cons (ds_set sc_l_word_of.nd rfl (by first | exact Or.inl rfl | exact Or.inr rfl) (de_call G_l_pick tk hr (by omega) T.u_l_pick.g T.u_l_pick.kp (dv_ref 0 (dv_cons de_int dv_nil))))
  (dss_cons (ds_if (dt_cmp (ox_eq hu) (de_var 1) de_int) (dss_one (ds_ret (de_call G_l_choice tk hr (by omega) T.u_l_choice.g T.u_l_choice.kp (dv_ref 0 (dv_cons (de_lst (da_cons de_non (da_cons de_bl (da_cons de_int (da_cons (de_tup (da_cons de_str da_nil)) (da_cons (de_lst (da_cons de_str da_nil)) (da_cons (de_tup da_nil) (da_cons (de_op ox_pow de_int de_int) da_nil)))))))) dv_nil))))) dss_nil)
  (dss_cons (ds_set sc_l_word_of.nd rfl (by first | exact Or.inl rfl | exact Or.inr rfl) (de_call G_l_spelled tk hr (by omega) T.u_l_spelled.g T.u_l_spelled.kp (dv_ref 0 (dv_cons (de_call G_l_pick tk hr (by omega) T.u_l_pick.g T.u_l_pick.kp (dv_ref 0 (dv_cons de_int dv_nil))) dv_nil))))
  (dss_cons (ds_if (dt_cmp (ox_lt hu) (de_var 1) de_int) (dss_one (ds_set sc_l_word_of.nd rfl (by first | exact Or.inl rfl | exact Or.inr rfl) (de_call G_l_choice tk hr (by omega) T.u_l_choice.g T.u_l_choice.kp (dv_ref 0 (dv_cons (de_call0 G_l_reserved tk hr (by omega) T.u_l_reserved.g T.u_l_reserved.kp) dv_nil))))) dss_nil)
  (dss_cons (ds_set sc_l_word_of.nd rfl (by first | exact Or.inl rfl | exact Or.inr rfl) (de_call G_l_pick tk hr (by omega) T.u_l_pick.g T.u_l_pick.kp (dv_ref 0 (dv_cons de_int dv_nil))))
  (dss_cons (ds_set sc_l_word_of.nd rfl (by first | exact Or.inl rfl | exact Or.inr rfl) (de_call G_l_pick tk hr (by omega) T.u_l_pick.g T.u_l_pick.kp (dv_ref 0 (dv_cons (de_op ox_add (de_callB cx_len T.n_len rfl (da_cons (de_var 2) da_nil)) de_int) dv_nil))))
  (dss_cons (ds_set sc_l_word_of.nd rfl (by first | exact Or.inl rfl | exact Or.inr rfl) (de_call G_l_choice tk hr (by omega) T.u_l_choice.g T.u_l_choice.kp (dv_ref 0 (dv_cons (de_lst (da_cons de_str (da_cons de_str (da_cons de_str (da_cons de_str (da_cons de_str (da_cons de_str (da_cons de_str (da_cons de_str (da_cons de_str (da_cons de_str (da_cons de_str (da_cons de_str (da_cons de_str (da_cons de_str da_nil))))))))))))))) dv_nil))))
  (dss_cons (ds_if (dt_cmp (ox_eq hu) (de_var 3) de_int) (dss_one (ds_set sc_l_word_of.nd rfl (by first | exact Or.inl rfl | exact Or.inr rfl) (de_op ox_add (de_op ox_add (de_slice (de_var 2) do_none (do_some (de_var 4))) (de_var 5)) (de_slice (de_var 2) (do_some (de_var 4)) do_none)))) dss_nil)
  (dss_cons (ds_if (dt_cmp (ox_eq hu) (de_var 3) de_int) (dss_one (ds_set sc_l_word_of.nd rfl (by first | exact Or.inl rfl | exact Or.inr rfl) (de_op ox_add (de_slice (de_var 2) do_none (do_some (de_var 4))) (de_slice (de_var 2) (do_some (de_op ox_add (de_var 4) de_int)) do_none)))) dss_nil)
  (dss_cons (ds_if (dt_cmp (ox_eq hu) (de_var 3) de_int) (dss_one (ds_set sc_l_word_of.nd rfl (by first | exact Or.inl rfl | exact Or.inr rfl) (de_op ox_add (de_op ox_add (de_slice (de_var 2) do_none (do_some (de_var 4))) (de_var 5)) (de_slice (de_var 2) (do_some (de_op ox_add (de_var 4) de_int)) do_none)))) dss_nil)
  (dss_one (ds_ret (de_var 2)))))))))))))
abbrev N_l_odd_ratio : List Str := ["_law_bag", "_law_way", "_law_top", "_law_odd"]
theorem sc_l_odd_ratio : FnScope N_l_odd_ratio ["_law_bag"] (defScope s_l_odd_ratio) := ⟨rfl, rfl, rfl, by decide +kernel, rfl, by decide +kernel, by decide +kernel⟩
def m_l_odd_ratio (F_l_choice : FS) (F_l_pick : FS) : M Fl := (seqM (setM 1 (callM F_l_pick (refV 0 (consV (M.ret (.int 8)) (M.ret [])))))
  (seqM (ifM (tstB (op2 ltD (getV 1) (M.ret (.int 4)))) (seqM (setM 2 (callM F_l_choice (refV 0 (consV (mkLst (consA (M.ret (.int 0)) (consA (M.ret (.int 0)) (consA (M.ret (.int 1)) (consA (op1 negD (M.ret (.int 1))) (consA (M.ret (.int 999)) (consA (op1 negD (M.ret (.int 999))) (consA (M.ret (.int 1000)) (consA (op1 negD (M.ret (.int 1000))) (consA (M.ret (.int 998)) (consA (M.ret (.int 12)) (consA (op1 negD (M.ret (.int 50))) (consA (M.ret (.int 33)) (consA (M.ret (.int 66)) (consA (op2 powD (M.ret (.int 10)) (M.ret (.int 30))) (M.ret [])))))))))))))))) (M.ret [])))))
  (retM (mkTup (consA (getV 2) (consA (callM F_l_choice (refV 0 (consV (mkLst (consA (M.ret (.int 1)) (consA (M.ret (.int 1)) (consA (M.ret (.int 2)) (consA (M.ret (.int 99)) (consA (M.ret (.int 98)) (consA (M.ret (.int 100)) (consA (M.ret (.int 0)) (consA (op1 negD (M.ret (.int 1))) (consA (M.ret (.int 7)) (consA (M.ret (.int 3)) (M.ret [])))))))))))) (M.ret [])))) (M.ret [])))))) nxM)
  (seqM (ifM (tstB (op2 ltD (getV 1) (M.ret (.int 6)))) (seqM (setM 2 (op2 subD (callM F_l_pick (refV 0 (consV (M.ret (.int 2003)) (M.ret [])))) (M.ret (.int 1001))))
  (retM (mkTup (consA (getV 2) (consA (op2 subD (callM F_l_pick (refV 0 (consV (M.ret (.int 103)) (M.ret [])))) (M.ret (.int 1))) (M.ret [])))))) nxM)
  (seqM (setM 3 (mkLst (consA (M.ret .non) (consA (M.ret (.bl true)) (consA (M.ret (.int 7)) (consA (M.ret (.str ("12" : Str))) (consA (M.ret (.str ("1/2" : Str))) (consA (mkTup (M.ret [])) (consA (mkTup (consA (M.ret (.int 1)) (M.ret []))) (consA (mkTup (consA (M.ret (.int 1)) (consA (M.ret (.int 2)) (consA (M.ret (.int 3)) (M.ret []))))) (consA (mkTup (consA (M.ret (.bl true)) (consA (M.ret (.int 1)) (M.ret [])))) (consA (mkTup (consA (M.ret (.int 1)) (consA (M.ret (.bl true)) (M.ret [])))) (consA (mkTup (consA (M.ret (.bl false)) (consA (M.ret (.int 1)) (M.ret [])))) (consA (mkTup (consA (M.ret (.str ("1" : Str))) (consA (M.ret (.int 2)) (M.ret [])))) (consA (mkTup (consA (M.ret (.int 1)) (consA (M.ret .non) (M.ret [])))) (consA (mkTup (consA (mkTup (consA (M.ret (.int 1)) (consA (M.ret (.int 2)) (M.ret [])))) (consA (M.ret (.int 3)) (M.ret [])))) (M.ret [])))))))))))))))))
  (retM (callM F_l_choice (refV 0 (consV (getV 3) (M.ret [])))))))))
theorem b_l_odd_ratio (T : Tx P K mg) {F_l_choice F_l_pick : FS} (G_l_choice : DFn P w K mg base T.cm 2 T.f_l_choice F_l_choice) (G_l_pick : DFn P w K mg base T.cm 1 T.f_l_pick F_l_pick) : DBody P w K mg base T.cm N_l_odd_ratio "_law_odd_ratio" s_l_odd_ratio T.f_l_odd_ratio 2 (m_l_odd_ratio F_l_choice F_l_pick) := by
  intro cdv A outer s H E hr tk
  have hu := DL.hu_of hr
  exact (dss_cons (ds_set sc_l_odd_ratio.nd rfl (by first | exact Or.inl rfl | exact Or.inr rfl) (de_call G_l_pick tk hr (by omega) T.u_l_pick.g T.u_l_pick.kp (dv_ref 0 (dv_cons de_int dv_nil))))
  (dss_cons (ds_if (dt_cmp (ox_lt hu) (de_var 1) de_int) (dss_cons (ds_set sc_l_odd_ratio.nd rfl (by first | exact Or.inl rfl | exact Or.inr rfl) (de_call G_l_choice tk hr (by omega) T.u_l_choice.g T.u_l_choice.kp (dv_ref 0 (dv_cons (de_lst (da_cons de_int (da_cons de_int (da_cons de_int (da_cons (de_un ux_neg de_int) (da_cons de_int (da_cons (de_un ux_neg de_int) (da_cons de_int (da_cons (de_un ux_neg de_int) (da_cons de_int (da_cons de_int (da_cons (de_un ux_neg de_int) (da_cons de_int (da_cons de_int (da_cons (de_op ox_pow de_int de_int) da_nil))))))))))))))) dv_nil))))
  (dss_one (ds_ret (de_tup (da_cons (de_var 2) (da_cons (de_call G_l_choice tk hr (by omega) T.u_l_choice.g T.u_l_choice.kp (dv_ref 0 (dv_cons (de_lst (da_cons de_int (da_cons de_int (da_cons de_int (da_cons de_int (da_cons de_int (da_cons de_int (da_cons de_int (da_cons (de_un ux_neg de_int) (da_cons de_int (da_cons de_int da_nil))))))))))) dv_nil))) da_nil)))))) dss_nil)
  (dss_cons (ds_if (dt_cmp (ox_lt hu) (de_var 1) de_int) (dss_cons (ds_set sc_l_odd_ratio.nd rfl (by first | exact Or.inl rfl | exact Or.inr rfl) (de_op ox_sub (de_call G_l_pick tk hr (by omega) T.u_l_pick.g T.u_l_pick.kp (dv_ref 0 (dv_cons de_int dv_nil))) de_int))
  (dss_one (ds_ret (de_tup (da_cons (de_var 2) (da_cons (de_op ox_sub (de_call G_l_pick tk hr (by omega) T.u_l_pick.g T.u_l_pick.kp (dv_ref 0 (dv_cons de_int dv_nil))) de_int) da_nil)))))) dss_nil)
  (dss_cons (ds_set sc_l_odd_ratio.nd rfl (by first | exact Or.inl rfl | exact Or.inr rfl) (de_lst (da_cons de_non (da_cons de_bl (da_cons de_int (da_cons de_str (da_cons de_str (da_cons (de_tup da_nil) (da_cons (de_tup (da_cons de_int da_nil)) (da_cons (de_tup (da_cons de_int (da_cons de_int (da_cons de_int da_nil)))) (da_cons (de_tup (da_cons de_bl (da_cons de_int da_nil))) (da_cons (de_tup (da_cons de_int (da_cons de_bl da_nil))) (da_cons (de_tup (da_cons de_bl (da_cons de_int da_nil))) (da_cons (de_tup (da_cons de_str (da_cons de_int da_nil))) (da_cons (de_tup (da_cons de_int (da_cons de_non da_nil))) (da_cons (de_tup (da_cons (de_tup (da_cons de_int (da_cons de_int da_nil))) (da_cons de_int da_nil))) da_nil))))))))))))))))
  (dss_one (ds_ret (de_call G_l_choice tk hr (by omega) T.u_l_choice.g T.u_l_choice.kp (dv_ref 0 (dv_cons (de_var 3) dv_nil)))))))))
abbrev N_l_integer : List Str := ["_law_thing"]
theorem sc_l_integer : FnScope N_l_integer ["_law_thing"] (defScope s_l_integer) := ⟨rfl, rfl, rfl, by decide +kernel, rfl, by decide +kernel, by decide +kernel⟩
def m_l_integer : M Fl := (retM (andV (isiM "int" (getV 0)) (notV (isiM "bool" (getV 0)))))
theorem b_l_integer (T : Tx P K mg) : DBody P w K mg base T.cm N_l_integer "_law_integer" s_l_integer T.f_l_integer 0 (m_l_integer) := by
  intro cdv A outer s H E hr tk
  have hu := DL.hu_of hr
  exact (dss_one (ds_ret (de_and (de_isi T.n_isinstance T.n_int rfl (de_var 0)) (de_one (de_not (de_isi T.n_isinstance T.n_bool rfl (de_var 0)))))))
abbrev N_l_plain : List Str := ["_law_thing", "_law_one"]
theorem sc_l_plain : FnScope N_l_plain ["_law_thing"] (defScope s_l_plain) := ⟨rfl, rfl, rfl, by decide +kernel, rfl, by decide +kernel, by decide +kernel⟩
def m_l_plain (F_l_integer : FS) (F_l_plain : FS) : M Fl := (seqM (ifM (tstB (isiM "tuple" (getV 0))) (seqM (forM (itSeq (getV 0)) (gSet 1) (ifM (notB (tstB (callM F_l_plain (consV (getV 1) (M.ret []))))) (retM (M.ret (.bl false))) nxM))
  (retM (M.ret (.bl true)))) nxM)
  (retM (orV (op2 isD (getV 0) (M.ret .non)) (orV (isiM "str" (getV 0)) (callM F_l_integer (consV (getV 0) (M.ret [])))))))
theorem b_l_plain (T : Tx P K mg) {F_l_integer F_l_plain : FS} {k : Nat} (hk : 1 ≤ k) (G_l_integer : DFn P w K mg base T.cm 1 T.f_l_integer F_l_integer) (G_l_plain : DFn P w K mg base T.cm k T.f_l_plain F_l_plain) : DBody P w K mg base T.cm N_l_plain "_law_plain" s_l_plain T.f_l_plain k (m_l_plain F_l_integer F_l_plain) := by
  intro cdv A outer s H E hr tk
  have hu := DL.hu_of hr
  exact (dss_cons (ds_if (dt_val (de_isi T.n_isinstance T.n_tuple rfl (de_var 0))) (dss_cons (ds_for hp_of rfl (di_seq (de_var 0)) (dg_name sc_l_plain.nd rfl (by first | exact Or.inl rfl | exact Or.inr rfl)) (dss_one (ds_if (dt_not (dt_val (de_call G_l_plain tk hr (by omega) T.u_l_plain.g T.u_l_plain.kp (dv_cons (de_var 1) dv_nil)))) (dss_one (ds_ret de_bl)) dss_nil)))
  (dss_one (ds_ret de_bl))) dss_nil)
  (dss_one (ds_ret (de_or (de_cmp ox_is (de_var 0) de_non) (de_or (de_isi T.n_isinstance T.n_str rfl (de_var 0)) (de_one (de_call G_l_integer tk hr (by omega) T.u_l_integer.g T.u_l_integer.kp (dv_cons (de_var 0) dv_nil))))))))
abbrev N_l_truth : List Str := ["_law_found", "_law_due"]
theorem sc_l_truth : FnScope N_l_truth ["_law_found", "_law_due"] (defScope s_l_truth) := ⟨rfl, rfl, rfl, by decide +kernel, rfl, by decide +kernel, by decide +kernel⟩
def m_l_truth : M Fl := (retM (andV (isiM "bool" (getV 0)) (op2 eqD (getV 0) (getV 1))))
theorem b_l_truth (T : Tx P K mg) : DBody P w K mg base T.cm N_l_truth "_law_truth" s_l_truth T.f_l_truth 0 (m_l_truth) := by
  intro cdv A outer s H E hr tk
  have hu := DL.hu_of hr
  exact (dss_one (ds_ret (de_and (de_isi T.n_isinstance T.n_bool rfl (de_var 0)) (de_one (de_cmp (ox_eq hu) (de_var 0) (de_var 1))))))
abbrev N_is_name : List Str := ["thing", "one"]
theorem sc_is_name : FnScope N_is_name ["thing"] (defScope s_is_name) := ⟨rfl, rfl, rfl, by decide +kernel, rfl, by decide +kernel, by decide +kernel⟩
def m_is_name : M Fl := (seqM (ifM (orB (notB (tstB (isiM "str" (getV 0)))) (orB (notB (tstB (chainM leD leD (M.ret (.int 1)) (bltM lenD (consA (getV 0) (M.ret []))) (M.ret (.int 8))))) (tstB (op2 inD (getV 0) (M.ret (.tup (wordsL.map .str))))))) (retM (M.ret (.bl false))) nxM)
  (retM (bltM allD (consA (datM (compM [1] (itStr (getV 0)) (gSet 1) (M.ret true) (op2 inD (getV 1) (M.ret (.str letters))))) (M.ret [])))))
theorem b_is_name (T : Tx P K mg) : DBody P w K mg base T.cm N_is_name "is_name" s_is_name T.f_is_name 0 (m_is_name) := by
  intro cdv A outer s H E hr tk
  have hu := DL.hu_of hr
  exact (dss_cons (ds_if (dt_bool (dt_or (dt_not (dt_val (de_isi T.n_isinstance T.n_str rfl (de_var 0)))) (dt_or (dt_not (dt_chain ox_le ox_le de_int (de_callB cx_len T.n_len rfl (da_cons (de_var 0) da_nil)) de_int)) (dt_or1 (dt_cmp (ox_in hu) (de_var 0) (de_glob (v := .ref T.a_WORDS) T.c_WORDS rfl fun H => .tup (T.d_WORDS H) (dt_strs _))))))) (dss_one (ds_ret de_bl)) dss_nil)
  (dss_one (ds_ret (de_callB (cx_all rfl) T.n_all rfl (da_cons (de_fresh (df_lc (own := [("one", 1)]) rfl sc_is_name.nd (di_str (de_var 0)) (blkOk_by (by kernel_rfl)) (by decide) (fun _ _ _ _ _ => (dg_name sc_is_name.nd rfl (by first | exact Or.inl rfl | exact Or.inr rfl))) (fun _ _ _ _ _ => dts_yes) (fun _ _ _ _ _ => (de_cmp (ox_in hu) (de_var 1) (de_glob (v := .str letters) T.c_LETTERS ⟨_, rfl⟩ fun _ => .str _))))) da_nil)))))
abbrev N_l_name_fits : List Str := ["_law_thing", "_law_sign"]
theorem sc_l_name_fits : FnScope N_l_name_fits ["_law_thing"] (defScope s_l_name_fits) := ⟨rfl, rfl, rfl, by decide +kernel, rfl, by decide +kernel, by decide +kernel⟩
def m_l_name_fits (F_l_reserved : FS) : M Fl := (seqM (ifM (orB (notB (tstB (isiM "str" (getV 0)))) (tstB (op2 inD (getV 0) (callM F_l_reserved (M.ret []))))) (retM (M.ret (.bl false))) nxM)
  (seqM (ifM (orB (tstB (op2 ltD (bltM lenD (consA (getV 0) (M.ret []))) (M.ret (.int 1)))) (tstB (op2 gtD (bltM lenD (consA (getV 0) (M.ret []))) (M.ret (.int 8))))) (retM (M.ret (.bl false))) nxM)
  (retM (op2 eqD (datM (compM [1] (itStr (getV 0)) (gSet 1) (tstB (op2 notInD (getV 1) (M.ret (.str ("abcdefghijklmnopqrstuvwxyz" : Str))))) (getV 1))) (mkLst (M.ret []))))))
theorem b_l_name_fits (T : Tx P K mg) {F_l_reserved : FS} (G_l_reserved : DFn P w K mg base T.cm 1 T.f_l_reserved F_l_reserved) : DBody P w K mg base T.cm N_l_name_fits "_law_name_fits" s_l_name_fits T.f_l_name_fits 1 (m_l_name_fits F_l_reserved) := by
  intro cdv A outer s H E hr tk
  have hu := DL.hu_of hr
  exact (dss_cons (ds_if (dt_bool (dt_or (dt_not (dt_val (de_isi T.n_isinstance T.n_str rfl (de_var 0)))) (dt_or1 (dt_cmp (ox_in hu) (de_var 0) (de_call0 G_l_reserved tk hr (by omega) T.u_l_reserved.g T.u_l_reserved.kp))))) (dss_one (ds_ret de_bl)) dss_nil)
  (dss_cons (ds_if (dt_bool (dt_or (dt_cmp (ox_lt hu) (de_callB cx_len T.n_len rfl (da_cons (de_var 0) da_nil)) de_int) (dt_or1 (dt_cmp ox_gt (de_callB cx_len T.n_len rfl (da_cons (de_var 0) da_nil)) de_int)))) (dss_one (ds_ret de_bl)) dss_nil)
  (dss_one (ds_ret (de_cmp (ox_eq hu) (de_fresh (df_lc (own := [("_law_sign", 1)]) rfl sc_l_name_fits.nd (di_str (de_var 0)) (blkOk_by (by kernel_rfl)) (by decide) (fun _ _ _ _ _ => (dg_name sc_l_name_fits.nd rfl (by first | exact Or.inl rfl | exact Or.inr rfl))) (fun _ _ _ _ _ => (dts_one (dt_cmp (ox_notIn hu) (de_var 1) de_str))) (fun _ _ _ _ _ => (de_var 1)))) (de_lst da_nil))))))
abbrev N_deep : List Str := ["thing", "one"]
theorem sc_deep : FnScope N_deep ["thing"] (defScope s_deep) := ⟨rfl, rfl, rfl, by decide +kernel, rfl, by decide +kernel, by decide +kernel⟩
def m_deep (F_deep : FS) : M Fl := (seqM (ifM (tstB (isi2M "tuple" "list" (getV 0))) (retM (bltM tupD (consA (datM (compM [1] (itSeq (getV 0)) (gSet 1) (M.ret true) (callM F_deep (consV (getV 1) (M.ret []))))) (M.ret [])))) nxM)
  (retM (getV 0)))
theorem b_deep (T : Tx P K mg) {F_deep : FS} {k : Nat} (hk : 0 ≤ k) (G_deep : DFn P w K mg base T.cm k T.f_deep F_deep) : DBody P w K mg base T.cm N_deep "deep" s_deep T.f_deep k (m_deep F_deep) := by
  intro cdv A outer s H E hr tk
  have hu := DL.hu_of hr
  exact (dss_cons (ds_if (dt_val (de_isi2 T.n_isinstance T.n_tuple rfl T.n_list rfl (de_var 0))) (dss_one (ds_ret (de_callTy cx_tuple T.n_tuple rfl (da_cons (de_fresh (df_lc (own := [("one", 1)]) rfl sc_deep.nd (di_seq (de_var 0)) (blkOk_by (by kernel_rfl)) (by decide) (fun _ _ _ _ _ => (dg_name sc_deep.nd rfl (by first | exact Or.inl rfl | exact Or.inr rfl))) (fun _ _ _ _ _ => dts_yes) (fun _ _ _ _ _ => (de_call G_deep takes_none5 hr (by omega) T.u_deep.g T.u_deep.kp (dv_cons (de_var 1) dv_nil))))) da_nil)))) dss_nil)
  (dss_one (ds_ret (de_var 0))))
abbrev N_common : List Str := ["first", "second"]
theorem sc_common : FnScope N_common ["first", "second"] (defScope s_common) := ⟨rfl, rfl, rfl, by decide +kernel, rfl, by decide +kernel, by decide +kernel⟩
def m_common : M Fl := (seqM (whileM bnd1 (tstB (op2 gtD (getV 1) (M.ret (.int 0)))) (parM 0 1 (consA (getV 1) (consA (op2 modD (getV 0) (getV 1)) (M.ret [])))))
  (retM (getV 0)))
theorem b_common (T : Tx P K mg) : DBody P w K mg base T.cm N_common "common" s_common T.f_common 0 (m_common) := by
  intro cdv A outer s H E hr tk
  have hu := DL.hu_of hr
  exact (dss_cons (ds_while bnd1 hp_of (dt_cmp ox_gt (de_var 1) de_int) (dss_one (ds_par rfl sc_common.nd rfl rfl (by decide) rfl rfl (da_cons (de_var 1) (da_cons (de_op ox_mod (de_var 0) (de_var 1)) da_nil)) rfl)))
  (dss_one (ds_ret (de_var 0))))
abbrev N_is_integer : List Str := ["thing", "low", "high"]
theorem sc_is_integer : FnScope N_is_integer ["thing", "low", "high"] (defScope s_is_integer) := ⟨rfl, rfl, rfl, by decide +kernel, rfl, by decide +kernel, by decide +kernel⟩
def m_is_integer : M Fl := (retM (andV (isiM "int" (getV 0)) (andV (notV (isiM "bool" (getV 0))) (chainM leD leD (getV 1) (getV 0) (getV 2)))))
theorem b_is_integer (T : Tx P K mg) : DBody P w K mg base T.cm N_is_integer "is_integer" s_is_integer T.f_is_integer 0 (m_is_integer) := by
  intro cdv A outer s H E hr tk
  have hu := DL.hu_of hr
  exact (dss_one (ds_ret (de_and (de_isi T.n_isinstance T.n_int rfl (de_var 0)) (de_and (de_not (de_isi T.n_isinstance T.n_bool rfl (de_var 0))) (de_one (de_chain ox_le ox_le (de_var 1) (de_var 0) (de_var 2)))))))
abbrev N_rate_of : List Str := ["thing", "told"]
theorem sc_rate_of : FnScope N_rate_of ["thing"] (defScope s_rate_of) := ⟨rfl, rfl, rfl, by decide +kernel, rfl, by decide +kernel, by decide +kernel⟩
def m_rate_of (F_common : FS) (F_deep : FS) (F_is_integer : FS) : M Fl := (seqM (setM 1 (callM F_deep (consV (getV 0) (M.ret []))))
  (seqM (ifM (orB (notB (tstB (isiM "tuple" (getV 1)))) (tstB (op2 neD (bltM lenD (consA (getV 1) (M.ret []))) (M.ret (.int 2))))) (retM (M.ret .non)) nxM)
  (seqM (ifM (orB (notB (tstB (callM F_is_integer (consV (op2 ixD (getV 1) (M.ret (.int 0))) (consV (op1 negD (M.ret (.int 999))) (consV (M.ret (.int 999)) (M.ret []))))))) (notB (tstB (callM F_is_integer (consV (op2 ixD (getV 1) (M.ret (.int 1))) (consV (M.ret (.int 1)) (consV (M.ret (.int 99)) (M.ret [])))))))) (retM (M.ret .non)) nxM)
  (seqM (ifM (tstB (op2 neD (callM F_common (consV (bltM absD (consA (op2 ixD (getV 1) (M.ret (.int 0))) (M.ret []))) (consV (op2 ixD (getV 1) (M.ret (.int 1))) (M.ret [])))) (M.ret (.int 1)))) (retM (M.ret .non)) nxM)
  (retM (getV 1))))))
theorem b_rate_of (T : Tx P K mg) {F_common F_deep F_is_integer : FS} (G_common : DFn P w K mg base T.cm 1 T.f_common F_common) (G_deep : DFn P w K mg base T.cm 6 T.f_deep F_deep) (G_is_integer : DFn P w K mg base T.cm 1 T.f_is_integer F_is_integer) : DBody P w K mg base T.cm N_rate_of "rate_of" s_rate_of T.f_rate_of 6 (m_rate_of F_common F_deep F_is_integer) := by
  intro cdv A outer s H E hr tk
  have hu := DL.hu_of hr
  exact (dss_cons (ds_set sc_rate_of.nd rfl (by first | exact Or.inl rfl | exact Or.inr rfl) (de_call G_deep tk hr (by omega) T.u_deep.g T.u_deep.kp (dv_cons (de_var 0) dv_nil)))
  (dss_cons (ds_if (dt_bool (dt_or (dt_not (dt_val (de_isi T.n_isinstance T.n_tuple rfl (de_var 1)))) (dt_or1 (dt_cmp (ox_ne hu) (de_callB cx_len T.n_len rfl (da_cons (de_var 1) da_nil)) de_int)))) (dss_one (ds_ret de_non)) dss_nil)
  (dss_cons (ds_if (dt_bool (dt_or (dt_not (dt_val (de_call G_is_integer tk hr (by omega) T.u_is_integer.g T.u_is_integer.kp (dv_cons (de_ix (de_var 1) de_int) (dv_cons (de_un ux_neg de_int) (dv_cons de_int dv_nil)))))) (dt_or1 (dt_not (dt_val (de_call G_is_integer tk hr (by omega) T.u_is_integer.g T.u_is_integer.kp (dv_cons (de_ix (de_var 1) de_int) (dv_cons de_int (dv_cons de_int dv_nil))))))))) (dss_one (ds_ret de_non)) dss_nil)
  (dss_cons (ds_if (dt_cmp (ox_ne hu) (de_call G_common tk hr (by omega) T.u_common.g T.u_common.kp (dv_cons (de_callB cx_abs T.n_abs rfl (da_cons (de_ix (de_var 1) de_int) da_nil)) (dv_cons (de_ix (de_var 1) de_int) dv_nil))) de_int) (dss_one (ds_ret de_non)) dss_nil)
  (dss_one (ds_ret (de_var 1)))))))
abbrev N_is_ratio : List Str := ["thing"]
theorem sc_is_ratio : FnScope N_is_ratio ["thing"] (defScope s_is_ratio) := ⟨rfl, rfl, rfl, by decide +kernel, rfl, by decide +kernel, by decide +kernel⟩
def m_is_ratio (F_rate_of : FS) : M Fl := (retM (op2 isntD (callM F_rate_of (consV (getV 0) (M.ret []))) (M.ret .non)))
theorem b_is_ratio (T : Tx P K mg) {F_rate_of : FS} (G_rate_of : DFn P w K mg base T.cm 7 T.f_rate_of F_rate_of) : DBody P w K mg base T.cm N_is_ratio "is_ratio" s_is_ratio T.f_is_ratio 7 (m_is_ratio F_rate_of) := by
  intro cdv A outer s H E hr tk
  have hu := DL.hu_of hr
  exact (dss_one (ds_ret (de_cmp ox_isnt (de_call G_rate_of tk hr (by omega) T.u_rate_of.g T.u_rate_of.kp (dv_cons (de_var 0) dv_nil)) de_non)))
abbrev N_l_ratio_fits : List Str := ["_law_thing"]
theorem sc_l_ratio_fits : FnScope N_l_ratio_fits ["_law_thing"] (defScope s_l_ratio_fits) := ⟨rfl, rfl, rfl, by decide +kernel, rfl, by decide +kernel, by decide +kernel⟩
def m_l_ratio_fits (F_l_common : FS) (F_l_integer : FS) : M Fl := (seqM (ifM (orB (notB (tstB (isiM "tuple" (getV 0)))) (tstB (op2 neD (bltM lenD (consA (getV 0) (M.ret []))) (M.ret (.int 2))))) (retM (M.ret (.bl false))) nxM)
  (seqM (ifM (orB (notB (tstB (callM F_l_integer (consV (op2 ixD (getV 0) (M.ret (.int 0))) (M.ret []))))) (notB (tstB (callM F_l_integer (consV (op2 ixD (getV 0) (M.ret (.int 1))) (M.ret [])))))) (retM (M.ret (.bl false))) nxM)
  (seqM (ifM (orB (tstB (op2 ltD (op2 ixD (getV 0) (M.ret (.int 0))) (op1 negD (M.ret (.int 999))))) (orB (tstB (op2 gtD (op2 ixD (getV 0) (M.ret (.int 0))) (M.ret (.int 999)))) (orB (tstB (op2 ltD (op2 ixD (getV 0) (M.ret (.int 1))) (M.ret (.int 1)))) (tstB (op2 gtD (op2 ixD (getV 0) (M.ret (.int 1))) (M.ret (.int 99))))))) (retM (M.ret (.bl false))) nxM)
  (retM (op2 eqD (callM F_l_common (consV (bltM absD (consA (op2 ixD (getV 0) (M.ret (.int 0))) (M.ret []))) (consV (op2 ixD (getV 0) (M.ret (.int 1))) (M.ret [])))) (M.ret (.int 1)))))))
theorem b_l_ratio_fits (T : Tx P K mg) {F_l_common F_l_integer : FS} (G_l_common : DFn P w K mg base T.cm 1 T.f_l_common F_l_common) (G_l_integer : DFn P w K mg base T.cm 1 T.f_l_integer F_l_integer) : DBody P w K mg base T.cm N_l_ratio_fits "_law_ratio_fits" s_l_ratio_fits T.f_l_ratio_fits 1 (m_l_ratio_fits F_l_common F_l_integer) := by
  intro cdv A outer s H E hr tk
  have hu := DL.hu_of hr
  exact (dss_cons (ds_if (dt_bool (dt_or (dt_not (dt_val (de_isi T.n_isinstance T.n_tuple rfl (de_var 0)))) (dt_or1 (dt_cmp (ox_ne hu) (de_callB cx_len T.n_len rfl (da_cons (de_var 0) da_nil)) de_int)))) (dss_one (ds_ret de_bl)) dss_nil)
  (dss_cons (ds_if (dt_bool (dt_or (dt_not (dt_val (de_call G_l_integer tk hr (by omega) T.u_l_integer.g T.u_l_integer.kp (dv_cons (de_ix (de_var 0) de_int) dv_nil)))) (dt_or1 (dt_not (dt_val (de_call G_l_integer tk hr (by omega) T.u_l_integer.g T.u_l_integer.kp (dv_cons (de_ix (de_var 0) de_int) dv_nil))))))) (dss_one (ds_ret de_bl)) dss_nil)
  (dss_cons (ds_if (dt_bool (dt_or (dt_cmp (ox_lt hu) (de_ix (de_var 0) de_int) (de_un ux_neg de_int)) (dt_or (dt_cmp ox_gt (de_ix (de_var 0) de_int) de_int) (dt_or (dt_cmp (ox_lt hu) (de_ix (de_var 0) de_int) de_int) (dt_or1 (dt_cmp ox_gt (de_ix (de_var 0) de_int) de_int)))))) (dss_one (ds_ret de_bl)) dss_nil)
  (dss_one (ds_ret (de_cmp (ox_eq hu) (de_call G_l_common tk hr (by omega) T.u_l_common.g T.u_l_common.kp (dv_cons (de_callB cx_abs T.n_abs rfl (da_cons (de_ix (de_var 0) de_int) da_nil)) (dv_cons (de_ix (de_var 0) de_int) dv_nil))) de_int))))))
abbrev N_l_lists : List Str := ["_law_thing", "_law_one"]
theorem sc_l_lists : FnScope N_l_lists ["_law_thing"] (defScope s_l_lists) := ⟨rfl, rfl, rfl, by decide +kernel, rfl, by decide +kernel, by decide +kernel⟩
def m_l_lists (F_l_lists : FS) : M Fl := (seqM (ifM (orB (tstB (isiM "tuple" (getV 0))) (tstB (isiM "list" (getV 0)))) (retM (datM (compM [1] (itSeq (getV 0)) (gSet 1) (M.ret true) (callM F_l_lists (consV (getV 1) (M.ret [])))))) nxM)
  (retM (getV 0)))
theorem b_l_lists (T : Tx P K mg) {F_l_lists : FS} {k : Nat} (hk : 0 ≤ k) (G_l_lists : DFn P w K mg base T.cm k T.f_l_lists F_l_lists) : DBody P w K mg base T.cm N_l_lists "_law_lists" s_l_lists T.f_l_lists k (m_l_lists F_l_lists) := by
  intro cdv A outer s H E hr tk
  have hu := DL.hu_of hr
  exact (dss_cons (ds_if (dt_bool (dt_or (dt_val (de_isi T.n_isinstance T.n_tuple rfl (de_var 0))) (dt_or1 (dt_val (de_isi T.n_isinstance T.n_list rfl (de_var 0)))))) (dss_one (ds_ret (de_fresh (df_lc (own := [("_law_one", 1)]) rfl sc_l_lists.nd (di_seq (de_var 0)) (blkOk_by (by kernel_rfl)) (by decide) (fun _ _ _ _ _ => (dg_name sc_l_lists.nd rfl (by first | exact Or.inl rfl | exact Or.inr rfl))) (fun _ _ _ _ _ => dts_yes) (fun _ _ _ _ _ => (de_call G_l_lists takes_none5 hr (by omega) T.u_l_lists.g T.u_l_lists.kp (dv_cons (de_var 1) dv_nil))))))) dss_nil)
  (dss_one (ds_ret (de_var 0))))
abbrev N_l_names_right : List Str := ["_law_bag", "_law_k", "_law_thing", "_law_word"]
theorem sc_l_names_right : FnScope N_l_names_right ["_law_bag"] (defScope s_l_names_right) := ⟨rfl, rfl, rfl, by decide +kernel, rfl, by decide +kernel, by decide +kernel⟩
def m_l_names_right (F_l_lists : FS) (F_l_name_fits : FS) (F_l_odd_ratio : FS) (F_l_plain : FS) (F_l_ratio_fits : FS) (F_l_reserved : FS) (F_l_truth : FS) (F_l_word_of : FS) (F_is_name : FS) (F_is_ratio : FS) : M Fl := (seqM (forM (itRange1 (consA (M.ret (.int 4)) (M.ret []))) (gSet 1) (seqM (setM 2 (callM F_l_word_of (refV 0 (M.ret []))))
  (seqM (ifM (notB (tstB (callM F_l_truth (consV (callM F_is_name (consV (getV 2) (M.ret []))) (consV (callM F_l_name_fits (consV (getV 2) (M.ret []))) (M.ret [])))))) (retM (M.ret (.bl false))) nxM)
  (seqM (setM 2 (callM F_l_odd_ratio (refV 0 (M.ret []))))
  (seqM (ifM (notB (tstB (callM F_l_truth (consV (callM F_is_ratio (consV (getV 2) (M.ret []))) (consV (callM F_l_ratio_fits (consV (getV 2) (M.ret []))) (M.ret [])))))) (retM (M.ret (.bl false))) nxM)
  (ifM (notB (tstB (callM F_l_truth (consV (callM F_is_ratio (consV (callM F_l_lists (consV (getV 2) (M.ret []))) (M.ret []))) (consV (callM F_l_ratio_fits (consV (getV 2) (M.ret []))) (M.ret [])))))) (retM (M.ret (.bl false))) nxM))))))
  (seqM (forM (itSeq (callM F_l_reserved (M.ret []))) (gSet 3) (ifM (tstB (op2 isntD (callM F_is_name (consV (getV 3) (M.ret []))) (M.ret (.bl false)))) (retM (M.ret (.bl false))) nxM))
  (retM (andV (isiM "tuple" (M.ret (.tup (wordsL.map .str)))) (andV (callM F_l_plain (consV (M.ret (.tup (wordsL.map .str))) (M.ret []))) (op2 eqD (datM (listM (M.ret (.tup (wordsL.map .str))))) (callM F_l_reserved (M.ret []))))))))
theorem b_l_names_right (T : Tx P K mg) {F_l_lists F_l_name_fits F_l_odd_ratio F_l_plain F_l_ratio_fits F_l_reserved F_l_truth F_l_word_of F_is_name F_is_ratio : FS} (G_l_lists : DFn P w K mg base T.cm 6 T.f_l_lists F_l_lists) (G_l_name_fits : DFn P w K mg base T.cm 2 T.f_l_name_fits F_l_name_fits) (G_l_odd_ratio : DFn P w K mg base T.cm 3 T.f_l_odd_ratio F_l_odd_ratio) (G_l_plain : DFn P w K mg base T.cm 7 T.f_l_plain F_l_plain) (G_l_ratio_fits : DFn P w K mg base T.cm 2 T.f_l_ratio_fits F_l_ratio_fits) (G_l_reserved : DFn P w K mg base T.cm 1 T.f_l_reserved F_l_reserved) (G_l_truth : DFn P w K mg base T.cm 1 T.f_l_truth F_l_truth) (G_l_word_of : DFn P w K mg base T.cm 3 T.f_l_word_of F_l_word_of) (G_is_name : DFn P w K mg base T.cm 1 T.f_is_name F_is_name) (G_is_ratio : DFn P w K mg base T.cm 8 T.f_is_ratio F_is_ratio) : DBody P w K mg base T.cm N_l_names_right "_law_names_right" s_l_names_right T.f_l_names_right 8 (m_l_names_right F_l_lists F_l_name_fits F_l_odd_ratio F_l_plain F_l_ratio_fits F_l_reserved F_l_truth F_l_word_of F_is_name F_is_ratio) := by
  intro cdv A outer s H E hr tk
  have hu := DL.hu_of hr
  exact (dss_cons (ds_for hp_of rfl (di_range1 rfl T.n_range (da_cons de_int da_nil)) (dg_name sc_l_names_right.nd rfl (by first | exact Or.inl rfl | exact Or.inr rfl)) (dss_cons (ds_set sc_l_names_right.nd rfl (by first | exact Or.inl rfl | exact Or.inr rfl) (de_call G_l_word_of tk hr (by omega) T.u_l_word_of.g T.u_l_word_of.kp (dv_ref 0 dv_nil)))
  (dss_cons (ds_if (dt_not (dt_val (de_call G_l_truth tk hr (by omega) T.u_l_truth.g T.u_l_truth.kp (dv_cons (de_call G_is_name tk hr (by omega) T.u_is_name.g T.u_is_name.kp (dv_cons (de_var 2) dv_nil)) (dv_cons (de_call G_l_name_fits tk hr (by omega) T.u_l_name_fits.g T.u_l_name_fits.kp (dv_cons (de_var 2) dv_nil)) dv_nil))))) (dss_one (ds_ret de_bl)) dss_nil)
  (dss_cons (ds_set sc_l_names_right.nd rfl (by first | exact Or.inl rfl | exact Or.inr rfl) (de_call G_l_odd_ratio tk hr (by omega) T.u_l_odd_ratio.g T.u_l_odd_ratio.kp (dv_ref 0 dv_nil)))
  (dss_cons (ds_if (dt_not (dt_val (de_call G_l_truth tk hr (by omega) T.u_l_truth.g T.u_l_truth.kp (dv_cons (de_call G_is_ratio tk hr (by omega) T.u_is_ratio.g T.u_is_ratio.kp (dv_cons (de_var 2) dv_nil)) (dv_cons (de_call G_l_ratio_fits tk hr (by omega) T.u_l_ratio_fits.g T.u_l_ratio_fits.kp (dv_cons (de_var 2) dv_nil)) dv_nil))))) (dss_one (ds_ret de_bl)) dss_nil)
  (dss_one (ds_if (dt_not (dt_val (de_call G_l_truth tk hr (by omega) T.u_l_truth.g T.u_l_truth.kp (dv_cons (de_call G_is_ratio tk hr (by omega) T.u_is_ratio.g T.u_is_ratio.kp (dv_cons (de_call G_l_lists tk hr (by omega) T.u_l_lists.g T.u_l_lists.kp (dv_cons (de_var 2) dv_nil)) dv_nil)) (dv_cons (de_call G_l_ratio_fits tk hr (by omega) T.u_l_ratio_fits.g T.u_l_ratio_fits.kp (dv_cons (de_var 2) dv_nil)) dv_nil))))) (dss_one (ds_ret de_bl)) dss_nil)))))))
  (dss_cons (ds_for hp_of rfl (di_seq (de_call0 G_l_reserved tk hr (by omega) T.u_l_reserved.g T.u_l_reserved.kp)) (dg_name sc_l_names_right.nd rfl (by first | exact Or.inl rfl | exact Or.inr rfl)) (dss_one (ds_if (dt_cmp ox_isnt (de_call G_is_name tk hr (by omega) T.u_is_name.g T.u_is_name.kp (dv_cons (de_var 3) dv_nil)) de_bl) (dss_one (ds_ret de_bl)) dss_nil)))
  (dss_one (ds_ret (de_and (de_isi T.n_isinstance T.n_tuple rfl (de_glob (v := .ref T.a_WORDS) T.c_WORDS rfl fun H => .tup (T.d_WORDS H) (dt_strs _))) (de_and (de_call G_l_plain tk hr (by omega) T.u_l_plain.g T.u_l_plain.kp (dv_cons (de_glob (v := .ref T.a_WORDS) T.c_WORDS rfl fun H => .tup (T.d_WORDS H) (dt_strs _)) dv_nil)) (de_one (de_cmp (ox_eq hu) (de_fresh (df_list T.n_list (de_glob (v := .ref T.a_WORDS) T.c_WORDS rfl fun H => .tup (T.d_WORDS H) (dt_strs _)))) (de_call0 G_l_reserved tk hr (by omega) T.u_l_reserved.g T.u_l_reserved.kp)))))))))
abbrev N_l_one_in : List Str := ["_law_bag", "_law_many"]
theorem sc_l_one_in : FnScope N_l_one_in ["_law_bag", "_law_many"] (defScope s_l_one_in) := ⟨rfl, rfl, rfl, by decide +kernel, rfl, by decide +kernel, by decide +kernel⟩
def m_l_one_in (F_l_pick : FS) : M Fl := (retM (op2 eqD (callM F_l_pick (refV 0 (consV (getV 1) (M.ret [])))) (M.ret (.int 0))))
theorem b_l_one_in (T : Tx P K mg) {F_l_pick : FS} (G_l_pick : DFn P w K mg base T.cm 1 T.f_l_pick F_l_pick) : DBody P w K mg base T.cm N_l_one_in "_law_one_in" s_l_one_in T.f_l_one_in 1 (m_l_one_in F_l_pick) := by
  intro cdv A outer s H E hr tk
  have hu := DL.hu_of hr
  exact (dss_one (ds_ret (de_cmp (ox_eq hu) (de_call G_l_pick tk hr (by omega) T.u_l_pick.g T.u_l_pick.kp (dv_ref 0 (dv_cons (de_var 1) dv_nil))) de_int)))
abbrev N_ratio : List Str := ["top", "bottom", "shared"]
theorem sc_ratio : FnScope N_ratio ["top", "bottom"] (defScope s_ratio) := ⟨rfl, rfl, rfl, by decide +kernel, rfl, by decide +kernel, by decide +kernel⟩
def m_ratio (F_common : FS) (F_ratio : FS) : M Fl := (seqM (ifM (tstB (op2 eqD (getV 1) (M.ret (.int 0)))) (raiseM 4 ["top", "bottom"] (consA (getV 0) (consA (getV 1) (M.ret [])))) nxM)
  (seqM (ifM (tstB (op2 ltD (getV 1) (M.ret (.int 0)))) (retM (callM F_ratio (consV (op1 negD (getV 0)) (consV (op1 negD (getV 1)) (M.ret []))))) nxM)
  (seqM (setM 2 (callM F_common (consV (bltM absD (consA (getV 0) (M.ret []))) (consV (getV 1) (M.ret [])))))
  (retM (mkTup (consA (op2 fdivD (getV 0) (getV 2)) (consA (op2 fdivD (getV 1) (getV 2)) (M.ret []))))))))
theorem b_ratio (T : Tx P K mg) {F_common F_ratio : FS} {k : Nat} (hk : 1 ≤ k) (G_common : DFn P w K mg base T.cm 1 T.f_common F_common) (G_ratio : DFn P w K mg base T.cm k T.f_ratio F_ratio) : DBody P w K mg base T.cm N_ratio "ratio" s_ratio T.f_ratio k (m_ratio F_common F_ratio) := by
  intro cdv A outer s H E hr tk
  have hu := DL.hu_of hr
  exact (dss_cons (ds_if (dt_cmp (ox_eq hu) (de_var 1) de_int) (dss_one (ds_raise (c := 4) rfl T.ex_BadRatio hr tk (da_cons (de_var 0) (da_cons (de_var 1) da_nil)) (by decide))) dss_nil)
  (dss_cons (ds_if (dt_cmp (ox_lt hu) (de_var 1) de_int) (dss_one (ds_ret (de_call G_ratio tk hr (by omega) T.u_ratio.g T.u_ratio.kp (dv_cons (de_un ux_neg (de_var 0)) (dv_cons (de_un ux_neg (de_var 1)) dv_nil))))) dss_nil)
  (dss_cons (ds_set sc_ratio.nd rfl (by first | exact Or.inl rfl | exact Or.inr rfl) (de_call G_common tk hr (by omega) T.u_common.g T.u_common.kp (dv_cons (de_callB cx_abs T.n_abs rfl (da_cons (de_var 0) da_nil)) (dv_cons (de_var 1) dv_nil))))
  (dss_one (ds_ret (de_tup (da_cons (de_op ox_fdiv (de_var 0) (de_var 2)) (da_cons (de_op ox_fdiv (de_var 1) (de_var 2)) da_nil))))))))
abbrev N_l_made : List Str := ["_law_top", "_law_low", "_law_found", "error", "_law_base"]
theorem sc_l_made : FnScope N_l_made ["_law_top", "_law_low"] (defScope s_l_made) := ⟨rfl, rfl, rfl, by decide +kernel, rfl, by decide +kernel, by decide +kernel⟩
def m_l_made (F_ratio : FS) : M Fl := (seqM (tryM (setM 2 (callM F_ratio (consV (getV 0) (consV (getV 1) (M.ret []))))) (⟨t_BadRatio, some 3, (seqM (setM 4 (andV (isEM 3 4 true) (isEM 3 4 true)))
  (retM (mkTup (consA (M.ret (.str ("refused" : Str))) (consA (xfM 3 4 "top") (consA (xfM 3 4 "bottom") (consA (andV (getV 4) (notV (isEM 3 4 false))) (M.ret []))))))))⟩ :: (⟨t_StrawError, none, (retM (mkTup (consA (M.ret (.str ("another" : Str))) (consA (M.ret (.int 0)) (consA (M.ret (.int 0)) (consA (M.ret (.bl false)) (M.ret [])))))))⟩ :: [])))
  (retM (mkTup (consA (M.ret (.str ("made" : Str))) (consA (getV 2) (consA (M.ret (.int 0)) (consA (M.ret (.bl true)) (M.ret []))))))))
theorem b_l_made (T : Tx P K mg) {F_ratio : FS} (G_ratio : DFn P w K mg base T.cm 4 T.f_ratio F_ratio) : DBody P w K mg base T.cm N_l_made "_law_made" s_l_made T.f_l_made 4 (m_l_made F_ratio) := by
  intro cdv A outer s H E hr tk
  have hu := DL.hu_of hr
  exact (dss_cons (ds_try rfl rfl tk (fun W2 pn2 xe2 tk2 => (dss_one (ds_set sc_l_made.nd rfl (by first | exact Or.inl rfl | exact Or.inr rfl) (de_call G_ratio tk2 hr (by omega) T.u_ratio.g T.u_ratio.kp (dv_cons (de_var 0) (dv_cons (de_var 1) dv_nil)))))) (DHs.nam ⟨rfl, by decide, .inl T.g_BadRatio⟩ T.t_BadRatio sc_l_made.nd rfl rfl (fun ax oe C d pn hz hf => (dss_cons (ds_set sc_l_made.nd rfl (by first | exact Or.inl rfl | exact Or.inr rfl) (de_and (de_isE rfl T.ec_BadRatio hz hf T.ke_BadRatio_StrawError rfl (Or.inl rfl) (pe_glob (v := .ref T.C_StrawError) rfl T.g_StrawError rfl) (fun _ r => r) T.n_isinstance) (de_one (de_isE rfl T.ec_BadRatio hz hf T.ke_BadRatio_ValueError rfl (Or.inl rfl) (pe_bltn (v := .ty "ValueError") rfl T.n_ValueError rfl rfl) (fun _ r => r) T.n_isinstance))))
  (dss_one (ds_ret (de_tup (da_cons de_str (da_cons (de_xf rfl (T.xf_BadRatio) (T.no_BadRatio_top) hz hf rfl (Or.inl rfl)) (da_cons (de_xf rfl (T.xf_BadRatio) (T.no_BadRatio_bottom) hz hf rfl (Or.inl rfl)) (da_cons (de_and (de_var 4) (de_one (de_not (de_isE rfl T.ec_BadRatio hz hf T.ke_BadRatio_BadFace rfl (Or.inl rfl) (pe_glob (v := .ref T.C_BadFace) rfl T.g_BadFace rfl) (fun _ r => r) T.n_isinstance)))) da_nil))))))))) (DHs.bare ⟨rfl, by decide, .inl T.g_StrawError⟩ T.t_StrawError (fun ax oe C d pn hz hf => (dss_one (ds_ret (de_tup (da_cons de_str (da_cons de_int (da_cons de_int (da_cons de_bl da_nil)))))))) DHs.nil)))
  (dss_one (ds_ret (de_tup (da_cons de_str (da_cons (de_var 2) (da_cons de_int (da_cons de_bl da_nil))))))))
abbrev N_l_made_right : List Str := ["_law_bag", "_law_size", "_law_top", "_law_low", "_law_due", "_law_found", "_law_whole"]
theorem sc_l_made_right : FnScope N_l_made_right ["_law_bag", "_law_size"] (defScope s_l_made_right) := ⟨rfl, rfl, rfl, by decide +kernel, rfl, by decide +kernel, by decide +kernel⟩
def m_l_made_right (F_ratio_1 : FS) (F_l_made : FS) (F_l_number_of : FS) (F_l_one_in : FS) (F_l_plain : FS) (F_l_ratio : FS) : M Fl := (seqM (setM 2 (callM F_l_number_of (refV 0 (consV (getV 1) (M.ret [])))))
  (seqM (setM 3 (callM F_l_number_of (refV 0 (consV (getV 1) (M.ret [])))))
  (seqM (ifM (tstB (callM F_l_one_in (refV 0 (consV (M.ret (.int 5)) (M.ret []))))) (setM 3 (M.ret (.int 0))) nxM)
  (seqM (ifM (tstB (callM F_l_one_in (refV 0 (consV (M.ret (.int 4)) (M.ret []))))) (seqM (setM 3 (op2 mulD (getV 3) (M.ret (.int 2))))
  (setM 2 (op2 mulD (getV 2) (M.ret (.int 2))))) nxM)
  (seqM (setM 4 (mkTup (consA (M.ret (.str ("refused" : Str))) (consA (getV 2) (consA (getV 3) (consA (M.ret (.bl true)) (M.ret [])))))))
  (seqM (ifM (tstB (op2 gtD (getV 3) (M.ret (.int 0)))) (setM 4 (mkTup (consA (M.ret (.str ("made" : Str))) (consA (callM F_l_ratio (consV (getV 2) (consV (getV 3) (M.ret [])))) (consA (M.ret (.int 0)) (consA (M.ret (.bl true)) (M.ret []))))))) nxM)
  (seqM (ifM (tstB (op2 ltD (getV 3) (M.ret (.int 0)))) (setM 4 (mkTup (consA (M.ret (.str ("made" : Str))) (consA (callM F_l_ratio (consV (op1 negD (getV 2)) (consV (op1 negD (getV 3)) (M.ret [])))) (consA (M.ret (.int 0)) (consA (M.ret (.bl true)) (M.ret []))))))) nxM)
  (seqM (setM 5 (callM F_l_made (consV (getV 2) (consV (getV 3) (M.ret [])))))
  (seqM (ifM (orB (tstB (op2 neD (getV 5) (getV 4))) (notB (tstB (callM F_l_plain (consV (slice3 (getV 5) partN (partD (M.ret (.int 3)))) (M.ret [])))))) (retM (M.ret (.bl false))) nxM)
  (seqM (setM 6 (callM F_ratio_1 (consV (getV 2) (M.ret []))))
  (retM (andV (callM F_l_plain (consV (getV 6) (M.ret []))) (op2 eqD (getV 6) (mkTup (consA (getV 2) (consA (M.ret (.int 1)) (M.ret [])))))))))))))))))
theorem b_l_made_right (T : Tx P K mg) {F_ratio_1 F_l_made F_l_number_of F_l_one_in F_l_plain F_l_ratio : FS} (G_ratio_1 : DFn P w K mg base T.cm 4 T.f_ratio F_ratio_1) (G_l_made : DFn P w K mg base T.cm 5 T.f_l_made F_l_made) (G_l_number_of : DFn P w K mg base T.cm 2 T.f_l_number_of F_l_number_of) (G_l_one_in : DFn P w K mg base T.cm 2 T.f_l_one_in F_l_one_in) (G_l_plain : DFn P w K mg base T.cm 7 T.f_l_plain F_l_plain) (G_l_ratio : DFn P w K mg base T.cm 2 T.f_l_ratio F_l_ratio) : DBody P w K mg base T.cm N_l_made_right "_law_made_right" s_l_made_right T.f_l_made_right 7 (m_l_made_right F_ratio_1 F_l_made F_l_number_of F_l_one_in F_l_plain F_l_ratio) := by
  intro cdv A outer s H E hr tk
  have hu := DL.hu_of hr
  exact (dss_cons (ds_set sc_l_made_right.nd rfl (by first | exact Or.inl rfl | exact Or.inr rfl) (de_call G_l_number_of tk hr (by omega) T.u_l_number_of.g T.u_l_number_of.kp (dv_ref 0 (dv_cons (de_var 1) dv_nil))))
  (dss_cons (ds_set sc_l_made_right.nd rfl (by first | exact Or.inl rfl | exact Or.inr rfl) (de_call G_l_number_of tk hr (by omega) T.u_l_number_of.g T.u_l_number_of.kp (dv_ref 0 (dv_cons (de_var 1) dv_nil))))
  (dss_cons (ds_if (dt_val (de_call G_l_one_in tk hr (by omega) T.u_l_one_in.g T.u_l_one_in.kp (dv_ref 0 (dv_cons de_int dv_nil)))) (dss_one (ds_set sc_l_made_right.nd rfl (by first | exact Or.inl rfl | exact Or.inr rfl) de_int)) dss_nil)
  (dss_cons (ds_if (dt_val (de_call G_l_one_in tk hr (by omega) T.u_l_one_in.g T.u_l_one_in.kp (dv_ref 0 (dv_cons de_int dv_nil)))) (dss_cons (ds_set sc_l_made_right.nd rfl (by first | exact Or.inl rfl | exact Or.inr rfl) (de_op ox_mul (de_var 3) de_int))
  (dss_one (ds_set sc_l_made_right.nd rfl (by first | exact Or.inl rfl | exact Or.inr rfl) (de_op ox_mul (de_var 2) de_int)))) dss_nil)
  (dss_cons (ds_set sc_l_made_right.nd rfl (by first | exact Or.inl rfl | exact Or.inr rfl) (de_tup (da_cons de_str (da_cons (de_var 2) (da_cons (de_var 3) (da_cons de_bl da_nil))))))
  (dss_cons (ds_if (dt_cmp ox_gt (de_var 3) de_int) (dss_one (ds_set sc_l_made_right.nd rfl (by first | exact Or.inl rfl | exact Or.inr rfl) (de_tup (da_cons de_str (da_cons (de_call G_l_ratio tk hr (by omega) T.u_l_ratio.g T.u_l_ratio.kp (dv_cons (de_var 2) (dv_cons (de_var 3) dv_nil))) (da_cons de_int (da_cons de_bl da_nil))))))) dss_nil)
  (dss_cons (ds_if (dt_cmp (ox_lt hu) (de_var 3) de_int) (dss_one (ds_set sc_l_made_right.nd rfl (by first | exact Or.inl rfl | exact Or.inr rfl) (de_tup (da_cons de_str (da_cons (de_call G_l_ratio tk hr (by omega) T.u_l_ratio.g T.u_l_ratio.kp (dv_cons (de_un ux_neg (de_var 2)) (dv_cons (de_un ux_neg (de_var 3)) dv_nil))) (da_cons de_int (da_cons de_bl da_nil))))))) dss_nil)
  (dss_cons (ds_set sc_l_made_right.nd rfl (by first | exact Or.inl rfl | exact Or.inr rfl) (de_call G_l_made tk hr (by omega) T.u_l_made.g T.u_l_made.kp (dv_cons (de_var 2) (dv_cons (de_var 3) dv_nil))))
  (dss_cons (ds_if (dt_bool (dt_or (dt_cmp (ox_ne hu) (de_var 5) (de_var 4)) (dt_or1 (dt_not (dt_val (de_call G_l_plain tk hr (by omega) T.u_l_plain.g T.u_l_plain.kp (dv_cons (de_slice (de_var 5) do_none (do_some de_int)) dv_nil))))))) (dss_one (ds_ret de_bl)) dss_nil)
  (dss_cons (ds_set sc_l_made_right.nd rfl (by first | exact Or.inl rfl | exact Or.inr rfl) (de_call G_ratio_1 tk hr (by omega) T.u_ratio.g T.u_ratio.kp (dv_cons (de_var 2) dv_nil)))
  (dss_one (ds_ret (de_and (de_call G_l_plain tk hr (by omega) T.u_l_plain.g T.u_l_plain.kp (dv_cons (de_var 6) dv_nil)) (de_one (de_cmp (ox_eq hu) (de_var 6) (de_tup (da_cons (de_var 2) (da_cons de_int da_nil))))))))))))))))))
abbrev N_plus : List Str := ["ratios", "top", "bottom", "one"]
theorem sc_plus : FnScope N_plus ["ratios"] (defScope s_plus) := ⟨rfl, rfl, rfl, by decide +kernel, rfl, by decide +kernel, by decide +kernel⟩
def m_plus (F_ratio : FS) : M Fl := (seqM (asgM (mkTup (consA (M.ret (.int 0)) (consA (M.ret (.int 1)) (M.ret [])))) (gTupD 2 (gsCons (gSet 1) (gsCons (gSet 2) gsNil))))
  (seqM (forM (itSeq (getV 0)) (gSet 3) (parM 1 2 (consA (op2 addD (op2 mulD (getV 1) (op2 ixD (getV 3) (M.ret (.int 1)))) (op2 mulD (op2 ixD (getV 3) (M.ret (.int 0))) (getV 2))) (consA (op2 mulD (getV 2) (op2 ixD (getV 3) (M.ret (.int 1)))) (M.ret [])))))
  (retM (callM F_ratio (consV (getV 1) (consV (getV 2) (M.ret [])))))))
theorem b_plus (T : Tx P K mg) {F_ratio : FS} (G_ratio : DFn P w K mg base T.cm 4 T.f_ratio F_ratio) : DBody P w K mg base T.cm N_plus "plus" s_plus T.f_plus 4 (m_plus F_ratio) := by
  intro cdv A outer s H E hr tk
  have hu := DL.hu_of hr
  exact (dss_cons (ds_asg (de_tup (da_cons de_int (da_cons de_int da_nil))) (dg_tup rfl (dgs_cons (dg_name sc_plus.nd rfl (by first | exact Or.inl rfl | exact Or.inr rfl)) (dgs_cons (dg_name sc_plus.nd rfl (by first | exact Or.inl rfl | exact Or.inr rfl)) dgs_nil))))
  (dss_cons (ds_for hp_of rfl (di_seq (de_var 0)) (dg_name sc_plus.nd rfl (by first | exact Or.inl rfl | exact Or.inr rfl)) (dss_one (ds_par rfl sc_plus.nd rfl rfl (by decide) rfl rfl (da_cons (de_op ox_add (de_op ox_mul (de_var 1) (de_ix (de_var 3) de_int)) (de_op ox_mul (de_ix (de_var 3) de_int) (de_var 2))) (da_cons (de_op ox_mul (de_var 2) (de_ix (de_var 3) de_int)) da_nil)) rfl)))
  (dss_one (ds_ret (de_call G_ratio tk hr (by omega) T.u_ratio.g T.u_ratio.kp (dv_cons (de_var 1) (dv_cons (de_var 2) dv_nil)))))))
abbrev N_l_sum : List Str := ["_law_rows"]
theorem sc_l_sum : FnScope N_l_sum ["_law_rows"] (defScope s_l_sum) := ⟨rfl, rfl, rfl, by decide +kernel, rfl, by decide +kernel, by decide +kernel⟩
def m_l_sum (F_plus : FS) : M Fl := (seqM (ifM (tstB (op2 eqD (bltM lenD (consA (getV 0) (M.ret []))) (M.ret (.int 0)))) (retM (callM F_plus (M.ret []))) nxM)
  (seqM (ifM (tstB (op2 eqD (bltM lenD (consA (getV 0) (M.ret []))) (M.ret (.int 1)))) (retM (callM F_plus (consV (op2 ixD (getV 0) (M.ret (.int 0))) (M.ret [])))) nxM)
  (seqM (ifM (tstB (op2 eqD (bltM lenD (consA (getV 0) (M.ret []))) (M.ret (.int 2)))) (retM (callM F_plus (consV (op2 ixD (getV 0) (M.ret (.int 0))) (consV (op2 ixD (getV 0) (M.ret (.int 1))) (M.ret []))))) nxM)
  (seqM (ifM (tstB (op2 eqD (bltM lenD (consA (getV 0) (M.ret []))) (M.ret (.int 3)))) (retM (callM F_plus (consV (op2 ixD (getV 0) (M.ret (.int 0))) (consV (op2 ixD (getV 0) (M.ret (.int 1))) (consV (op2 ixD (getV 0) (M.ret (.int 2))) (M.ret [])))))) nxM)
  (seqM (ifM (tstB (op2 eqD (bltM lenD (consA (getV 0) (M.ret []))) (M.ret (.int 4)))) (retM (callM F_plus (consV (op2 ixD (getV 0) (M.ret (.int 0))) (consV (op2 ixD (getV 0) (M.ret (.int 1))) (consV (op2 ixD (getV 0) (M.ret (.int 2))) (consV (op2 ixD (getV 0) (M.ret (.int 3))) (M.ret []))))))) nxM)
  (seqM (ifM (tstB (op2 eqD (bltM lenD (consA (getV 0) (M.ret []))) (M.ret (.int 5)))) (retM (callM F_plus (consV (op2 ixD (getV 0) (M.ret (.int 0))) (consV (op2 ixD (getV 0) (M.ret (.int 1))) (consV (op2 ixD (getV 0) (M.ret (.int 2))) (consV (op2 ixD (getV 0) (M.ret (.int 3))) (consV (op2 ixD (getV 0) (M.ret (.int 4))) (M.ret [])))))))) nxM)
  (retM (callM F_plus (consV (op2 ixD (getV 0) (M.ret (.int 0))) (consV (op2 ixD (getV 0) (M.ret (.int 1))) (consV (op2 ixD (getV 0) (M.ret (.int 2))) (consV (op2 ixD (getV 0) (M.ret (.int 3))) (consV (op2 ixD (getV 0) (M.ret (.int 4))) (consV (op2 ixD (getV 0) (M.ret (.int 5))) (M.ret [])))))))))))))))
theorem b_l_sum (T : Tx P K mg) {F_plus : FS} (G_plus : DFn P w K mg base T.cm 5 T.f_plus F_plus) : DBody P w K mg base T.cm N_l_sum "_law_sum" s_l_sum T.f_l_sum 5 (m_l_sum F_plus) := by
  intro cdv A outer s H E hr tk
  have hu := DL.hu_of hr
  exact (dss_cons (ds_if (dt_cmp (ox_eq hu) (de_callB cx_len T.n_len rfl (da_cons (de_var 0) da_nil)) de_int) (dss_one (ds_ret (de_call0 G_plus tk hr (by omega) T.u_plus.g T.u_plus.kp))) dss_nil)
  (dss_cons (ds_if (dt_cmp (ox_eq hu) (de_callB cx_len T.n_len rfl (da_cons (de_var 0) da_nil)) de_int) (dss_one (ds_ret (de_call G_plus tk hr (by omega) T.u_plus.g T.u_plus.kp (dv_cons (de_ix (de_var 0) de_int) dv_nil)))) dss_nil)
  (dss_cons (ds_if (dt_cmp (ox_eq hu) (de_callB cx_len T.n_len rfl (da_cons (de_var 0) da_nil)) de_int) (dss_one (ds_ret (de_call G_plus tk hr (by omega) T.u_plus.g T.u_plus.kp (dv_cons (de_ix (de_var 0) de_int) (dv_cons (de_ix (de_var 0) de_int) dv_nil))))) dss_nil)
  (dss_cons (ds_if (dt_cmp (ox_eq hu) (de_callB cx_len T.n_len rfl (da_cons (de_var 0) da_nil)) de_int) (dss_one (ds_ret (de_call G_plus tk hr (by omega) T.u_plus.g T.u_plus.kp (dv_cons (de_ix (de_var 0) de_int) (dv_cons (de_ix (de_var 0) de_int) (dv_cons (de_ix (de_var 0) de_int) dv_nil)))))) dss_nil)
  (dss_cons (ds_if (dt_cmp (ox_eq hu) (de_callB cx_len T.n_len rfl (da_cons (de_var 0) da_nil)) de_int) (dss_one (ds_ret (de_call G_plus tk hr (by omega) T.u_plus.g T.u_plus.kp (dv_cons (de_ix (de_var 0) de_int) (dv_cons (de_ix (de_var 0) de_int) (dv_cons (de_ix (de_var 0) de_int) (dv_cons (de_ix (de_var 0) de_int) dv_nil))))))) dss_nil)
  (dss_cons (ds_if (dt_cmp (ox_eq hu) (de_callB cx_len T.n_len rfl (da_cons (de_var 0) da_nil)) de_int) (dss_one (ds_ret (de_call G_plus tk hr (by omega) T.u_plus.g T.u_plus.kp (dv_cons (de_ix (de_var 0) de_int) (dv_cons (de_ix (de_var 0) de_int) (dv_cons (de_ix (de_var 0) de_int) (dv_cons (de_ix (de_var 0) de_int) (dv_cons (de_ix (de_var 0) de_int) dv_nil)))))))) dss_nil)
  (dss_one (ds_ret (de_call G_plus tk hr (by omega) T.u_plus.g T.u_plus.kp (dv_cons (de_ix (de_var 0) de_int) (dv_cons (de_ix (de_var 0) de_int) (dv_cons (de_ix (de_var 0) de_int) (dv_cons (de_ix (de_var 0) de_int) (dv_cons (de_ix (de_var 0) de_int) (dv_cons (de_ix (de_var 0) de_int) dv_nil)))))))))))))))
abbrev N_l_plus : List Str := ["_law_first", "_law_second"]
theorem sc_l_plus : FnScope N_l_plus ["_law_first", "_law_second"] (defScope s_l_plus) := ⟨rfl, rfl, rfl, by decide +kernel, rfl, by decide +kernel, by decide +kernel⟩
def m_l_plus (F_l_ratio : FS) : M Fl := (retM (callM F_l_ratio (consV (op2 addD (op2 mulD (op2 ixD (getV 0) (M.ret (.int 0))) (op2 ixD (getV 1) (M.ret (.int 1)))) (op2 mulD (op2 ixD (getV 1) (M.ret (.int 0))) (op2 ixD (getV 0) (M.ret (.int 1))))) (consV (op2 mulD (op2 ixD (getV 0) (M.ret (.int 1))) (op2 ixD (getV 1) (M.ret (.int 1)))) (M.ret [])))))
theorem b_l_plus (T : Tx P K mg) {F_l_ratio : FS} (G_l_ratio : DFn P w K mg base T.cm 2 T.f_l_ratio F_l_ratio) : DBody P w K mg base T.cm N_l_plus "_law_plus" s_l_plus T.f_l_plus 2 (m_l_plus F_l_ratio) := by
  intro cdv A outer s H E hr tk
  have hu := DL.hu_of hr
  exact (dss_one (ds_ret (de_call G_l_ratio tk hr (by omega) T.u_l_ratio.g T.u_l_ratio.kp (dv_cons (de_op ox_add (de_op ox_mul (de_ix (de_var 0) de_int) (de_ix (de_var 1) de_int)) (de_op ox_mul (de_ix (de_var 1) de_int) (de_ix (de_var 0) de_int))) (dv_cons (de_op ox_mul (de_ix (de_var 0) de_int) (de_ix (de_var 1) de_int)) dv_nil)))))
abbrev N_l_tuples : List Str := ["_law_thing", "_law_one"]
theorem sc_l_tuples : FnScope N_l_tuples ["_law_thing"] (defScope s_l_tuples) := ⟨rfl, rfl, rfl, by decide +kernel, rfl, by decide +kernel, by decide +kernel⟩
def m_l_tuples (F_l_tuples : FS) : M Fl := (seqM (ifM (orB (tstB (isiM "list" (getV 0))) (tstB (isiM "tuple" (getV 0)))) (retM (bltM tupD (consA (datM (compM [1] (itSeq (getV 0)) (gSet 1) (M.ret true) (callM F_l_tuples (consV (getV 1) (M.ret []))))) (M.ret [])))) nxM)
  (retM (getV 0)))
theorem b_l_tuples (T : Tx P K mg) {F_l_tuples : FS} {k : Nat} (hk : 0 ≤ k) (G_l_tuples : DFn P w K mg base T.cm k T.f_l_tuples F_l_tuples) : DBody P w K mg base T.cm N_l_tuples "_law_tuples" s_l_tuples T.f_l_tuples k (m_l_tuples F_l_tuples) := by
  intro cdv A outer s H E hr tk
  have hu := DL.hu_of hr
  exact (dss_cons (ds_if (dt_bool (dt_or (dt_val (de_isi T.n_isinstance T.n_list rfl (de_var 0))) (dt_or1 (dt_val (de_isi T.n_isinstance T.n_tuple rfl (de_var 0)))))) (dss_one (ds_ret (de_callTy cx_tuple T.n_tuple rfl (da_cons (de_fresh (df_lc (own := [("_law_one", 1)]) rfl sc_l_tuples.nd (di_seq (de_var 0)) (blkOk_by (by kernel_rfl)) (by decide) (fun _ _ _ _ _ => (dg_name sc_l_tuples.nd rfl (by first | exact Or.inl rfl | exact Or.inr rfl))) (fun _ _ _ _ _ => dts_yes) (fun _ _ _ _ _ => (de_call G_l_tuples takes_none5 hr (by omega) T.u_l_tuples.g T.u_l_tuples.kp (dv_cons (de_var 1) dv_nil))))) da_nil)))) dss_nil)
  (dss_one (ds_ret (de_var 0))))
abbrev N_l_shuffled : List Str := ["_law_bag", "_law_things", "_law_rest", "_law_row", "_law_k"]
theorem sc_l_shuffled : FnScope N_l_shuffled ["_law_bag", "_law_things"] (defScope s_l_shuffled) := ⟨rfl, rfl, rfl, by decide +kernel, rfl, by decide +kernel, by decide +kernel⟩
def m_l_shuffled (F_l_pick : FS) : M Fl := (seqM (ownM 2 (listM (getV 1)))
  (seqM (ownM 3 (lstM (M.ret [])))
  (seqM (forM (itRange1 (consA (bltM lenD (consA (getV 1) (M.ret []))) (M.ret []))) (gSet 4) (dropM (appendM 3 (popAtM 2 (peekM (callM F_l_pick (refV 0 (consV (bltM lenD (consA (getV 2) (M.ret []))) (M.ret [])))))))))
  (retM (getV 3)))))
theorem b_l_shuffled (T : Tx P K mg) {F_l_pick : FS} (G_l_pick : DFn P w K mg base T.cm 1 T.f_l_pick F_l_pick) : DBody P w K mg base T.cm N_l_shuffled "_law_shuffled" s_l_shuffled T.f_l_shuffled 1 (m_l_shuffled F_l_pick) := by
  intro cdv A outer s H E hr tk
  have hu := DL.hu_of hr
  exact (dss_cons (ds_own sc_l_shuffled.nd rfl (by first | exact Or.inl rfl | exact Or.inr rfl) (df_list T.n_list (de_var 1)))
  (dss_cons (ds_own sc_l_shuffled.nd rfl (by first | exact Or.inl rfl | exact Or.inr rfl) (df_lst da_nil))
  (dss_cons (ds_for hp_of rfl (di_range1 rfl T.n_range (da_cons (de_callB cx_len T.n_len rfl (da_cons (de_var 1) da_nil)) da_nil)) (dg_name sc_l_shuffled.nd rfl (by first | exact Or.inl rfl | exact Or.inr rfl)) (dss_one (ds_expr (de_append 3 (he := (de_popAt 2 (he := (de_peek (de_call G_l_pick tk hr (by omega) T.u_l_pick.g T.u_l_pick.kp (dv_ref 0 (dv_cons (de_callB cx_len T.n_len rfl (da_cons (de_var 2) da_nil)) dv_nil)))))))))))
  (dss_one (ds_ret (de_var 3))))))
abbrev N_l_sums_right : List Str := ["_law_bag", "_law_rows", "_law_due", "_law_row", "_law_handed", "_law_kept", "_law_found", "_law_other"]
theorem sc_l_sums_right : FnScope N_l_sums_right ["_law_bag", "_law_rows"] (defScope s_l_sums_right) := ⟨rfl, rfl, rfl, by decide +kernel, rfl, by decide +kernel, by decide +kernel⟩
def m_l_sums_right (F_l_one_in : FS) (F_l_plain : FS) (F_l_plus : FS) (F_l_shuffled : FS) (F_l_sum : FS) (F_l_tuples : FS) : M Fl := (seqM (setM 2 (mkTup (consA (M.ret (.int 0)) (consA (M.ret (.int 1)) (M.ret [])))))
  (seqM (forM (itSeq (getV 1)) (gSet 3) (setM 2 (callM F_l_plus (consV (getV 2) (consV (getV 3) (M.ret []))))))
  (seqM (ownM 4 (compM [3] (itSeq (getV 1)) (gSet 3) (M.ret true) (getV 3)))
  (seqM (ifM (tstB (callM F_l_one_in (refV 0 (consV (M.ret (.int 3)) (M.ret []))))) (ownM 4 (compM [3] (itSeq (getV 1)) (gSet 3) (M.ret true) (datM (listM (getV 3))))) nxM)
  (seqM (ownM 5 (compM [3] (itSeq (getV 4)) (gSet 3) (M.ret true) (callM F_l_tuples (consV (getV 3) (M.ret [])))))
  (seqM (setM 6 (callM F_l_sum (consV (getV 4) (M.ret []))))
  (seqM (setM 7 (callM F_l_sum (consV (callM F_l_shuffled (refV 0 (consV (getV 4) (M.ret [])))) (M.ret []))))
  (seqM (ifM (orB (notB (tstB (callM F_l_plain (consV (getV 6) (M.ret []))))) (notB (tstB (callM F_l_plain (consV (getV 7) (M.ret [])))))) (retM (M.ret (.bl false))) nxM)
  (retM (andV (op2 eqD (getV 6) (getV 2)) (andV (op2 eqD (getV 7) (getV 2)) (op2 eqD (datM (compM [3] (itSeq (getV 4)) (gSet 3) (M.ret true) (callM F_l_tuples (consV (getV 3) (M.ret []))))) (getV 5)))))))))))))
theorem b_l_sums_right (T : Tx P K mg) {F_l_one_in F_l_plain F_l_plus F_l_shuffled F_l_sum F_l_tuples : FS} (G_l_one_in : DFn P w K mg base T.cm 2 T.f_l_one_in F_l_one_in) (G_l_plain : DFn P w K mg base T.cm 7 T.f_l_plain F_l_plain) (G_l_plus : DFn P w K mg base T.cm 3 T.f_l_plus F_l_plus) (G_l_shuffled : DFn P w K mg base T.cm 2 T.f_l_shuffled F_l_shuffled) (G_l_sum : DFn P w K mg base T.cm 6 T.f_l_sum F_l_sum) (G_l_tuples : DFn P w K mg base T.cm 6 T.f_l_tuples F_l_tuples) : DBody P w K mg base T.cm N_l_sums_right "_law_sums_right" s_l_sums_right T.f_l_sums_right 7 (m_l_sums_right F_l_one_in F_l_plain F_l_plus F_l_shuffled F_l_sum F_l_tuples) := by
  intro cdv A outer s H E hr tk
  have hu := DL.hu_of hr
  exact (dss_cons (ds_set sc_l_sums_right.nd rfl (by first | exact Or.inl rfl | exact Or.inr rfl) (de_tup (da_cons de_int (da_cons de_int da_nil))))
  (dss_cons (ds_for hp_of rfl (di_seq (de_var 1)) (dg_name sc_l_sums_right.nd rfl (by first | exact Or.inl rfl | exact Or.inr rfl)) (dss_one (ds_set sc_l_sums_right.nd rfl (by first | exact Or.inl rfl | exact Or.inr rfl) (de_call G_l_plus tk hr (by omega) T.u_l_plus.g T.u_l_plus.kp (dv_cons (de_var 2) (dv_cons (de_var 3) dv_nil))))))
  (dss_cons (ds_setLc (own := [("_law_row", 3)]) rfl sc_l_sums_right.nd rfl rfl rfl (di_seq (de_var 1)) (blkOk_by (by kernel_rfl)) (by decide) (fun _ _ _ _ _ => (dg_name sc_l_sums_right.nd rfl (by first | exact Or.inl rfl | exact Or.inr rfl))) (fun _ _ _ _ _ => dts_yes) (fun _ _ _ _ _ => (de_var 3)))
  (dss_cons (ds_if (dt_val (de_call G_l_one_in tk hr (by omega) T.u_l_one_in.g T.u_l_one_in.kp (dv_ref 0 (dv_cons de_int dv_nil)))) (dss_one (ds_setLc (own := [("_law_row", 3)]) rfl sc_l_sums_right.nd rfl rfl rfl (di_seq (de_var 1)) (blkOk_by (by kernel_rfl)) (by decide) (fun _ _ _ _ _ => (dg_name sc_l_sums_right.nd rfl (by first | exact Or.inl rfl | exact Or.inr rfl))) (fun _ _ _ _ _ => dts_yes) (fun _ _ _ _ _ => (de_fresh (df_list T.n_list (de_var 3)))))) dss_nil)
  (dss_cons (ds_setLc (own := [("_law_row", 3)]) rfl sc_l_sums_right.nd rfl rfl rfl (di_seq (de_var 4)) (blkOk_by (by kernel_rfl)) (by decide) (fun _ _ _ _ _ => (dg_name sc_l_sums_right.nd rfl (by first | exact Or.inl rfl | exact Or.inr rfl))) (fun _ _ _ _ _ => dts_yes) (fun _ _ _ _ _ => (de_call G_l_tuples takes_none5 hr (by omega) T.u_l_tuples.g T.u_l_tuples.kp (dv_cons (de_var 3) dv_nil))))
  (dss_cons (ds_set sc_l_sums_right.nd rfl (by first | exact Or.inl rfl | exact Or.inr rfl) (de_call G_l_sum tk hr (by omega) T.u_l_sum.g T.u_l_sum.kp (dv_cons (de_var 4) dv_nil)))
  (dss_cons (ds_set sc_l_sums_right.nd rfl (by first | exact Or.inl rfl | exact Or.inr rfl) (de_call G_l_sum tk hr (by omega) T.u_l_sum.g T.u_l_sum.kp (dv_cons (de_call G_l_shuffled tk hr (by omega) T.u_l_shuffled.g T.u_l_shuffled.kp (dv_ref 0 (dv_cons (de_var 4) dv_nil))) dv_nil)))
  (dss_cons (ds_if (dt_bool (dt_or (dt_not (dt_val (de_call G_l_plain tk hr (by omega) T.u_l_plain.g T.u_l_plain.kp (dv_cons (de_var 6) dv_nil)))) (dt_or1 (dt_not (dt_val (de_call G_l_plain tk hr (by omega) T.u_l_plain.g T.u_l_plain.kp (dv_cons (de_var 7) dv_nil))))))) (dss_one (ds_ret de_bl)) dss_nil)
  (dss_one (ds_ret (de_and (de_cmp (ox_eq hu) (de_var 6) (de_var 2)) (de_and (de_cmp (ox_eq hu) (de_var 7) (de_var 2)) (de_one (de_cmp (ox_eq hu) (de_fresh (df_lc (own := [("_law_row", 3)]) rfl sc_l_sums_right.nd (di_seq (de_var 4)) (blkOk_by (by kernel_rfl)) (by decide) (fun _ _ _ _ _ => (dg_name sc_l_sums_right.nd rfl (by first | exact Or.inl rfl | exact Or.inr rfl))) (fun _ _ _ _ _ => dts_yes) (fun _ _ _ _ _ => (de_call G_l_tuples takes_none5 hr (by omega) T.u_l_tuples.g T.u_l_tuples.kp (dv_cons (de_var 3) dv_nil))))) (de_var 5)))))))))))))))
abbrev N_write_ratio : List Str := ["ratio_told"]
theorem sc_write_ratio : FnScope N_write_ratio ["ratio_told"] (defScope s_write_ratio) := ⟨rfl, rfl, rfl, by decide +kernel, rfl, by decide +kernel, by decide +kernel⟩
def m_write_ratio : M Fl := (seqM (ifM (tstB (op2 eqD (op2 ixD (getV 0) (M.ret (.int 1))) (M.ret (.int 1)))) (retM (fmtM (op2 ixD (getV 0) (M.ret (.int 0))))) nxM)
  (retM (joinF [(fmtM (op2 ixD (getV 0) (M.ret (.int 0)))), (M.ret (.str ("/" : Str))), (fmtM (op2 ixD (getV 0) (M.ret (.int 1))))] Str.empty)))
theorem b_write_ratio (T : Tx P K mg) : DBody P w K mg base T.cm N_write_ratio "write_ratio" s_write_ratio T.f_write_ratio 0 (m_write_ratio) := by
  intro cdv A outer s H E hr tk
  have hu := DL.hu_of hr
  exact (dss_cons (ds_if (dt_cmp (ox_eq hu) (de_ix (de_var 0) de_int) de_int) (dss_one (ds_ret (de_joined1 (de_fmt (de_ix (de_var 0) de_int))))) dss_nil)
  (dss_one (ds_ret (de_joined (DJ.cons (de_fmt (de_ix (de_var 0) de_int)) (DJ.cons de_str (DJ.cons (de_fmt (de_ix (de_var 0) de_int)) DJ.nil)))))))
abbrev N_minus : List Str := ["first", "second"]
theorem sc_minus : FnScope N_minus ["first", "second"] (defScope s_minus) := ⟨rfl, rfl, rfl, by decide +kernel, rfl, by decide +kernel, by decide +kernel⟩
def m_minus (F_ratio : FS) : M Fl := (retM (callM F_ratio (consV (op2 subD (op2 mulD (op2 ixD (getV 0) (M.ret (.int 0))) (op2 ixD (getV 1) (M.ret (.int 1)))) (op2 mulD (op2 ixD (getV 1) (M.ret (.int 0))) (op2 ixD (getV 0) (M.ret (.int 1))))) (consV (op2 mulD (op2 ixD (getV 0) (M.ret (.int 1))) (op2 ixD (getV 1) (M.ret (.int 1)))) (M.ret [])))))
theorem b_minus (T : Tx P K mg) {F_ratio : FS} (G_ratio : DFn P w K mg base T.cm 4 T.f_ratio F_ratio) : DBody P w K mg base T.cm N_minus "minus" s_minus T.f_minus 4 (m_minus F_ratio) := by
  intro cdv A outer s H E hr tk
  have hu := DL.hu_of hr
  exact (dss_one (ds_ret (de_call G_ratio tk hr (by omega) T.u_ratio.g T.u_ratio.kp (dv_cons (de_op ox_sub (de_op ox_mul (de_ix (de_var 0) de_int) (de_ix (de_var 1) de_int)) (de_op ox_mul (de_ix (de_var 1) de_int) (de_ix (de_var 0) de_int))) (dv_cons (de_op ox_mul (de_ix (de_var 0) de_int) (de_ix (de_var 1) de_int)) dv_nil)))))
abbrev N_times : List Str := ["first", "second"]
theorem sc_times : FnScope N_times ["first", "second"] (defScope s_times) := ⟨rfl, rfl, rfl, by decide +kernel, rfl, by decide +kernel, by decide +kernel⟩
def m_times (F_ratio : FS) : M Fl := (retM (callM F_ratio (consV (op2 mulD (op2 ixD (getV 0) (M.ret (.int 0))) (op2 ixD (getV 1) (M.ret (.int 0)))) (consV (op2 mulD (op2 ixD (getV 0) (M.ret (.int 1))) (op2 ixD (getV 1) (M.ret (.int 1)))) (M.ret [])))))
theorem b_times (T : Tx P K mg) {F_ratio : FS} (G_ratio : DFn P w K mg base T.cm 4 T.f_ratio F_ratio) : DBody P w K mg base T.cm N_times "times" s_times T.f_times 4 (m_times F_ratio) := by
  intro cdv A outer s H E hr tk
  have hu := DL.hu_of hr
  exact (dss_one (ds_ret (de_call G_ratio tk hr (by omega) T.u_ratio.g T.u_ratio.kp (dv_cons (de_op ox_mul (de_ix (de_var 0) de_int) (de_ix (de_var 1) de_int)) (dv_cons (de_op ox_mul (de_ix (de_var 0) de_int) (de_ix (de_var 1) de_int)) dv_nil)))))
abbrev N_less : List Str := ["first", "second"]
theorem sc_less : FnScope N_less ["first", "second"] (defScope s_less) := ⟨rfl, rfl, rfl, by decide +kernel, rfl, by decide +kernel, by decide +kernel⟩
def m_less : M Fl := (retM (op2 ltD (op2 mulD (op2 ixD (getV 0) (M.ret (.int 0))) (op2 ixD (getV 1) (M.ret (.int 1)))) (op2 mulD (op2 ixD (getV 1) (M.ret (.int 0))) (op2 ixD (getV 0) (M.ret (.int 1))))))
theorem b_less (T : Tx P K mg) : DBody P w K mg base T.cm N_less "less" s_less T.f_less 0 (m_less) := by
  intro cdv A outer s H E hr tk
  have hu := DL.hu_of hr
  exact (dss_one (ds_ret (de_cmp (ox_lt hu) (de_op ox_mul (de_ix (de_var 0) de_int) (de_ix (de_var 1) de_int)) (de_op ox_mul (de_ix (de_var 1) de_int) (de_ix (de_var 0) de_int)))))
abbrev N_l_text : List Str := ["_law_told"]
theorem sc_l_text : FnScope N_l_text ["_law_told"] (defScope s_l_text) := ⟨rfl, rfl, rfl, by decide +kernel, rfl, by decide +kernel, by decide +kernel⟩
def m_l_text : M Fl := (seqM (ifM (tstB (op2 eqD (op2 ixD (getV 0) (M.ret (.int 1))) (M.ret (.int 1)))) (retM (bltM strD (consA (op2 ixD (getV 0) (M.ret (.int 0))) (M.ret [])))) nxM)
  (retM (op2 addD (op2 addD (bltM strD (consA (op2 ixD (getV 0) (M.ret (.int 0))) (M.ret []))) (M.ret (.str ("/" : Str)))) (bltM strD (consA (op2 ixD (getV 0) (M.ret (.int 1))) (M.ret []))))))
theorem b_l_text (T : Tx P K mg) : DBody P w K mg base T.cm N_l_text "_law_text" s_l_text T.f_l_text 0 (m_l_text) := by
  intro cdv A outer s H E hr tk
  have hu := DL.hu_of hr
  exact (dss_cons (ds_if (dt_cmp (ox_eq hu) (de_ix (de_var 0) de_int) de_int) (dss_one (ds_ret (de_callTy cx_str T.n_str rfl (da_cons (de_ix (de_var 0) de_int) da_nil)))) dss_nil)
  (dss_one (ds_ret (de_op ox_add (de_op ox_add (de_callTy cx_str T.n_str rfl (da_cons (de_ix (de_var 0) de_int) da_nil)) de_str) (de_callTy cx_str T.n_str rfl (da_cons (de_ix (de_var 0) de_int) da_nil))))))
abbrev N_l_two_right : List Str := ["_law_one", "_law_two", "_law_gap", "_law_product", "_law_found"]
theorem sc_l_two_right : FnScope N_l_two_right ["_law_one", "_law_two"] (defScope s_l_two_right) := ⟨rfl, rfl, rfl, by decide +kernel, rfl, by decide +kernel, by decide +kernel⟩
def m_l_two_right (F_l_plain : FS) (F_l_plus : FS) (F_l_ratio : FS) (F_l_text : FS) (F_l_truth : FS) (F_less : FS) (F_minus : FS) (F_times : FS) (F_write_ratio : FS) : M Fl := (seqM (setM 2 (callM F_l_plus (consV (getV 0) (consV (mkTup (consA (op1 negD (op2 ixD (getV 1) (M.ret (.int 0)))) (consA (op2 ixD (getV 1) (M.ret (.int 1))) (M.ret [])))) (M.ret [])))))
  (seqM (setM 3 (callM F_l_ratio (consV (op2 mulD (op2 ixD (getV 0) (M.ret (.int 0))) (op2 ixD (getV 1) (M.ret (.int 0)))) (consV (op2 mulD (op2 ixD (getV 0) (M.ret (.int 1))) (op2 ixD (getV 1) (M.ret (.int 1)))) (M.ret [])))))
  (seqM (setM 4 (mkTup (consA (callM F_minus (consV (getV 0) (consV (getV 1) (M.ret [])))) (consA (callM F_times (consV (getV 0) (consV (getV 1) (M.ret [])))) (M.ret [])))))
  (seqM (ifM (orB (notB (tstB (callM F_l_plain (consV (getV 4) (M.ret []))))) (tstB (op2 neD (getV 4) (mkTup (consA (getV 2) (consA (getV 3) (M.ret []))))))) (retM (M.ret (.bl false))) nxM)
  (seqM (ifM (notB (tstB (callM F_l_truth (consV (callM F_less (consV (getV 0) (consV (getV 1) (M.ret [])))) (consV (op2 ltD (op2 ixD (getV 2) (M.ret (.int 0))) (M.ret (.int 0))) (M.ret [])))))) (retM (M.ret (.bl false))) nxM)
  (seqM (ifM (notB (tstB (callM F_l_truth (consV (callM F_less (consV (getV 1) (consV (getV 0) (M.ret [])))) (consV (op2 gtD (op2 ixD (getV 2) (M.ret (.int 0))) (M.ret (.int 0))) (M.ret [])))))) (retM (M.ret (.bl false))) nxM)
  (seqM (ifM (notB (tstB (callM F_l_truth (consV (callM F_less (consV (getV 0) (consV (getV 0) (M.ret [])))) (consV (M.ret (.bl false)) (M.ret [])))))) (retM (M.ret (.bl false))) nxM)
  (seqM (setM 4 (callM F_write_ratio (consV (getV 0) (M.ret []))))
  (seqM (ifM (orB (notB (tstB (isiM "str" (getV 4)))) (tstB (op2 neD (getV 4) (callM F_l_text (consV (getV 0) (M.ret [])))))) (retM (M.ret (.bl false))) nxM)
  (retM (andV (op2 eqD (callM F_minus (consV (datM (listM (getV 0))) (consV (datM (listM (getV 1))) (M.ret [])))) (getV 2)) (op2 eqD (callM F_write_ratio (consV (datM (listM (getV 1))) (M.ret []))) (callM F_l_text (consV (getV 1) (M.ret [])))))))))))))))
theorem b_l_two_right (T : Tx P K mg) {F_l_plain F_l_plus F_l_ratio F_l_text F_l_truth F_less F_minus F_times F_write_ratio : FS} (G_l_plain : DFn P w K mg base T.cm 7 T.f_l_plain F_l_plain) (G_l_plus : DFn P w K mg base T.cm 3 T.f_l_plus F_l_plus) (G_l_ratio : DFn P w K mg base T.cm 2 T.f_l_ratio F_l_ratio) (G_l_text : DFn P w K mg base T.cm 1 T.f_l_text F_l_text) (G_l_truth : DFn P w K mg base T.cm 1 T.f_l_truth F_l_truth) (G_less : DFn P w K mg base T.cm 1 T.f_less F_less) (G_minus : DFn P w K mg base T.cm 5 T.f_minus F_minus) (G_times : DFn P w K mg base T.cm 5 T.f_times F_times) (G_write_ratio : DFn P w K mg base T.cm 1 T.f_write_ratio F_write_ratio) : DBody P w K mg base T.cm N_l_two_right "_law_two_right" s_l_two_right T.f_l_two_right 7 (m_l_two_right F_l_plain F_l_plus F_l_ratio F_l_text F_l_truth F_less F_minus F_times F_write_ratio) := by
  intro cdv A outer s H E hr tk
  have hu := DL.hu_of hr
  exact (dss_cons (ds_set sc_l_two_right.nd rfl (by first | exact Or.inl rfl | exact Or.inr rfl) (de_call G_l_plus tk hr (by omega) T.u_l_plus.g T.u_l_plus.kp (dv_cons (de_var 0) (dv_cons (de_tup (da_cons (de_un ux_neg (de_ix (de_var 1) de_int)) (da_cons (de_ix (de_var 1) de_int) da_nil))) dv_nil))))
  (dss_cons (ds_set sc_l_two_right.nd rfl (by first | exact Or.inl rfl | exact Or.inr rfl) (de_call G_l_ratio tk hr (by omega) T.u_l_ratio.g T.u_l_ratio.kp (dv_cons (de_op ox_mul (de_ix (de_var 0) de_int) (de_ix (de_var 1) de_int)) (dv_cons (de_op ox_mul (de_ix (de_var 0) de_int) (de_ix (de_var 1) de_int)) dv_nil))))
  (dss_cons (ds_set sc_l_two_right.nd rfl (by first | exact Or.inl rfl | exact Or.inr rfl) (de_tup (da_cons (de_call G_minus tk hr (by omega) T.u_minus.g T.u_minus.kp (dv_cons (de_var 0) (dv_cons (de_var 1) dv_nil))) (da_cons (de_call G_times tk hr (by omega) T.u_times.g T.u_times.kp (dv_cons (de_var 0) (dv_cons (de_var 1) dv_nil))) da_nil))))
  (dss_cons (ds_if (dt_bool (dt_or (dt_not (dt_val (de_call G_l_plain tk hr (by omega) T.u_l_plain.g T.u_l_plain.kp (dv_cons (de_var 4) dv_nil)))) (dt_or1 (dt_cmp (ox_ne hu) (de_var 4) (de_tup (da_cons (de_var 2) (da_cons (de_var 3) da_nil))))))) (dss_one (ds_ret de_bl)) dss_nil)
  (dss_cons (ds_if (dt_not (dt_val (de_call G_l_truth tk hr (by omega) T.u_l_truth.g T.u_l_truth.kp (dv_cons (de_call G_less tk hr (by omega) T.u_less.g T.u_less.kp (dv_cons (de_var 0) (dv_cons (de_var 1) dv_nil))) (dv_cons (de_cmp (ox_lt hu) (de_ix (de_var 2) de_int) de_int) dv_nil))))) (dss_one (ds_ret de_bl)) dss_nil)
  (dss_cons (ds_if (dt_not (dt_val (de_call G_l_truth tk hr (by omega) T.u_l_truth.g T.u_l_truth.kp (dv_cons (de_call G_less tk hr (by omega) T.u_less.g T.u_less.kp (dv_cons (de_var 1) (dv_cons (de_var 0) dv_nil))) (dv_cons (de_cmp ox_gt (de_ix (de_var 2) de_int) de_int) dv_nil))))) (dss_one (ds_ret de_bl)) dss_nil)
  (dss_cons (ds_if (dt_not (dt_val (de_call G_l_truth tk hr (by omega) T.u_l_truth.g T.u_l_truth.kp (dv_cons (de_call G_less tk hr (by omega) T.u_less.g T.u_less.kp (dv_cons (de_var 0) (dv_cons (de_var 0) dv_nil))) (dv_cons de_bl dv_nil))))) (dss_one (ds_ret de_bl)) dss_nil)
  (dss_cons (ds_set sc_l_two_right.nd rfl (by first | exact Or.inl rfl | exact Or.inr rfl) (de_call G_write_ratio tk hr (by omega) T.u_write_ratio.g T.u_write_ratio.kp (dv_cons (de_var 0) dv_nil)))
  (dss_cons (ds_if (dt_bool (dt_or (dt_not (dt_val (de_isi T.n_isinstance T.n_str rfl (de_var 4)))) (dt_or1 (dt_cmp (ox_ne hu) (de_var 4) (de_call G_l_text tk hr (by omega) T.u_l_text.g T.u_l_text.kp (dv_cons (de_var 0) dv_nil)))))) (dss_one (ds_ret de_bl)) dss_nil)
  (dss_one (ds_ret (de_and (de_cmp (ox_eq hu) (de_call G_minus tk hr (by omega) T.u_minus.g T.u_minus.kp (dv_cons (de_fresh (df_list T.n_list (de_var 0))) (dv_cons (de_fresh (df_list T.n_list (de_var 1))) dv_nil))) (de_var 2)) (de_one (de_cmp (ox_eq hu) (de_call G_write_ratio tk hr (by omega) T.u_write_ratio.g T.u_write_ratio.kp (dv_cons (de_fresh (df_list T.n_list (de_var 1))) dv_nil)) (de_call G_l_text tk hr (by omega) T.u_l_text.g T.u_l_text.kp (dv_cons (de_var 1) dv_nil))))))))))))))))
abbrev N_l_algebra : List Str := ["_law_one", "_law_two", "_law_third", "_law_spread", "_law_raised"]
theorem sc_l_algebra : FnScope N_l_algebra ["_law_one", "_law_two", "_law_third"] (defScope s_l_algebra) := ⟨rfl, rfl, rfl, by decide +kernel, rfl, by decide +kernel, by decide +kernel⟩
def m_l_algebra (F_l_truth : FS) (F_less : FS) (F_minus : FS) (F_plus : FS) (F_times : FS) : M Fl := (seqM (ifM (tstB (op2 neD (callM F_minus (consV (callM F_plus (consV (getV 0) (consV (getV 1) (M.ret [])))) (consV (getV 1) (M.ret [])))) (getV 0))) (retM (M.ret (.bl false))) nxM)
  (seqM (ifM (tstB (op2 neD (callM F_plus (consV (callM F_minus (consV (getV 0) (consV (getV 1) (M.ret [])))) (consV (getV 1) (M.ret [])))) (getV 0))) (retM (M.ret (.bl false))) nxM)
  (seqM (setM 3 (callM F_plus (consV (callM F_times (consV (getV 0) (consV (getV 1) (M.ret [])))) (consV (callM F_times (consV (getV 0) (consV (getV 2) (M.ret [])))) (M.ret [])))))
  (seqM (ifM (tstB (op2 neD (callM F_times (consV (getV 0) (consV (callM F_plus (consV (getV 1) (consV (getV 2) (M.ret [])))) (M.ret [])))) (getV 3))) (retM (M.ret (.bl false))) nxM)
  (seqM (setM 4 (callM F_less (consV (callM F_plus (consV (getV 0) (consV (getV 2) (M.ret [])))) (consV (callM F_plus (consV (getV 1) (consV (getV 2) (M.ret [])))) (M.ret [])))))
  (seqM (ifM (notB (tstB (callM F_l_truth (consV (getV 4) (consV (callM F_less (consV (getV 0) (consV (getV 1) (M.ret [])))) (M.ret [])))))) (retM (M.ret (.bl false))) nxM)
  (retM (andV (op2 eqD (callM F_plus (consV (getV 0) (consV (mkTup (consA (M.ret (.int 0)) (consA (M.ret (.int 1)) (M.ret [])))) (M.ret [])))) (getV 0)) (andV (op2 eqD (callM F_times (consV (getV 0) (consV (mkTup (consA (M.ret (.int 1)) (consA (M.ret (.int 1)) (M.ret [])))) (M.ret [])))) (getV 0)) (op2 eqD (callM F_times (consV (mkTup (consA (M.ret (.int 0)) (consA (M.ret (.int 1)) (M.ret [])))) (consV (getV 1) (M.ret [])))) (mkTup (consA (M.ret (.int 0)) (consA (M.ret (.int 1)) (M.ret []))))))))))))))
theorem b_l_algebra (T : Tx P K mg) {F_l_truth F_less F_minus F_plus F_times : FS} (G_l_truth : DFn P w K mg base T.cm 1 T.f_l_truth F_l_truth) (G_less : DFn P w K mg base T.cm 1 T.f_less F_less) (G_minus : DFn P w K mg base T.cm 5 T.f_minus F_minus) (G_plus : DFn P w K mg base T.cm 5 T.f_plus F_plus) (G_times : DFn P w K mg base T.cm 5 T.f_times F_times) : DBody P w K mg base T.cm N_l_algebra "_law_algebra" s_l_algebra T.f_l_algebra 5 (m_l_algebra F_l_truth F_less F_minus F_plus F_times) := by
  intro cdv A outer s H E hr tk
  have hu := DL.hu_of hr
  exact (dss_cons (ds_if (dt_cmp (ox_ne hu) (de_call G_minus tk hr (by omega) T.u_minus.g T.u_minus.kp (dv_cons (de_call G_plus tk hr (by omega) T.u_plus.g T.u_plus.kp (dv_cons (de_var 0) (dv_cons (de_var 1) dv_nil))) (dv_cons (de_var 1) dv_nil))) (de_var 0)) (dss_one (ds_ret de_bl)) dss_nil)
  (dss_cons (ds_if (dt_cmp (ox_ne hu) (de_call G_plus tk hr (by omega) T.u_plus.g T.u_plus.kp (dv_cons (de_call G_minus tk hr (by omega) T.u_minus.g T.u_minus.kp (dv_cons (de_var 0) (dv_cons (de_var 1) dv_nil))) (dv_cons (de_var 1) dv_nil))) (de_var 0)) (dss_one (ds_ret de_bl)) dss_nil)
  (dss_cons (ds_set sc_l_algebra.nd rfl (by first | exact Or.inl rfl | exact Or.inr rfl) (de_call G_plus tk hr (by omega) T.u_plus.g T.u_plus.kp (dv_cons (de_call G_times tk hr (by omega) T.u_times.g T.u_times.kp (dv_cons (de_var 0) (dv_cons (de_var 1) dv_nil))) (dv_cons (de_call G_times tk hr (by omega) T.u_times.g T.u_times.kp (dv_cons (de_var 0) (dv_cons (de_var 2) dv_nil))) dv_nil))))
  (dss_cons (ds_if (dt_cmp (ox_ne hu) (de_call G_times tk hr (by omega) T.u_times.g T.u_times.kp (dv_cons (de_var 0) (dv_cons (de_call G_plus tk hr (by omega) T.u_plus.g T.u_plus.kp (dv_cons (de_var 1) (dv_cons (de_var 2) dv_nil))) dv_nil))) (de_var 3)) (dss_one (ds_ret de_bl)) dss_nil)
  (dss_cons (ds_set sc_l_algebra.nd rfl (by first | exact Or.inl rfl | exact Or.inr rfl) (de_call G_less tk hr (by omega) T.u_less.g T.u_less.kp (dv_cons (de_call G_plus tk hr (by omega) T.u_plus.g T.u_plus.kp (dv_cons (de_var 0) (dv_cons (de_var 2) dv_nil))) (dv_cons (de_call G_plus tk hr (by omega) T.u_plus.g T.u_plus.kp (dv_cons (de_var 1) (dv_cons (de_var 2) dv_nil))) dv_nil))))
  (dss_cons (ds_if (dt_not (dt_val (de_call G_l_truth tk hr (by omega) T.u_l_truth.g T.u_l_truth.kp (dv_cons (de_var 4) (dv_cons (de_call G_less tk hr (by omega) T.u_less.g T.u_less.kp (dv_cons (de_var 0) (dv_cons (de_var 1) dv_nil))) dv_nil))))) (dss_one (ds_ret de_bl)) dss_nil)
  (dss_one (ds_ret (de_and (de_cmp (ox_eq hu) (de_call G_plus tk hr (by omega) T.u_plus.g T.u_plus.kp (dv_cons (de_var 0) (dv_cons (de_tup (da_cons de_int (da_cons de_int da_nil))) dv_nil))) (de_var 0)) (de_and (de_cmp (ox_eq hu) (de_call G_times tk hr (by omega) T.u_times.g T.u_times.kp (dv_cons (de_var 0) (dv_cons (de_tup (da_cons de_int (da_cons de_int da_nil))) dv_nil))) (de_var 0)) (de_one (de_cmp (ox_eq hu) (de_call G_times tk hr (by omega) T.u_times.g T.u_times.kp (dv_cons (de_tup (da_cons de_int (da_cons de_int da_nil))) (dv_cons (de_var 1) dv_nil))) (de_tup (da_cons de_int (da_cons de_int da_nil)))))))))))))))
abbrev N_law : List Str := ["_law_script", "_law_bag", "_law_size", "_law_rows", "_law_k", "_law_one", "_law_two", "_law_way"]
theorem sc_law : FnScope N_law ["_law_script"] (defScope s_law) := ⟨rfl, rfl, rfl, by decide +kernel, rfl, by decide +kernel, by decide +kernel⟩
def m_law (F_l_algebra : FS) (F_l_choice : FS) (F_l_drawn : FS) (F_l_made_right : FS) (F_l_names_right : FS) (F_l_pick : FS) (F_l_sums_right : FS) (F_l_two_right : FS) : M Fl := (seqM (setM 2 (callM F_l_choice (refV 1 (consV (mkLst (consA (M.ret (.int 0)) (consA (M.ret (.int 0)) (consA (M.ret (.int 1)) (consA (M.ret (.int 1)) (consA (M.ret (.int 2)) (consA (M.ret (.int 3)) (M.ret [])))))))) (M.ret [])))))
  (seqM (ownM 3 (compM [4] (itRange1 (consA (callM F_l_pick (refV 1 (consV (M.ret (.int 7)) (M.ret [])))) (M.ret []))) (gSet 4) (M.ret true) (callM F_l_drawn (refV 1 (consV (getV 2) (M.ret []))))))
  (seqM (setM 5 (callM F_l_drawn (refV 1 (consV (getV 2) (M.ret [])))))
  (seqM (setM 6 (callM F_l_drawn (refV 1 (consV (getV 2) (M.ret [])))))
  (seqM (setM 7 (callM F_l_pick (refV 1 (consV (M.ret (.int 6)) (M.ret [])))))
  (seqM (ifM (tstB (op2 eqD (getV 7) (M.ret (.int 0)))) (setM 6 (getV 5)) nxM)
  (seqM (ifM (tstB (op2 eqD (getV 7) (M.ret (.int 1)))) (setM 6 (mkTup (consA (op1 negD (op2 ixD (getV 5) (M.ret (.int 0)))) (consA (op2 ixD (getV 5) (M.ret (.int 1))) (M.ret []))))) nxM)
  (seqM (ifM (tstB (op2 eqD (getV 7) (M.ret (.int 2)))) (setM 6 (mkTup (consA (op2 ixD (getV 5) (M.ret (.int 0))) (consA (M.ret (.int 1)) (M.ret []))))) nxM)
  (seqM (ifM (orB (notB (tstB (callM F_l_sums_right (refV 1 (consV (getV 3) (M.ret [])))))) (notB (tstB (callM F_l_two_right (consV (getV 5) (consV (getV 6) (M.ret []))))))) (retM (M.ret (.bl false))) nxM)
  (seqM (ifM (andB (tstB (op2 ltD (getV 2) (M.ret (.int 3)))) (notB (tstB (callM F_l_algebra (consV (getV 5) (consV (getV 6) (consV (callM F_l_drawn (refV 1 (consV (getV 2) (M.ret [])))) (M.ret [])))))))) (retM (M.ret (.bl false))) nxM)
  (seqM (ifM (notB (tstB (callM F_l_made_right (refV 1 (consV (getV 2) (M.ret [])))))) (retM (M.ret (.bl false))) nxM)
  (retM (callM F_l_names_right (refV 1 (M.ret [])))))))))))))))
theorem b_law (T : Tx P K mg) {F_l_algebra F_l_choice F_l_drawn F_l_made_right F_l_names_right F_l_pick F_l_sums_right F_l_two_right : FS} (G_l_algebra : DFn P w K mg base T.cm 6 T.f_l_algebra F_l_algebra) (G_l_choice : DFn P w K mg base T.cm 2 T.f_l_choice F_l_choice) (G_l_drawn : DFn P w K mg base T.cm 3 T.f_l_drawn F_l_drawn) (G_l_made_right : DFn P w K mg base T.cm 8 T.f_l_made_right F_l_made_right) (G_l_names_right : DFn P w K mg base T.cm 9 T.f_l_names_right F_l_names_right) (G_l_pick : DFn P w K mg base T.cm 1 T.f_l_pick F_l_pick) (G_l_sums_right : DFn P w K mg base T.cm 8 T.f_l_sums_right F_l_sums_right) (G_l_two_right : DFn P w K mg base T.cm 8 T.f_l_two_right F_l_two_right) : DBodyN 1 P w K mg base T.cm N_law "law" s_law T.f_law 9 (m_law F_l_algebra F_l_choice F_l_drawn F_l_made_right F_l_names_right F_l_pick F_l_sums_right F_l_two_right) := by
  intro cdv A outer s H E W hr tk
  have hu := DL.hu_of hr
  exact (dss_cons (ds_set sc_law.nd rfl (by first | exact Or.inl rfl | exact Or.inr rfl) (de_call G_l_choice tk hr (by omega) T.u_l_choice.g T.u_l_choice.kp (dv_ref 1 (dv_cons (de_lst (da_cons de_int (da_cons de_int (da_cons de_int (da_cons de_int (da_cons de_int (da_cons de_int da_nil))))))) dv_nil))))
  (dss_cons (ds_setLc (own := [("_law_k", 4)]) rfl sc_law.nd rfl rfl rfl (di_range1 rfl T.n_range (da_cons (de_call G_l_pick tk hr (by omega) T.u_l_pick.g T.u_l_pick.kp (dv_ref 1 (dv_cons de_int dv_nil))) da_nil)) (blkOk_by (by kernel_rfl)) (by decide) (fun _ _ _ _ _ => (dg_name sc_law.nd rfl (by first | exact Or.inl rfl | exact Or.inr rfl))) (fun _ _ _ _ _ => dts_yes) (fun _ _ _ _ _ => (de_call G_l_drawn takes_none5 hr (by omega) T.u_l_drawn.g T.u_l_drawn.kp (dv_ref 1 (dv_cons (de_var 2) dv_nil)))))
  (dss_cons (ds_set sc_law.nd rfl (by first | exact Or.inl rfl | exact Or.inr rfl) (de_call G_l_drawn tk hr (by omega) T.u_l_drawn.g T.u_l_drawn.kp (dv_ref 1 (dv_cons (de_var 2) dv_nil))))
  (dss_cons (ds_set sc_law.nd rfl (by first | exact Or.inl rfl | exact Or.inr rfl) (de_call G_l_drawn tk hr (by omega) T.u_l_drawn.g T.u_l_drawn.kp (dv_ref 1 (dv_cons (de_var 2) dv_nil))))
  (dss_cons (ds_set sc_law.nd rfl (by first | exact Or.inl rfl | exact Or.inr rfl) (de_call G_l_pick tk hr (by omega) T.u_l_pick.g T.u_l_pick.kp (dv_ref 1 (dv_cons de_int dv_nil))))
  (dss_cons (ds_if (dt_cmp (ox_eq hu) (de_var 7) de_int) (dss_one (ds_set sc_law.nd rfl (by first | exact Or.inl rfl | exact Or.inr rfl) (de_var 5))) dss_nil)
  (dss_cons (ds_if (dt_cmp (ox_eq hu) (de_var 7) de_int) (dss_one (ds_set sc_law.nd rfl (by first | exact Or.inl rfl | exact Or.inr rfl) (de_tup (da_cons (de_un ux_neg (de_ix (de_var 5) de_int)) (da_cons (de_ix (de_var 5) de_int) da_nil))))) dss_nil)
  (dss_cons (ds_if (dt_cmp (ox_eq hu) (de_var 7) de_int) (dss_one (ds_set sc_law.nd rfl (by first | exact Or.inl rfl | exact Or.inr rfl) (de_tup (da_cons (de_ix (de_var 5) de_int) (da_cons de_int da_nil))))) dss_nil)
  (dss_cons (ds_if (dt_bool (dt_or (dt_not (dt_val (de_call G_l_sums_right tk hr (by omega) T.u_l_sums_right.g T.u_l_sums_right.kp (dv_ref 1 (dv_cons (de_var 3) dv_nil))))) (dt_or1 (dt_not (dt_val (de_call G_l_two_right tk hr (by omega) T.u_l_two_right.g T.u_l_two_right.kp (dv_cons (de_var 5) (dv_cons (de_var 6) dv_nil)))))))) (dss_one (ds_ret de_bl)) dss_nil)
  (dss_cons (ds_if (dt_bool (dt_and (dt_cmp (ox_lt hu) (de_var 2) de_int) (dt_and1 (dt_not (dt_val (de_call G_l_algebra tk hr (by omega) T.u_l_algebra.g T.u_l_algebra.kp (dv_cons (de_var 5) (dv_cons (de_var 6) (dv_cons (de_call G_l_drawn tk hr (by omega) T.u_l_drawn.g T.u_l_drawn.kp (dv_ref 1 (dv_cons (de_var 2) dv_nil))) dv_nil))))))))) (dss_one (ds_ret de_bl)) dss_nil)
  (dss_cons (ds_if (dt_not (dt_val (de_call G_l_made_right tk hr (by omega) T.u_l_made_right.g T.u_l_made_right.kp (dv_ref 1 (dv_cons (de_var 2) dv_nil))))) (dss_one (ds_ret de_bl)) dss_nil)
  (dss_one (ds_ret (de_call G_l_names_right tk hr (by omega) T.u_l_names_right.g T.u_l_names_right.kp (dv_ref 1 dv_nil)))))))))))))))
end
end K01
set_option maxRecDepth 100000
set_option maxHeartbeats 4000000
namespace K01
open PySem L2 DL PyProof.Rows
def mixF (ns : List Int) : Int := ns.foldl (fun m c => (m * 37 + c + 5) % 1000003) 11
def bag0 (lc : Addr) (ns : List Int) : Bag := ⟨lc, ns, 0, 0, mixF ns, 0⟩
/-- _law_bag_of(script) -/
def spBag (K : PySem.W.Frag) : Sp := fun vs H Q E => ∃ (a : Addr) (ns : List Int), vs = [.ref a] ∧ ns.length ≤ 63 ∧ SqL K H a (ns.map V.int) ∧
  ∀ (H' : Hp) (p lc : Addr), Same H H' → H p = none → H lc = none → p ≠ lc → H' p = some (.dK (bagKV (bag0 lc ns))) → H' lc = some (.lst (ns.map V.int)) → Q (.ref p) H'
abbrev N_l_bag_of : List Str := ["_law_script", "_law_mixed", "_law_cell"]
theorem sc_l_bag_of : FnScope N_l_bag_of ["_law_script"] (defScope s_l_bag_of) := ⟨rfl, rfl, rfl, by decide +kernel, rfl, by decide +kernel, by decide +kernel⟩
section
variable {P : Program} {w : World} {K : PySem.W.Frag} {mg : Str → Option Value} {base : Heap}
theorem g_bag_of (T : Tx P K mg) {fd : FuncData} (Fu : Fun K "_law_bag_of" "_law_bag_of" s_l_bag_of T.f_l_bag_of fd) : FnOk P w K mg base (L2.CX P w) 1 T.f_l_bag_of fd ["_law_script"] (spBag K) :=
  Fu.okX sc_l_bag_of (fun vs H Q E h => by obtain ⟨a, ns, rfl, _⟩ := h; rfl) fun cdv A outer s H vs Q E hr h => by
    have hu := DL.hu_of hr
    refine ⟨_, pss_cons (ps_set (i := 1) sc_l_bag_of.nd rfl (Or.inl rfl) pe_int) (pss_cons (ps_for hp_of rfl (pi_list (pv 0)) (pg_name (i := 2) sc_l_bag_of.nd rfl (Or.inl rfl))
      (pss_one (ps_set (i := 1) sc_l_bag_of.nd rfl (Or.inl rfl) (pe_op op_mod (pe_callTy call_int1 rfl T.n_int rfl (pa_cons (pe_op op_add (pe_op op_add (pe_op mul_any (pv 1) pe_int) (pv 2)) pe_int) pa_nil)) pe_int))))
      (pss_one (ps_ret (pe_disp (pps_cons pe_str (pe_lc (own := [("_law_cell", 2)]) rfl sc_l_bag_of.nd (pi_list (pv 0)) (blkOk_by (by kernel_rfl)) (fun _ _ _ _ _ => pg_name (i := 2) sc_l_bag_of.nd rfl (Or.inl rfl)) (fun _ _ _ _ _ => pts_nil) (fun _ _ _ _ _ => pv 2))
        (pps_cons pe_str pe_int (pps_cons pe_str pe_int (pps_cons pe_str (pv 1) (pps_cons pe_str pe_int pps_nil))))) rfl rfl (by decide) (by decide))))), ?_⟩
    obtain ⟨a, ns, rfl, hl, hS, k⟩ := h
    refine ⟨_, rfl, a, rfl, ⟨_, hS⟩, for_list (K := K) (a := a) (xs := ns.map V.int) (fun i σ H' => H' = H ∧ ∃ v, σ = [some (.ref a), some (.int (mixF (ns.take i))), v]) ⟨rfl, none, rfl⟩ (fun i σ H' _ h => by rw [h.1]; exact hS) ?_ ?_⟩
    · rintro i y σ H' hi ⟨rfl, v, rfl⟩
      obtain ⟨u, hu', rfl⟩ : ∃ u, ns[i]? = some u ∧ V.int u = y := by simpa using hi
      refine ⟨_, rfl, _, _, rfl, rfl, (by unfold DL.mulOk; simp), _, rfl, _, _, rfl, rfl, _, _, rfl, rfl, .inl ⟨_, rfl, _, _, rfl, rfl, (by decide : (0 : Int) < 1000003), rfl, some (.int u), ?_⟩⟩
      have e : mixF (ns.take (i + 1)) = (mixF (ns.take i) * 37 + u + 5) % 1000003 := by
        unfold mixF
        rw [List.take_add_one, hu', Option.toList_some, List.foldl_append]
        rfl
      rw [e]
      rfl
    · rintro σ H' ⟨rfl, v, rfl⟩
      have e : (ns.take (ns.map V.int).length) = ns := by simp
      rw [e]
      intro p hp
      have s1 : Same H' (upd H' p (.dK [])) := fun b o q => by rw [upd_ne (ne_of_none q hp)]; exact q
      refine ⟨.ref a, rfl, a, rfl, ⟨_, s1.seq hS⟩, fun D hD => ?_⟩
      have pD : D ≠ p := fun q => by rw [q, upd_same] at hD; cases hD
      have hD' : H' D = none := by rw [upd_ne pD] at hD; exact hD
      have s2 : ∀ u, Same H' (upd (upd H' p (.dK [])) D u) := fun u b o q => by rw [upd_ne (ne_of_none q hD'), upd_ne (ne_of_none q hp)]; exact q
      refine lc_list (K := K) (a := a) (xs := ns.map V.int) (fun i H2 => H2 = upd (upd H' p (.dK [])) D (.lst ((ns.take i).map V.int))) rfl (fun i H2 _ h => by rw [h]; exact (s2 _).seq hS) ?_ ?_
      · rintro i y H2 hi rfl
        obtain ⟨u, hu', rfl⟩ : ∃ u, ns[i]? = some u ∧ V.int u = y := by simpa using hi
        have hi63 : i < ns.length := (List.getElem?_eq_some_iff.mp hu').1
        refine ⟨rfl, ?_⟩
        unfold tYes
        dsimp only
        rw [if_pos rfl]
        refine ⟨_, rfl, _, upd_same, ?_, ?_⟩
        · have : sizeLine = 16777216 := by decide
          simp
          omega
        · rw [upd_upd, List.take_add_one, hu', Option.toList_some, List.map_append]
          rfl
      · rintro H2 rfl
        rw [e]
        refine ⟨_, rfl, ?_, [(.inr "cells", .ref D), (.inr "at", .int 0), (.inr "rest", .int 0), (.inr "mixed", .int (mixF ns)), (.inr "count", .int 0)], rfl, (by show 5 ≤ 15; decide), ?_⟩
        · rw [upd_ne (Ne.symm pD), upd_same]
        · refine k _ p D (fun b o q => ?_) hp hD' (Ne.symm pD) ?_ ?_
          · rw [upd_ne (ne_of_none q hp)]
            exact s2 _ b o q
          · rw [upd_same]
            rfl
          · rw [upd_ne pD, upd_same]
/-- law(script): True -/
def spLaw (K : PySem.W.Frag) : Sp := fun vs H Q E => ∃ (a : Addr) (ns : List Int), vs = [.ref a] ∧ ns.length ≤ 63 ∧ SqL K H a (ns.map V.int) ∧ ∀ H', Q (.bl true) H'
/-- the slots behind the first statement -/
def eLaw (b : Bag) : DL.En := .un :: .own none (.bag b) :: List.replicate (N_law.length - 2) .un
theorem rl_law {cm : CM} {a p lc : Addr} {ns : List Int} {H : Hp} (h1 : H p = some (.dK (bagKV (bag0 lc ns)))) (h2 : H lc = some (.lst (ns.map V.int))) (hne : p ≠ lc) {n : Nat} :
    Rl K cm (fun _ => none) (fun x => if x = lc then H lc else none) H (some (.ref a) :: some (.ref p) :: List.replicate n none) (.un :: .own none (.bag (bag0 lc ns)) :: List.replicate n .un) := by
  refine ⟨fun b o h => ?_, fun b o h => (nomatch h), fun b o h => (nomatch h), by simp, fun i s hs => ?_, fun i j t u o o' l h1 h2 h3 h4 => ?_⟩
  · split at h
    · rename_i q
      rw [q]
      exact h
    · cases h
  · match i, hs with
    | 0, hs => cases hs; trivial
    | 1, hs =>
      cases hs
      exact ⟨p, rfl, fun a z => (nomatch z), if_neg hne, rfl, h1, (if_pos rfl : (if lc = lc then H lc else none) = H lc).trans h2⟩
    | i + 2, hs =>
      have : (List.replicate n Sl.un)[i]? = some s := hs
      rw [List.getElem?_replicate] at this
      split at this
      · cases this; trivial
      · cases this
  · have only : ∀ {i : Nat} {t : Option Addr} {o : Ob}, (Sl.un :: Sl.own none (.bag (bag0 lc ns)) :: List.replicate n Sl.un)[i]? = some (.own t o) → i = 1 := fun {i t o} h => by
      match i, h with
      | 0, h => cases h
      | 1, h => rfl
      | i + 2, h =>
        have : (List.replicate n Sl.un)[i]? = some (Sl.own t o) := h
        rw [List.getElem?_replicate] at this
        split at this
        · cases this
        · cases this
    rw [only h1, only h2]
theorem law_ok (T : Tx P K mg) {k : Nat} (hk : 1 ≤ k) {m : M Fl} (hbody : DBodyN 1 P w K mg base T.cm N_law "law" s_law T.f_law k m)
    (hm : ∀ lc ns, ns.length ≤ 63 → ∃ e, m (eLaw (bag0 lc ns)) = .ok (.rt (.bl true)) e) {fd : FuncData} (Fu : Fun K "law" "law" s_law T.f_law fd) : FnOk P w K mg base (L2.CX P w) (k + 1) T.f_law fd ["_law_script"] (spLaw K) :=
  Fu.okX sc_law (fun vs H Q E h => by obtain ⟨a, ns, rfl, _⟩ := h; rfl) fun cdv A outer s H vs Q E hr h => by
    obtain ⟨fdb, Fub, bb⟩ := T.u_l_bag_of.ex
    refine ⟨_, pss_cons (ps_set (i := 1) sc_law.nd rfl (by first | exact Or.inl rfl | exact Or.inr rfl) (pe_call (E := fun _ _ _ => False) (g_bag_of T Fub) (hr.mono hk) rfl T.u_l_bag_of.g T.u_l_bag_of.kp bb .nil
      (fun _ _ _ _ _ _ _ ⟨_, _, _, _, _, _, _, _, _, _, _, _, z⟩ => z.elim) (pa_cons (pv 0) pa_nil))) (hbody cdv A outer s H E (fun _ _ _ _ => False) hr takes_none5), ?_⟩
    obtain ⟨a, ns, rfl, hl, hS, q⟩ := h
    refine ⟨_, rfl, a, ns, rfl, hl, hS, fun H' p lc s1 hp hlc hne h1 h2 => ?_⟩
    obtain ⟨e, he⟩ := hm lc ns hl
    refine ⟨eLaw (bag0 lc ns), _, _, rl_law (K := K) (cm := T.cm) (a := a) h1 h2 hne, ?_⟩
    rw [he]
    intro σ' H0' H2 s2 r2 v dv
    cases dv
    exact q H2
end
end K01
set_option maxRecDepth 100000
set_option maxHeartbeats 4000000
namespace K01
open PySem L2 DL PyProof.Rows
section
variable {P : Program} {w : World} {K : PySem.W.Frag} {mg : Str → Option Value} {base : Heap}
noncomputable def F_l_pick : FS := autoF 2 (m_l_pick) N_l_pick.length
theorem G_l_pick (T : Tx P K mg) : DFn P w K mg base T.cm 1 T.f_l_pick F_l_pick := dfna T.u_l_pick sc_l_pick (b_l_pick T)
noncomputable def F_l_choice : FS := autoF 2 (m_l_choice F_l_pick) N_l_choice.length
theorem G_l_choice (T : Tx P K mg) : DFn P w K mg base T.cm 2 T.f_l_choice F_l_choice := dfna T.u_l_choice sc_l_choice (b_l_choice T (G_l_pick T))
noncomputable def F_l_number_of : FS := autoF 2 (m_l_number_of F_l_pick) N_l_number_of.length
theorem G_l_number_of (T : Tx P K mg) : DFn P w K mg base T.cm 2 T.f_l_number_of F_l_number_of := dfna T.u_l_number_of sc_l_number_of (b_l_number_of T (G_l_pick T))
noncomputable def F_l_common : FS := autoF 2 (m_l_common) N_l_common.length
theorem G_l_common (T : Tx P K mg) : DFn P w K mg base T.cm 1 T.f_l_common F_l_common := dfna T.u_l_common sc_l_common (b_l_common T)
noncomputable def F_l_ratio : FS := autoF 2 (m_l_ratio F_l_common) N_l_ratio.length
theorem G_l_ratio (T : Tx P K mg) : DFn P w K mg base T.cm 2 T.f_l_ratio F_l_ratio := dfna T.u_l_ratio sc_l_ratio (b_l_ratio T (G_l_common T))
noncomputable def F_l_drawn : FS := autoF 2 (m_l_drawn F_l_number_of F_l_pick F_l_ratio) N_l_drawn.length
theorem G_l_drawn (T : Tx P K mg) : DFn P w K mg base T.cm 3 T.f_l_drawn F_l_drawn := dfna T.u_l_drawn sc_l_drawn (b_l_drawn T (G_l_number_of T) (G_l_pick T) (G_l_ratio T))
noncomputable def F_l_reserved : FS := autoF 0 (m_l_reserved) N_l_reserved.length
theorem G_l_reserved (T : Tx P K mg) : DFn P w K mg base T.cm 1 T.f_l_reserved F_l_reserved := dfna T.u_l_reserved sc_l_reserved (b_l_reserved T)
noncomputable def F_l_spelled : FS := autoF 2 (m_l_spelled F_l_pick) N_l_spelled.length
theorem G_l_spelled (T : Tx P K mg) : DFn P w K mg base T.cm 2 T.f_l_spelled F_l_spelled := dfna T.u_l_spelled sc_l_spelled (b_l_spelled T (G_l_pick T))
noncomputable def F_l_word_of : FS := autoF 1 (m_l_word_of F_l_choice F_l_pick F_l_reserved F_l_spelled) N_l_word_of.length
theorem G_l_word_of (T : Tx P K mg) : DFn P w K mg base T.cm 3 T.f_l_word_of F_l_word_of := dfna T.u_l_word_of sc_l_word_of (b_l_word_of T (G_l_choice T) (G_l_pick T) (G_l_reserved T) (G_l_spelled T))
noncomputable def F_l_odd_ratio : FS := autoF 1 (m_l_odd_ratio F_l_choice F_l_pick) N_l_odd_ratio.length
theorem G_l_odd_ratio (T : Tx P K mg) : DFn P w K mg base T.cm 3 T.f_l_odd_ratio F_l_odd_ratio := dfna T.u_l_odd_ratio sc_l_odd_ratio (b_l_odd_ratio T (G_l_choice T) (G_l_pick T))
noncomputable def F_l_integer : FS := autoF 1 (m_l_integer) N_l_integer.length
theorem G_l_integer (T : Tx P K mg) : DFn P w K mg base T.cm 1 T.f_l_integer F_l_integer := dfna T.u_l_integer sc_l_integer (b_l_integer T)
noncomputable def F_l_plain : FS := famF 1 (fun F => m_l_plain F_l_integer F) N_l_plain.length 6
theorem G_l_plain (T : Tx P K mg) : DFn P w K mg base T.cm 7 T.f_l_plain F_l_plain := dfna_fam (k := 1) T.u_l_plain sc_l_plain (fun j F hj G => b_l_plain T hj (G_l_integer T) G) 6
noncomputable def F_l_truth : FS := autoF 2 (m_l_truth) N_l_truth.length
theorem G_l_truth (T : Tx P K mg) : DFn P w K mg base T.cm 1 T.f_l_truth F_l_truth := dfna T.u_l_truth sc_l_truth (b_l_truth T)
noncomputable def F_is_name : FS := autoF 1 (m_is_name) N_is_name.length
theorem G_is_name (T : Tx P K mg) : DFn P w K mg base T.cm 1 T.f_is_name F_is_name := dfna T.u_is_name sc_is_name (b_is_name T)
noncomputable def F_l_name_fits : FS := autoF 1 (m_l_name_fits F_l_reserved) N_l_name_fits.length
theorem G_l_name_fits (T : Tx P K mg) : DFn P w K mg base T.cm 2 T.f_l_name_fits F_l_name_fits := dfna T.u_l_name_fits sc_l_name_fits (b_l_name_fits T (G_l_reserved T))
noncomputable def F_deep : FS := famF 1 (fun F => m_deep F) N_deep.length 6
theorem G_deep (T : Tx P K mg) : DFn P w K mg base T.cm 6 T.f_deep F_deep := dfna_fam (k := 0) T.u_deep sc_deep (fun j F hj G => b_deep T hj G) 6
noncomputable def F_common : FS := autoF 2 (m_common) N_common.length
theorem G_common (T : Tx P K mg) : DFn P w K mg base T.cm 1 T.f_common F_common := dfna T.u_common sc_common (b_common T)
noncomputable def F_is_integer : FS := autoF 3 (m_is_integer) N_is_integer.length
theorem G_is_integer (T : Tx P K mg) : DFn P w K mg base T.cm 1 T.f_is_integer F_is_integer := dfna T.u_is_integer sc_is_integer (b_is_integer T)
noncomputable def F_rate_of : FS := autoF 1 (m_rate_of F_common F_deep F_is_integer) N_rate_of.length
theorem G_rate_of (T : Tx P K mg) : DFn P w K mg base T.cm 7 T.f_rate_of F_rate_of := dfna T.u_rate_of sc_rate_of (b_rate_of T (G_common T) (G_deep T) (G_is_integer T))
noncomputable def F_is_ratio : FS := autoF 1 (m_is_ratio F_rate_of) N_is_ratio.length
theorem G_is_ratio (T : Tx P K mg) : DFn P w K mg base T.cm 8 T.f_is_ratio F_is_ratio := dfna T.u_is_ratio sc_is_ratio (b_is_ratio T (G_rate_of T))
noncomputable def F_l_ratio_fits : FS := autoF 1 (m_l_ratio_fits F_l_common F_l_integer) N_l_ratio_fits.length
theorem G_l_ratio_fits (T : Tx P K mg) : DFn P w K mg base T.cm 2 T.f_l_ratio_fits F_l_ratio_fits := dfna T.u_l_ratio_fits sc_l_ratio_fits (b_l_ratio_fits T (G_l_common T) (G_l_integer T))
noncomputable def F_l_lists : FS := famF 1 (fun F => m_l_lists F) N_l_lists.length 6
theorem G_l_lists (T : Tx P K mg) : DFn P w K mg base T.cm 6 T.f_l_lists F_l_lists := dfna_fam (k := 0) T.u_l_lists sc_l_lists (fun j F hj G => b_l_lists T hj G) 6
noncomputable def F_l_names_right : FS := autoF 1 (m_l_names_right F_l_lists F_l_name_fits F_l_odd_ratio F_l_plain F_l_ratio_fits F_l_reserved F_l_truth F_l_word_of F_is_name F_is_ratio) N_l_names_right.length
theorem G_l_names_right (T : Tx P K mg) : DFn P w K mg base T.cm 9 T.f_l_names_right F_l_names_right := dfna T.u_l_names_right sc_l_names_right (b_l_names_right T (G_l_lists T) (G_l_name_fits T) (G_l_odd_ratio T) (G_l_plain T) (G_l_ratio_fits T) (G_l_reserved T) (G_l_truth T) (G_l_word_of T) (G_is_name T) (G_is_ratio T))
noncomputable def F_l_one_in : FS := autoF 2 (m_l_one_in F_l_pick) N_l_one_in.length
theorem G_l_one_in (T : Tx P K mg) : DFn P w K mg base T.cm 2 T.f_l_one_in F_l_one_in := dfna T.u_l_one_in sc_l_one_in (b_l_one_in T (G_l_pick T))
noncomputable def F_ratio : FS := famO 2 (fun F => m_ratio F_common F) N_ratio.length 2
theorem G_ratio_0 (T : Tx P K mg) : DFn P w K mg base T.cm 3 T.f_ratio F_ratio := (dfna_famO (k := 1) T.u_ratio sc_ratio (by simp) (fun _ _ _ _ _ _ _ us its hu hi => match us, hu, its, hi with | [_, _], _, [_], _ => ⟨_, rfl, rfl⟩) (fun j F hj G => b_ratio T hj (G_common T) G) 2)
theorem G_ratio (T : Tx P K mg) : DFn P w K mg base T.cm 4 T.f_ratio F_ratio := dfn_mono (G_ratio_0 T) (by decide)
noncomputable def F_ratio_1 : FS := moreF (autoF 2 (m_ratio F_common F_ratio) N_ratio.length) [.int 1]
theorem G_ratio_1 (T : Tx P K mg) : DFn P w K mg base T.cm 4 T.f_ratio F_ratio_1 := dfna_dflt 1 0 T.u_ratio sc_ratio (by simp) (by decide) (fun _ _ _ _ _ _ _ us its hu hi => match us, hu, its, hi with | [_], _, [_], _ => ⟨_, rfl, rfl⟩) (fun H => .cons (.int 1) .nil) (b_ratio T (k := 3) (by decide) (G_common T) (G_ratio_0 T))
noncomputable def F_l_made : FS := autoF 2 (m_l_made F_ratio) N_l_made.length
theorem G_l_made (T : Tx P K mg) : DFn P w K mg base T.cm 5 T.f_l_made F_l_made := dfna T.u_l_made sc_l_made (b_l_made T (G_ratio T))
noncomputable def F_l_made_right : FS := autoF 2 (m_l_made_right F_ratio_1 F_l_made F_l_number_of F_l_one_in F_l_plain F_l_ratio) N_l_made_right.length
theorem G_l_made_right (T : Tx P K mg) : DFn P w K mg base T.cm 8 T.f_l_made_right F_l_made_right := dfna T.u_l_made_right sc_l_made_right (b_l_made_right T (G_ratio_1 T) (G_l_made T) (G_l_number_of T) (G_l_one_in T) (G_l_plain T) (G_l_ratio T))
noncomputable def F_plus : FS := starF (m_plus F_ratio) N_plus.length
theorem G_plus (T : Tx P K mg) : DFn P w K mg base T.cm 5 T.f_plus F_plus := dfna_star T.u_plus sc_plus (fun _ _ _ _ _ _ rest => match rest with | [] => rfl | _ :: _ => rfl) (b_plus T (G_ratio T))
noncomputable def F_l_sum : FS := autoF 1 (m_l_sum F_plus) N_l_sum.length
theorem G_l_sum (T : Tx P K mg) : DFn P w K mg base T.cm 6 T.f_l_sum F_l_sum := dfna T.u_l_sum sc_l_sum (b_l_sum T (G_plus T))
noncomputable def F_l_plus : FS := autoF 2 (m_l_plus F_l_ratio) N_l_plus.length
theorem G_l_plus (T : Tx P K mg) : DFn P w K mg base T.cm 3 T.f_l_plus F_l_plus := dfna T.u_l_plus sc_l_plus (b_l_plus T (G_l_ratio T))
noncomputable def F_l_tuples : FS := famF 1 (fun F => m_l_tuples F) N_l_tuples.length 6
theorem G_l_tuples (T : Tx P K mg) : DFn P w K mg base T.cm 6 T.f_l_tuples F_l_tuples := dfna_fam (k := 0) T.u_l_tuples sc_l_tuples (fun j F hj G => b_l_tuples T hj G) 6
noncomputable def F_l_shuffled : FS := autoF 2 (m_l_shuffled F_l_pick) N_l_shuffled.length
theorem G_l_shuffled (T : Tx P K mg) : DFn P w K mg base T.cm 2 T.f_l_shuffled F_l_shuffled := dfna T.u_l_shuffled sc_l_shuffled (b_l_shuffled T (G_l_pick T))
noncomputable def F_l_sums_right : FS := autoF 2 (m_l_sums_right F_l_one_in F_l_plain F_l_plus F_l_shuffled F_l_sum F_l_tuples) N_l_sums_right.length
theorem G_l_sums_right (T : Tx P K mg) : DFn P w K mg base T.cm 8 T.f_l_sums_right F_l_sums_right := dfna T.u_l_sums_right sc_l_sums_right (b_l_sums_right T (G_l_one_in T) (G_l_plain T) (G_l_plus T) (G_l_shuffled T) (G_l_sum T) (G_l_tuples T))
noncomputable def F_write_ratio : FS := autoF 1 (m_write_ratio) N_write_ratio.length
theorem G_write_ratio (T : Tx P K mg) : DFn P w K mg base T.cm 1 T.f_write_ratio F_write_ratio := dfna T.u_write_ratio sc_write_ratio (b_write_ratio T)
noncomputable def F_minus : FS := autoF 2 (m_minus F_ratio) N_minus.length
theorem G_minus (T : Tx P K mg) : DFn P w K mg base T.cm 5 T.f_minus F_minus := dfna T.u_minus sc_minus (b_minus T (G_ratio T))
noncomputable def F_times : FS := autoF 2 (m_times F_ratio) N_times.length
theorem G_times (T : Tx P K mg) : DFn P w K mg base T.cm 5 T.f_times F_times := dfna T.u_times sc_times (b_times T (G_ratio T))
noncomputable def F_less : FS := autoF 2 (m_less) N_less.length
theorem G_less (T : Tx P K mg) : DFn P w K mg base T.cm 1 T.f_less F_less := dfna T.u_less sc_less (b_less T)
noncomputable def F_l_text : FS := autoF 1 (m_l_text) N_l_text.length
theorem G_l_text (T : Tx P K mg) : DFn P w K mg base T.cm 1 T.f_l_text F_l_text := dfna T.u_l_text sc_l_text (b_l_text T)
noncomputable def F_l_two_right : FS := autoF 2 (m_l_two_right F_l_plain F_l_plus F_l_ratio F_l_text F_l_truth F_less F_minus F_times F_write_ratio) N_l_two_right.length
theorem G_l_two_right (T : Tx P K mg) : DFn P w K mg base T.cm 8 T.f_l_two_right F_l_two_right := dfna T.u_l_two_right sc_l_two_right (b_l_two_right T (G_l_plain T) (G_l_plus T) (G_l_ratio T) (G_l_text T) (G_l_truth T) (G_less T) (G_minus T) (G_times T) (G_write_ratio T))
noncomputable def F_l_algebra : FS := autoF 3 (m_l_algebra F_l_truth F_less F_minus F_plus F_times) N_l_algebra.length
theorem G_l_algebra (T : Tx P K mg) : DFn P w K mg base T.cm 6 T.f_l_algebra F_l_algebra := dfna T.u_l_algebra sc_l_algebra (b_l_algebra T (G_l_truth T) (G_less T) (G_minus T) (G_plus T) (G_times T))
noncomputable def M_law : M Fl := m_law F_l_algebra F_l_choice F_l_drawn F_l_made_right F_l_names_right F_l_pick F_l_sums_right F_l_two_right
/-- the law, when its body says True for every bag -/
theorem law_by (T : Tx P K mg) (hm : ∀ lc ns, ns.length ≤ 63 → ∃ e, M_law (eLaw (bag0 lc ns)) = .ok (.rt (.bl true)) e) {fd : FuncData} (Fu : Fun K "law" "law" s_law T.f_law fd) : FnOk P w K mg base (L2.CX P w) 10 T.f_law fd ["_law_script"] (spLaw K) :=
  law_ok T (by decide) (b_law T (G_l_algebra T) (G_l_choice T) (G_l_drawn T) (G_l_made_right T) (G_l_names_right T) (G_l_pick T) (G_l_sums_right T) (G_l_two_right T)) hm Fu
end
end K01
set_option maxRecDepth 100000
set_option maxHeartbeats 4000000
namespace K01
open PySem L2 DL PyProof.Rows
/-! ### Euclid -/
theorem wh_l : ∀ (k a b : Nat), b < k → whileN (tstB (op2 gtD (getV 1) (M.ret (.int 0)))) (parM 0 1 (consA (getV 1) (consA (op2 modD (bltM intD (consA (getV 0) (M.ret []))) (getV 1)) (M.ret [])))) k [.dat (.int a), .dat (.int b)] = .ok .nx [.dat (.int (Nat.gcd a b)), .dat (.int 0)]
  | 0, _, _, h => absurd h (Nat.not_lt_zero _)
  | k + 1, a, b, h => by
    by_cases hb : b = 0
    · subst hb
      rw [whileN_end (e1 := [.dat (.int a), .dat (.int 0)]) (by simp [DL.ini, DL.agsF, DL.fin, DL.outs, DL.seqM, M.bnd, M.ret, M.opt, DL.op2, DL.op1, DL.getV, DL.setM, DL.ifM, DL.tstB, DL.asB, DL.retM, DL.nxM, DL.bltM, DL.consA, DL.consV, DL.refV, DL.callM, DL.argG, DL.refs, DL.putR, DL.mkTup, DL.mkLst, DL.andV, DL.orV, DL.notV, DL.andB, DL.orB, DL.notB, DL.isiM, DL.addD, DL.subD, DL.mulD, DL.gtD, DL.ltD, DL.geD, DL.leD, DL.fdivD, DL.modD, DL.powD, DL.negD, DL.intD, DL.lenD, DL.absD, DL.dropM, DL.parM, DL.eqD_int, DL.neD_int, PySem.sizeLine])]
      simp
    · have hp : 0 < b := Nat.pos_of_ne_zero hb
      have hp' : (0 : Int) < b := by omega
      have ih := wh_l k b (a % b) (by have := Nat.mod_lt a hp; omega)
      have e : Nat.gcd b (a % b) = Nat.gcd a b := by rw [Nat.gcd_comm a b, Nat.gcd_rec b a, Nat.gcd_comm]
      rw [e, Int.natCast_emod] at ih
      rw [whileN_go (e1 := [.dat (.int a), .dat (.int b)]) (e2 := [.dat (.int b), .dat (.int (a % b))]) (by simp [DL.ini, DL.agsF, DL.fin, DL.outs, DL.seqM, M.bnd, M.ret, M.opt, DL.op2, DL.op1, DL.getV, DL.setM, DL.ifM, DL.tstB, DL.asB, DL.retM, DL.nxM, DL.bltM, DL.consA, DL.consV, DL.refV, DL.callM, DL.argG, DL.refs, DL.putR, DL.mkTup, DL.mkLst, DL.andV, DL.orV, DL.notV, DL.andB, DL.orB, DL.notB, DL.isiM, DL.addD, DL.subD, DL.mulD, DL.gtD, DL.ltD, DL.geD, DL.leD, DL.fdivD, DL.modD, DL.powD, DL.negD, DL.intD, DL.lenD, DL.absD, DL.dropM, DL.parM, DL.eqD_int, DL.neD_int, PySem.sizeLine, hp]) (by simp [DL.ini, DL.agsF, DL.fin, DL.outs, DL.seqM, M.bnd, M.ret, M.opt, DL.op2, DL.op1, DL.getV, DL.setM, DL.ifM, DL.tstB, DL.asB, DL.retM, DL.nxM, DL.bltM, DL.consA, DL.consV, DL.refV, DL.callM, DL.argG, DL.refs, DL.putR, DL.mkTup, DL.mkLst, DL.andV, DL.orV, DL.notV, DL.andB, DL.orB, DL.notB, DL.isiM, DL.addD, DL.subD, DL.mulD, DL.gtD, DL.ltD, DL.geD, DL.leD, DL.fdivD, DL.modD, DL.powD, DL.negD, DL.intD, DL.lenD, DL.absD, DL.dropM, DL.parM, DL.eqD_int, DL.neD_int, PySem.sizeLine, hp', hp]), ih]
theorem wh_p : ∀ (k a b : Nat), b < k → whileN (tstB (op2 gtD (getV 1) (M.ret (.int 0)))) (parM 0 1 (consA (getV 1) (consA (op2 modD (getV 0) (getV 1)) (M.ret [])))) k [.dat (.int a), .dat (.int b)] = .ok .nx [.dat (.int (Nat.gcd a b)), .dat (.int 0)]
  | 0, _, _, h => absurd h (Nat.not_lt_zero _)
  | k + 1, a, b, h => by
    by_cases hb : b = 0
    · subst hb
      rw [whileN_end (e1 := [.dat (.int a), .dat (.int 0)]) (by simp [DL.ini, DL.agsF, DL.fin, DL.outs, DL.seqM, M.bnd, M.ret, M.opt, DL.op2, DL.op1, DL.getV, DL.setM, DL.ifM, DL.tstB, DL.asB, DL.retM, DL.nxM, DL.bltM, DL.consA, DL.consV, DL.refV, DL.callM, DL.argG, DL.refs, DL.putR, DL.mkTup, DL.mkLst, DL.andV, DL.orV, DL.notV, DL.andB, DL.orB, DL.notB, DL.isiM, DL.addD, DL.subD, DL.mulD, DL.gtD, DL.ltD, DL.geD, DL.leD, DL.fdivD, DL.modD, DL.powD, DL.negD, DL.intD, DL.lenD, DL.absD, DL.dropM, DL.parM, DL.eqD_int, DL.neD_int, PySem.sizeLine])]
      simp
    · have hp : 0 < b := Nat.pos_of_ne_zero hb
      have hp' : (0 : Int) < b := by omega
      have ih := wh_p k b (a % b) (by have := Nat.mod_lt a hp; omega)
      have e : Nat.gcd b (a % b) = Nat.gcd a b := by rw [Nat.gcd_comm a b, Nat.gcd_rec b a, Nat.gcd_comm]
      rw [e, Int.natCast_emod] at ih
      rw [whileN_go (e1 := [.dat (.int a), .dat (.int b)]) (e2 := [.dat (.int b), .dat (.int (a % b))]) (by simp [DL.ini, DL.agsF, DL.fin, DL.outs, DL.seqM, M.bnd, M.ret, M.opt, DL.op2, DL.op1, DL.getV, DL.setM, DL.ifM, DL.tstB, DL.asB, DL.retM, DL.nxM, DL.bltM, DL.consA, DL.consV, DL.refV, DL.callM, DL.argG, DL.refs, DL.putR, DL.mkTup, DL.mkLst, DL.andV, DL.orV, DL.notV, DL.andB, DL.orB, DL.notB, DL.isiM, DL.addD, DL.subD, DL.mulD, DL.gtD, DL.ltD, DL.geD, DL.leD, DL.fdivD, DL.modD, DL.powD, DL.negD, DL.intD, DL.lenD, DL.absD, DL.dropM, DL.parM, DL.eqD_int, DL.neD_int, PySem.sizeLine, hp]) (by simp [DL.ini, DL.agsF, DL.fin, DL.outs, DL.seqM, M.bnd, M.ret, M.opt, DL.op2, DL.op1, DL.getV, DL.setM, DL.ifM, DL.tstB, DL.asB, DL.retM, DL.nxM, DL.bltM, DL.consA, DL.consV, DL.refV, DL.callM, DL.argG, DL.refs, DL.putR, DL.mkTup, DL.mkLst, DL.andV, DL.orV, DL.notV, DL.andB, DL.orB, DL.notB, DL.isiM, DL.addD, DL.subD, DL.mulD, DL.gtD, DL.ltD, DL.geD, DL.leD, DL.fdivD, DL.modD, DL.powD, DL.negD, DL.intD, DL.lenD, DL.absD, DL.dropM, DL.parM, DL.eqD_int, DL.neD_int, PySem.sizeLine, hp', hp]), ih]
theorem e_l_common (a b : Nat) : F_l_common [.d (.int a), .d (.int b)] = some (.ret (.int (Nat.gcd a b)), []) := autoF_eq rfl fun adr => by
  have h := wh_l (b + 1) a b (Nat.lt_succ_self b)
  simp [m_l_common, whileM, bnd1, DL.ini, DL.agsF, DL.seqM, DL.fin, DL.outs, DL.retM, M.bnd, DL.getV, M.ret, h]
theorem e_common (a b : Nat) : F_common [.d (.int a), .d (.int b)] = some (.ret (.int (Nat.gcd a b)), []) := autoF_eq rfl fun adr => by
  have h := wh_p (b + 1) a b (Nat.lt_succ_self b)
  simp [m_common, whileM, bnd1, DL.ini, DL.agsF, DL.seqM, DL.fin, DL.outs, DL.retM, M.bnd, DL.getV, M.ret, h]
/-! ### ratios -/
def rT (q : Rat) : D := .tup [.int q.num, .int q.den]
theorem abs_is (t : Int) : (if t < 0 then -t else t) = (t.natAbs : Int) := by split <;> omega
theorem gcd_log {t : Int} {u : Nat} (hu : 0 < u) (hs : u < 2 ^ 8000) : (Nat.gcd t.natAbs u).log2 < 9000 :=
  Nat.lt_trans (log2_small (Nat.gcd_pos_of_pos_right _ hu) (Nat.lt_of_le_of_lt (Nat.gcd_le_right _ hu) hs)) (by decide)
theorem rT_mk {t : Int} {u : Nat} (hu : 0 < u) : rT (mkRat t u) = .tup [.int (t / (Nat.gcd t.natAbs u : Nat)), .int ((u : Int) / (Nat.gcd t.natAbs u : Nat))] := by
  unfold rT
  rw [Rat.num_mkRat, Rat.den_mkRat, if_neg (by omega), if_neg (by omega), Nat.gcd_comm u]
  rfl
theorem e_l_ratio {t : Int} {u : Nat} (hu : 0 < u) (hs : u < 2 ^ 8000) : F_l_ratio [.d (.int t), .d (.int u)] = some (.ret (rT (mkRat t u)), []) := autoF_eq rfl fun adr => by
  have g := gcd_log (t := t) hu hs
  have gp : 0 < Nat.gcd t.natAbs u := Nat.gcd_pos_of_pos_right _ hu
  have gp' : (0 : Int) < (Nat.gcd t.natAbs u : Nat) := by omega
  rw [rT_mk hu]
  have c := e_l_common t.natAbs u
  simp [m_l_ratio, DL.ini, DL.agsF, DL.fin, DL.outs, DL.seqM, M.bnd, M.ret, M.opt, DL.op2, DL.op1, DL.getV, DL.setM, DL.ifM, DL.tstB, DL.asB, DL.retM, DL.nxM, DL.bltM, DL.consA, DL.consV, DL.refV, DL.callM, DL.argG, DL.refs, DL.putR, DL.mkTup, DL.mkLst, DL.andV, DL.orV, DL.notV, DL.andB, DL.orB, DL.notB, DL.isiM, DL.addD, DL.subD, DL.mulD, DL.gtD, DL.ltD, DL.geD, DL.leD, DL.fdivD, DL.modD, DL.powD, DL.negD, DL.intD, DL.lenD, DL.absD, DL.dropM, DL.parM, DL.eqD_int, DL.neD_int, PySem.sizeLine, abs_is, c, g, gp, gp']
theorem e_ratio_pos (d : Nat) {t : Int} {u : Nat} (hu : 0 < u) (hs : u < 2 ^ 8000) : famO 2 (fun F => m_ratio F_common F) N_ratio.length (d + 1) [.d (.int t), .d (.int u)] = some (.ret (rT (mkRat t u)), []) := famO_eq rfl fun adr => by
  have g := gcd_log (t := t) hu hs
  have gp : 0 < Nat.gcd t.natAbs u := Nat.gcd_pos_of_pos_right _ hu
  have gp' : (0 : Int) < (Nat.gcd t.natAbs u : Nat) := by omega
  rw [rT_mk hu]
  have c := e_common t.natAbs u
  have h1 : ¬ (u : Int) = 0 := by omega
  have h1n : ¬ u = 0 := by omega
  have h2 : ¬ (u : Int) < 0 := by omega
  simp [m_ratio, DL.ini, DL.agsF, DL.fin, DL.outs, DL.seqM, M.bnd, M.ret, M.opt, DL.op2, DL.op1, DL.getV, DL.setM, DL.ifM, DL.tstB, DL.asB, DL.retM, DL.nxM, DL.bltM, DL.consA, DL.consV, DL.refV, DL.callM, DL.argG, DL.refs, DL.putR, DL.mkTup, DL.mkLst, DL.andV, DL.orV, DL.notV, DL.andB, DL.orB, DL.notB, DL.isiM, DL.addD, DL.subD, DL.mulD, DL.gtD, DL.ltD, DL.geD, DL.leD, DL.fdivD, DL.modD, DL.powD, DL.negD, DL.intD, DL.lenD, DL.absD, DL.dropM, DL.parM, DL.eqD_int, DL.neD_int, PySem.sizeLine, abs_is, c, g, gp, gp', h1, h1n, h2]
theorem e_ratio {t : Int} {u : Nat} (hu : 0 < u) (hs : u < 2 ^ 8000) : F_ratio [.d (.int t), .d (.int u)] = some (.ret (rT (mkRat t u)), []) := e_ratio_pos 1 hu hs
theorem e_ratio_neg {t : Int} {u : Nat} (hu : 0 < u) (hs : u < 2 ^ 8000) : F_ratio [.d (.int t), .d (.int (-u))] = some (.ret (rT (mkRat (-t) u)), []) := famO_eq (d := 1) rfl fun adr => by
  have c := e_ratio_pos 0 (t := -t) hu hs
  have h1 : ¬ (u : Int) = 0 := by omega
  have h1n : ¬ u = 0 := by omega
  have h2 : -(u : Int) < 0 := by omega
  show DL.fin adr _ (m_ratio F_common (famO 2 (fun F => m_ratio F_common F) N_ratio.length 1) _) = _
  rw [Nat.zero_add] at c
  generalize famO 2 (fun F => m_ratio F_common F) N_ratio.length 1 = G at c ⊢
  simp [m_ratio, DL.ini, DL.agsF, DL.fin, DL.outs, DL.seqM, M.bnd, M.ret, M.opt, DL.op2, DL.op1, DL.getV, DL.setM, DL.ifM, DL.tstB, DL.asB, DL.retM, DL.nxM, DL.bltM, DL.consA, DL.consV, DL.refV, DL.callM, DL.argG, DL.refs, DL.putR, DL.mkTup, DL.mkLst, DL.andV, DL.orV, DL.notV, DL.andB, DL.orB, DL.notB, DL.isiM, DL.addD, DL.subD, DL.mulD, DL.gtD, DL.ltD, DL.geD, DL.leD, DL.fdivD, DL.modD, DL.powD, DL.negD, DL.intD, DL.lenD, DL.absD, DL.dropM, DL.parM, DL.eqD_int, DL.neD_int, PySem.sizeLine, c, h1, h1n, h2, hu]
theorem e_ratio_zero {t : Int} : F_ratio [.d (.int t), .d (.int 0)] = some (.exc 4 [("top", .int t), ("bottom", .int 0)], []) := famO_eq (d := 1) rfl fun adr => by
  show DL.fin adr _ (m_ratio F_common (famO 2 (fun F => m_ratio F_common F) N_ratio.length 1) _) = _
  generalize famO 2 (fun F => m_ratio F_common F) N_ratio.length 1 = G
  simp [m_ratio, DL.ini, DL.agsF, DL.fin, DL.outs, DL.seqM, M.bnd, M.ret, M.opt, DL.op2, DL.op1, DL.getV, DL.setM, DL.ifM, DL.tstB, DL.asB, DL.retM, DL.nxM, DL.bltM, DL.consA, DL.consV, DL.refV, DL.callM, DL.argG, DL.refs, DL.putR, DL.mkTup, DL.mkLst, DL.andV, DL.orV, DL.notV, DL.andB, DL.orB, DL.notB, DL.isiM, DL.addD, DL.subD, DL.mulD, DL.gtD, DL.ltD, DL.geD, DL.leD, DL.fdivD, DL.modD, DL.powD, DL.negD, DL.intD, DL.lenD, DL.absD, DL.dropM, DL.parM, DL.eqD_int, DL.neD_int, PySem.sizeLine, raiseM]
/-! ### bounds -/
structure Sm (k : Nat) (q : Rat) : Prop where
  n : q.num.natAbs < 2 ^ k
  d : q.den < 2 ^ k
theorem Sm.mono {j k : Nat} {q : Rat} (h : Sm j q) (hk : j ≤ k) : Sm k q := ⟨Nat.lt_of_lt_of_le h.n (Nat.pow_le_pow_right (by decide) hk), Nat.lt_of_lt_of_le h.d (Nat.pow_le_pow_right (by decide) hk)⟩
theorem sm_mk {k : Nat} {t : Int} {u : Nat} (hu : 0 < u) (ht : t.natAbs < 2 ^ k) (hk : u < 2 ^ k) : Sm k (mkRat t u) := by
  refine ⟨?_, ?_⟩
  · rw [Rat.num_mkRat, if_neg (by omega)]
    exact Nat.lt_of_le_of_lt (by rw [Int.natAbs_ediv_of_dvd (Int.ofNat_dvd_left.mpr (Nat.gcd_dvd_right _ _))]; exact Nat.div_le_self _ _) ht
  · rw [Rat.den_mkRat, if_neg (by omega)]
    exact Nat.lt_of_le_of_lt (Nat.div_le_self _ _) hk
theorem mulOk_bd {i j : Int} (hi : i.natAbs < 2 ^ 8000) (hj : j.natAbs < 2 ^ 8000) : mulOk i j = true := by
  have a := log2_lt (by decide) hi
  have b := log2_lt (by decide) hj
  unfold mulOk
  rw [Bool.or_eq_true]
  exact .inr (decide_eq_true (by omega))
theorem bd_mul {i j : Int} {a b : Nat} (hi : i.natAbs < 2 ^ a) (hj : j.natAbs < 2 ^ b) : (i * j).natAbs < 2 ^ (a + b) := by
  rw [Int.natAbs_mul, Nat.pow_add]
  exact Nat.mul_lt_mul'' hi hj
theorem bd_add {i j : Int} {a : Nat} (hi : i.natAbs < 2 ^ a) (hj : j.natAbs < 2 ^ a) : (i + j).natAbs < 2 ^ (a + 1) := by
  rw [Nat.pow_succ]
  omega
theorem bd_up {i : Int} {a b : Nat} (hi : i.natAbs < 2 ^ a) (h : a ≤ b) : i.natAbs < 2 ^ b := Nat.lt_of_lt_of_le hi (Nat.pow_le_pow_right (by decide) h)
/-! ### the defs over ratios -/
/-- d tells q, as a tuple or a list -/
structure IsR (d : D) (q : Rat) : Prop where
  a : ixD d (.int 0) = some (.int q.num)
  b : ixD d (.int 1) = some (.int q.den)
theorem isR_t (q : Rat) : IsR (rT q) q := ⟨rfl, rfl⟩
theorem isR_l (q : Rat) : IsR (.lst [.int q.num, .int q.den]) q := ⟨rfl, rfl⟩
theorem mk_sub (p q : Rat) : mkRat (p.num * q.den - q.num * p.den) (p.den * q.den) = p - q := by
  rw [Rat.sub_def, Rat.normalize_eq_mkRat]
theorem mk_add (p q : Rat) : mkRat (p.num * q.den + q.num * p.den) (p.den * q.den) = p + q := by
  rw [Rat.add_def, Rat.normalize_eq_mkRat]
theorem mk_mul (p q : Rat) : mkRat (p.num * q.num) (p.den * q.den) = p * q := by
  rw [Rat.mul_def, Rat.normalize_eq_mkRat]
theorem den_pos (q : Rat) : 0 < q.den := Nat.pos_of_ne_zero q.den_nz
section
variable {k : Nat} {p q : Rat} {d e : D}
theorem bd8 (hk : k ≤ 3900) {i : Int} (h : i.natAbs < 2 ^ k) : i.natAbs < 2 ^ 8000 := bd_up h (by omega)
theorem den_mul8 (hk : k ≤ 3900) (h1 : p.den < 2 ^ k) (h2 : q.den < 2 ^ k) : p.den * q.den < 2 ^ 8000 := by
  have := bd_up (b := 8000) (bd_mul (i := p.den) (j := q.den) (by simpa using h1) (by simpa using h2)) (by omega)
  simpa [Int.natAbs_mul] using this
theorem e_minus (hk : k ≤ 3900) (hp : Sm k p) (hq : Sm k q) (a : IsR d p) (b : IsR e q) : F_minus [.d d, .d e] = some (.ret (rT (p - q)), []) := autoF_eq rfl fun adr => by
  have r := e_ratio (t := p.num * q.den - q.num * p.den) (Nat.mul_pos (den_pos p) (den_pos q)) (den_mul8 hk hp.d hq.d)
  rw [mk_sub, Int.natCast_mul] at r
  have m1 := mulOk_bd (bd8 hk hp.n) (bd8 hk (i := q.den) (by simpa using hq.d))
  have m2 := mulOk_bd (bd8 hk hq.n) (bd8 hk (i := p.den) (by simpa using hp.d))
  have m3 := mulOk_bd (bd8 hk (i := p.den) (by simpa using hp.d)) (bd8 hk (i := q.den) (by simpa using hq.d))
  simp [m_minus, DL.ini, DL.agsF, DL.fin, DL.outs, DL.seqM, M.bnd, M.ret, M.opt, DL.op2, DL.op1, DL.getV, DL.setM, DL.ifM, DL.tstB, DL.asB, DL.retM, DL.nxM, DL.bltM, DL.consA, DL.consV, DL.refV, DL.callM, DL.argG, DL.refs, DL.putR, DL.mkTup, DL.mkLst, DL.andV, DL.orV, DL.notV, DL.andB, DL.orB, DL.notB, DL.isiM, DL.addD, DL.subD, DL.mulD, DL.gtD, DL.ltD, DL.geD, DL.leD, DL.fdivD, DL.modD, DL.powD, DL.negD, DL.intD, DL.lenD, DL.absD, DL.dropM, DL.parM, DL.eqD_int, DL.neD_int, PySem.sizeLine, a.a, a.b, b.a, b.b, m1, m2, m3, r]
theorem e_times (hk : k ≤ 3900) (hp : Sm k p) (hq : Sm k q) (a : IsR d p) (b : IsR e q) : F_times [.d d, .d e] = some (.ret (rT (p * q)), []) := autoF_eq rfl fun adr => by
  have r := e_ratio (t := p.num * q.num) (Nat.mul_pos (den_pos p) (den_pos q)) (den_mul8 hk hp.d hq.d)
  rw [mk_mul, Int.natCast_mul] at r
  have m1 := mulOk_bd (bd8 hk hp.n) (bd8 hk hq.n)
  have m3 := mulOk_bd (bd8 hk (i := p.den) (by simpa using hp.d)) (bd8 hk (i := q.den) (by simpa using hq.d))
  simp [m_times, DL.ini, DL.agsF, DL.fin, DL.outs, DL.seqM, M.bnd, M.ret, M.opt, DL.op2, DL.op1, DL.getV, DL.setM, DL.ifM, DL.tstB, DL.asB, DL.retM, DL.nxM, DL.bltM, DL.consA, DL.consV, DL.refV, DL.callM, DL.argG, DL.refs, DL.putR, DL.mkTup, DL.mkLst, DL.andV, DL.orV, DL.notV, DL.andB, DL.orB, DL.notB, DL.isiM, DL.addD, DL.subD, DL.mulD, DL.gtD, DL.ltD, DL.geD, DL.leD, DL.fdivD, DL.modD, DL.powD, DL.negD, DL.intD, DL.lenD, DL.absD, DL.dropM, DL.parM, DL.eqD_int, DL.neD_int, PySem.sizeLine, a.a, a.b, b.a, b.b, m1, m3, r]
theorem e_less (hk : k ≤ 3900) (hp : Sm k p) (hq : Sm k q) (a : IsR d p) (b : IsR e q) : F_less [.d d, .d e] = some (.ret (.bl (decide (p < q))), []) := autoF_eq rfl fun adr => by
  have m1 := mulOk_bd (bd8 hk hp.n) (bd8 hk (i := q.den) (by simpa using hq.d))
  have m2 := mulOk_bd (bd8 hk hq.n) (bd8 hk (i := p.den) (by simpa using hp.d))
  simp [m_less, DL.ini, DL.agsF, DL.fin, DL.outs, DL.seqM, M.bnd, M.ret, M.opt, DL.op2, DL.op1, DL.getV, DL.setM, DL.ifM, DL.tstB, DL.asB, DL.retM, DL.nxM, DL.bltM, DL.consA, DL.consV, DL.refV, DL.callM, DL.argG, DL.refs, DL.putR, DL.mkTup, DL.mkLst, DL.andV, DL.orV, DL.notV, DL.andB, DL.orB, DL.notB, DL.isiM, DL.addD, DL.subD, DL.mulD, DL.gtD, DL.ltD, DL.geD, DL.leD, DL.fdivD, DL.modD, DL.powD, DL.negD, DL.intD, DL.lenD, DL.absD, DL.dropM, DL.parM, DL.eqD_int, DL.neD_int, PySem.sizeLine, a.a, a.b, b.a, b.b, m1, m2, Rat.lt_iff]
theorem e_l_plus (hk : k ≤ 3900) (hp : Sm k p) (hq : Sm k q) (a : IsR d p) (b : IsR e q) : F_l_plus [.d d, .d e] = some (.ret (rT (p + q)), []) := autoF_eq rfl fun adr => by
  have r := e_l_ratio (t := p.num * q.den + q.num * p.den) (Nat.mul_pos (den_pos p) (den_pos q)) (den_mul8 hk hp.d hq.d)
  rw [mk_add, Int.natCast_mul] at r
  have m1 := mulOk_bd (bd8 hk hp.n) (bd8 hk (i := q.den) (by simpa using hq.d))
  have m2 := mulOk_bd (bd8 hk hq.n) (bd8 hk (i := p.den) (by simpa using hp.d))
  have m3 := mulOk_bd (bd8 hk (i := p.den) (by simpa using hp.d)) (bd8 hk (i := q.den) (by simpa using hq.d))
  simp [m_l_plus, DL.ini, DL.agsF, DL.fin, DL.outs, DL.seqM, M.bnd, M.ret, M.opt, DL.op2, DL.op1, DL.getV, DL.setM, DL.ifM, DL.tstB, DL.asB, DL.retM, DL.nxM, DL.bltM, DL.consA, DL.consV, DL.refV, DL.callM, DL.argG, DL.refs, DL.putR, DL.mkTup, DL.mkLst, DL.andV, DL.orV, DL.notV, DL.andB, DL.orB, DL.notB, DL.isiM, DL.addD, DL.subD, DL.mulD, DL.gtD, DL.ltD, DL.geD, DL.leD, DL.fdivD, DL.modD, DL.powD, DL.negD, DL.intD, DL.lenD, DL.absD, DL.dropM, DL.parM, DL.eqD_int, DL.neD_int, PySem.sizeLine, a.a, a.b, b.a, b.b, m1, m2, m3, r]
end
/-! ### sums -/
def sumR (l : List (D × Rat)) (q : Rat) : Rat := l.foldl (fun a x => a + x.2) q
abbrev plusB : M Fl := parM 1 2 (consA (op2 addD (op2 mulD (getV 1) (op2 ixD (getV 3) (M.ret (.int 1)))) (op2 mulD (op2 ixD (getV 3) (M.ret (.int 0))) (getV 2))) (consA (op2 mulD (getV 2) (op2 ixD (getV 3) (M.ret (.int 1)))) (M.ret [])))
theorem plus_turn {x d : D} {s3 : Sl} {T : Int} {B c k : Nat} {q : Rat} (hd : IsR d q) (hq : Sm c q) (hT : T.natAbs < 2 ^ k) (hB : B < 2 ^ k) (hk : k + c ≤ 7900) :
    plusB [.dat x, .dat (.int T), .dat (.int B), .dat d] = .ok .nx [.dat x, .dat (.int (T * q.den + q.num * B)), .dat (.int ((B * q.den : Nat) : Int)), .dat d] := by
  have u1 : q.den < 2 ^ 8000 := Nat.lt_of_lt_of_le hq.d (Nat.pow_le_pow_right (by decide) (by omega))
  have m1 := mulOk_bd (bd_up (b := 8000) hT (by omega)) (by simpa using u1 : (q.den : Int).natAbs < 2 ^ 8000)
  have m2 := mulOk_bd (bd_up (b := 8000) hq.n (by omega)) (bd_up (b := 8000) (by simpa using hB : (B : Int).natAbs < 2 ^ k) (by omega))
  have m3 := mulOk_bd (bd_up (b := 8000) (by simpa using hB : (B : Int).natAbs < 2 ^ k) (by omega)) (by simpa using u1 : (q.den : Int).natAbs < 2 ^ 8000)
  simp [DL.ini, DL.agsF, DL.fin, DL.outs, DL.seqM, M.bnd, M.ret, M.opt, DL.op2, DL.op1, DL.getV, DL.setM, DL.ifM, DL.tstB, DL.asB, DL.retM, DL.nxM, DL.bltM, DL.consA, DL.consV, DL.refV, DL.callM, DL.argG, DL.refs, DL.putR, DL.mkTup, DL.mkLst, DL.andV, DL.orV, DL.notV, DL.andB, DL.orB, DL.notB, DL.isiM, DL.addD, DL.subD, DL.mulD, DL.gtD, DL.ltD, DL.geD, DL.leD, DL.fdivD, DL.modD, DL.powD, DL.negD, DL.intD, DL.lenD, DL.absD, DL.dropM, DL.parM, DL.eqD_int, DL.neD_int, PySem.sizeLine, hd.a, hd.b, m1, m2, m3]
theorem plus_loop {x : D} {c : Nat} : ∀ (l : List (D × Rat)) (s3 : Sl) (T : Int) (B k : Nat), (∀ y ∈ l, IsR y.1 y.2 ∧ Sm c y.2) → 0 < B → T.natAbs < 2 ^ k → B < 2 ^ k → k + (c + 1) * l.length ≤ 7800 →
    ∃ (s3' : Sl) (T' : Int) (B' : Nat), forL (gSet 3) plusB (l.map (·.1)) [.dat x, .dat (.int T), .dat (.int B), s3] = .ok .nx [.dat x, .dat (.int T'), .dat (.int (B' : Int)), s3'] ∧ 0 < B' ∧ B' < 2 ^ 7800 ∧ T'.natAbs < 2 ^ (k + (c + 1) * l.length) ∧ B' < 2 ^ (k + (c + 1) * l.length) ∧ mkRat T' B' = sumR l (mkRat T B)
  | [], s3, T, B, k, _, hB, h1, h2, h3 => ⟨s3, T, B, rfl, hB, Nat.lt_of_lt_of_le h2 (Nat.pow_le_pow_right (by decide) (by simpa using h3)), by simpa using h1, by simpa using h2, rfl⟩
  | y :: l, s3, T, B, k, hl, hB, h1, h2, h3 => by
    obtain ⟨hy, hs⟩ := hl y List.mem_cons_self
    have hlen : (c + 1) * (y :: l).length = (c + 1) * l.length + (c + 1) := by rw [List.length_cons, Nat.mul_add]; omega
    have t := plus_turn (x := x) (s3 := s3) hy hs h1 h2 (by omega)
    have dp := den_pos y.2
    have bT : (T * y.2.den + y.2.num * B).natAbs < 2 ^ (k + c + 1) := bd_add (bd_mul h1 (by simpa using hs.d)) (by rw [Int.mul_comm]; exact bd_mul (by simpa using h2) hs.n)
    have bB : B * y.2.den < 2 ^ (k + c + 1) := by
      have := bd_up (b := k + c + 1) (bd_mul (i := B) (j := y.2.den) (by simpa using h2) (by simpa using hs.d)) (by omega)
      simpa [Int.natAbs_mul] using this
    obtain ⟨s3', T', B', e1, e2, e3, e4, e5, e6⟩ := plus_loop l (.dat y.1) _ (B * y.2.den) (k + c + 1) (fun z hz => hl z (List.mem_cons_of_mem _ hz)) (Nat.mul_pos hB dp) bT bB (by omega)
    refine ⟨s3', T', B', ?_, e2, e3, by rw [hlen]; exact (by rw [show k + ((c + 1) * l.length + (c + 1)) = k + c + 1 + (c + 1) * l.length by omega]; exact e4), by rw [hlen]; exact (by rw [show k + ((c + 1) * l.length + (c + 1)) = k + c + 1 + (c + 1) * l.length by omega]; exact e5), ?_⟩
    · show (match gSet 3 y.1 [.dat x, .dat (.int T), .dat (.int B), s3] with
        | none => R.no
        | some e1 => match plusB e1 with
          | .ok .nx e2 => forL (gSet 3) plusB (l.map fun (z : D × Rat) => z.1) e2
          | .ok .ct e2 => forL (gSet 3) plusB (l.map fun (z : D × Rat) => z.1) e2
          | .ok .bk e2 => .ok .nx e2
          | r => r) = _
      have g : gSet 3 y.1 [.dat x, .dat (.int T), .dat (.int B), s3] = some [.dat x, .dat (.int T), .dat (.int B), .dat y.1] := rfl
      rw [g]
      dsimp only
      rw [t]
      exact e1
    · rw [e6]
      show sumR l _ = sumR l (mkRat T B + y.2)
      congr 1
      conv => rhs; rw [← Rat.mkRat_self y.2]
      rw [Rat.mkRat_add_mkRat _ _ (by omega) (by omega)]
theorem datas_map : ∀ (l : List (D × Rat)), datas (l.map fun y => Ag.d y.1) = some (l.map fun (z : D × Rat) => z.1)
  | [] => rfl
  | y :: l => by
    show (datas (l.map fun y => Ag.d y.1)).map (y.1 :: ·) = _
    rw [datas_map l]
    rfl
theorem e_plus {c : Nat} {l : List (D × Rat)} (hl : ∀ y ∈ l, IsR y.1 y.2 ∧ Sm c y.2) (hz : l.length ≤ 100) (hc : 1 + (c + 1) * l.length ≤ 7800) : F_plus (l.map fun y => Ag.d y.1) = some (.ret (rT (sumR l 0)), []) := by
  unfold F_plus starF
  rw [datas_map]
  dsimp only
  rw [if_pos (by rw [List.length_map]; exact Nat.le_trans hz (by decide))]
  refine autoF_eq rfl fun adr => ?_
  obtain ⟨s3', T', B', e1, e2, e3, e4, e5, e6⟩ := plus_loop (x := .tup (l.map fun (z : D × Rat) => z.1)) l .un 0 1 1 hl (by decide) (by decide) (by decide) hc
  have r := e_ratio (t := T') e2 (Nat.lt_of_lt_of_le e3 (Nat.pow_le_pow_right (by decide) (by decide)))
  rw [e6] at r
  have z : mkRat 0 1 = 0 := by rfl
  rw [z] at r
  unfold m_plus
  unfold plusB at e1
  generalize hB : (parM 1 2 (consA (op2 addD (op2 mulD (getV 1) (op2 ixD (getV 3) (M.ret (.int 1)))) (op2 mulD (op2 ixD (getV 3) (M.ret (.int 0))) (getV 2))) (consA (op2 mulD (getV 2) (op2 ixD (getV 3) (M.ret (.int 1)))) (M.ret [])))) = B at e1 ⊢
  have e1' : forL (gSet 3) B (l.map fun (z : D × Rat) => z.1) [.dat (.tup (l.map fun (z : D × Rat) => z.1)), .dat (.int 0), .dat (.int 1), .un] = .ok .nx [.dat (.tup (l.map fun (z : D × Rat) => z.1)), .dat (.int T'), .dat (.int (B' : Int)), s3'] := e1
  simp [DL.ini, DL.agsF, DL.fin, DL.outs, DL.seqM, M.bnd, M.ret, M.opt, DL.op2, DL.op1, DL.getV, DL.setM, DL.ifM, DL.tstB, DL.asB, DL.retM, DL.nxM, DL.bltM, DL.consA, DL.consV, DL.refV, DL.callM, DL.argG, DL.refs, DL.putR, DL.mkTup, DL.mkLst, DL.andV, DL.orV, DL.notV, DL.andB, DL.orB, DL.notB, DL.isiM, DL.addD, DL.subD, DL.mulD, DL.gtD, DL.ltD, DL.geD, DL.leD, DL.fdivD, DL.modD, DL.powD, DL.negD, DL.intD, DL.lenD, DL.absD, DL.dropM, DL.parM, DL.eqD_int, DL.neD_int, PySem.sizeLine, asgM, gTupD, gsCons, gsNil, gSet, DL.forM, itSeq, seqOf, e1', r]

/-! ### what is plain -/
theorem e_l_integer_int {i : Int} : F_l_integer [.d (.int i)] = some (.ret (.bl true), []) := autoF_eq rfl fun adr => by
  simp [m_l_integer, DL.ini, DL.agsF, DL.fin, DL.outs, DL.seqM, M.bnd, M.ret, M.opt, DL.op2, DL.op1, DL.getV, DL.setM, DL.ifM, DL.tstB, DL.asB, DL.retM, DL.nxM, DL.bltM, DL.consA, DL.consV, DL.refV, DL.callM, DL.argG, DL.refs, DL.putR, DL.mkTup, DL.mkLst, DL.andV, DL.orV, DL.notV, DL.andB, DL.orB, DL.notB, DL.isiM, DL.addD, DL.subD, DL.mulD, DL.gtD, DL.ltD, DL.geD, DL.leD, DL.fdivD, DL.modD, DL.powD, DL.negD, DL.intD, DL.lenD, DL.absD, DL.dropM, DL.parM, DL.eqD_int, DL.neD_int, PySem.sizeLine, DL.kit_int_int, DL.kit_int_bool, DL.kit_int_str, DL.kit_int_tuple, DL.kit_int_list, DL.kit_bool_int, DL.kit_bool_bool, DL.kit_bool_str, DL.kit_bool_tuple, DL.kit_bool_list, DL.kit_str_int, DL.kit_str_bool, DL.kit_str_str, DL.kit_str_tuple, DL.kit_str_list, DL.kit_tuple_int, DL.kit_tuple_bool, DL.kit_tuple_str, DL.kit_tuple_tuple, DL.kit_tuple_list, DL.kit_list_int, DL.kit_list_bool, DL.kit_list_str, DL.kit_list_tuple, DL.kit_list_list, DL.kit_none_int, DL.kit_none_bool, DL.kit_none_str, DL.kit_none_tuple, DL.kit_none_list, DL.D.ty]
theorem e_l_integer_bl {i : Bool} : F_l_integer [.d (.bl i)] = some (.ret (.bl false), []) := autoF_eq rfl fun adr => by
  simp [m_l_integer, DL.ini, DL.agsF, DL.fin, DL.outs, DL.seqM, M.bnd, M.ret, M.opt, DL.op2, DL.op1, DL.getV, DL.setM, DL.ifM, DL.tstB, DL.asB, DL.retM, DL.nxM, DL.bltM, DL.consA, DL.consV, DL.refV, DL.callM, DL.argG, DL.refs, DL.putR, DL.mkTup, DL.mkLst, DL.andV, DL.orV, DL.notV, DL.andB, DL.orB, DL.notB, DL.isiM, DL.addD, DL.subD, DL.mulD, DL.gtD, DL.ltD, DL.geD, DL.leD, DL.fdivD, DL.modD, DL.powD, DL.negD, DL.intD, DL.lenD, DL.absD, DL.dropM, DL.parM, DL.eqD_int, DL.neD_int, PySem.sizeLine, DL.kit_int_int, DL.kit_int_bool, DL.kit_int_str, DL.kit_int_tuple, DL.kit_int_list, DL.kit_bool_int, DL.kit_bool_bool, DL.kit_bool_str, DL.kit_bool_tuple, DL.kit_bool_list, DL.kit_str_int, DL.kit_str_bool, DL.kit_str_str, DL.kit_str_tuple, DL.kit_str_list, DL.kit_tuple_int, DL.kit_tuple_bool, DL.kit_tuple_str, DL.kit_tuple_tuple, DL.kit_tuple_list, DL.kit_list_int, DL.kit_list_bool, DL.kit_list_str, DL.kit_list_tuple, DL.kit_list_list, DL.kit_none_int, DL.kit_none_bool, DL.kit_none_str, DL.kit_none_tuple, DL.kit_none_list, DL.D.ty]
theorem e_l_integer_str {i : Str} : F_l_integer [.d (.str i)] = some (.ret (.bl false), []) := autoF_eq rfl fun adr => by
  simp [m_l_integer, DL.ini, DL.agsF, DL.fin, DL.outs, DL.seqM, M.bnd, M.ret, M.opt, DL.op2, DL.op1, DL.getV, DL.setM, DL.ifM, DL.tstB, DL.asB, DL.retM, DL.nxM, DL.bltM, DL.consA, DL.consV, DL.refV, DL.callM, DL.argG, DL.refs, DL.putR, DL.mkTup, DL.mkLst, DL.andV, DL.orV, DL.notV, DL.andB, DL.orB, DL.notB, DL.isiM, DL.addD, DL.subD, DL.mulD, DL.gtD, DL.ltD, DL.geD, DL.leD, DL.fdivD, DL.modD, DL.powD, DL.negD, DL.intD, DL.lenD, DL.absD, DL.dropM, DL.parM, DL.eqD_int, DL.neD_int, PySem.sizeLine, DL.kit_int_int, DL.kit_int_bool, DL.kit_int_str, DL.kit_int_tuple, DL.kit_int_list, DL.kit_bool_int, DL.kit_bool_bool, DL.kit_bool_str, DL.kit_bool_tuple, DL.kit_bool_list, DL.kit_str_int, DL.kit_str_bool, DL.kit_str_str, DL.kit_str_tuple, DL.kit_str_list, DL.kit_tuple_int, DL.kit_tuple_bool, DL.kit_tuple_str, DL.kit_tuple_tuple, DL.kit_tuple_list, DL.kit_list_int, DL.kit_list_bool, DL.kit_list_str, DL.kit_list_tuple, DL.kit_list_list, DL.kit_none_int, DL.kit_none_bool, DL.kit_none_str, DL.kit_none_tuple, DL.kit_none_list, DL.D.ty]
theorem e_l_integer_non : F_l_integer [.d .non] = some (.ret (.bl false), []) := autoF_eq rfl fun adr => by
  simp [m_l_integer, DL.ini, DL.agsF, DL.fin, DL.outs, DL.seqM, M.bnd, M.ret, M.opt, DL.op2, DL.op1, DL.getV, DL.setM, DL.ifM, DL.tstB, DL.asB, DL.retM, DL.nxM, DL.bltM, DL.consA, DL.consV, DL.refV, DL.callM, DL.argG, DL.refs, DL.putR, DL.mkTup, DL.mkLst, DL.andV, DL.orV, DL.notV, DL.andB, DL.orB, DL.notB, DL.isiM, DL.addD, DL.subD, DL.mulD, DL.gtD, DL.ltD, DL.geD, DL.leD, DL.fdivD, DL.modD, DL.powD, DL.negD, DL.intD, DL.lenD, DL.absD, DL.dropM, DL.parM, DL.eqD_int, DL.neD_int, PySem.sizeLine, DL.kit_int_int, DL.kit_int_bool, DL.kit_int_str, DL.kit_int_tuple, DL.kit_int_list, DL.kit_bool_int, DL.kit_bool_bool, DL.kit_bool_str, DL.kit_bool_tuple, DL.kit_bool_list, DL.kit_str_int, DL.kit_str_bool, DL.kit_str_str, DL.kit_str_tuple, DL.kit_str_list, DL.kit_tuple_int, DL.kit_tuple_bool, DL.kit_tuple_str, DL.kit_tuple_tuple, DL.kit_tuple_list, DL.kit_list_int, DL.kit_list_bool, DL.kit_list_str, DL.kit_list_tuple, DL.kit_list_list, DL.kit_none_int, DL.kit_none_bool, DL.kit_none_str, DL.kit_none_tuple, DL.kit_none_list, DL.D.ty]
theorem e_l_integer_tup {i : List D} : F_l_integer [.d (.tup i)] = some (.ret (.bl false), []) := autoF_eq rfl fun adr => by
  simp [m_l_integer, DL.ini, DL.agsF, DL.fin, DL.outs, DL.seqM, M.bnd, M.ret, M.opt, DL.op2, DL.op1, DL.getV, DL.setM, DL.ifM, DL.tstB, DL.asB, DL.retM, DL.nxM, DL.bltM, DL.consA, DL.consV, DL.refV, DL.callM, DL.argG, DL.refs, DL.putR, DL.mkTup, DL.mkLst, DL.andV, DL.orV, DL.notV, DL.andB, DL.orB, DL.notB, DL.isiM, DL.addD, DL.subD, DL.mulD, DL.gtD, DL.ltD, DL.geD, DL.leD, DL.fdivD, DL.modD, DL.powD, DL.negD, DL.intD, DL.lenD, DL.absD, DL.dropM, DL.parM, DL.eqD_int, DL.neD_int, PySem.sizeLine, DL.kit_int_int, DL.kit_int_bool, DL.kit_int_str, DL.kit_int_tuple, DL.kit_int_list, DL.kit_bool_int, DL.kit_bool_bool, DL.kit_bool_str, DL.kit_bool_tuple, DL.kit_bool_list, DL.kit_str_int, DL.kit_str_bool, DL.kit_str_str, DL.kit_str_tuple, DL.kit_str_list, DL.kit_tuple_int, DL.kit_tuple_bool, DL.kit_tuple_str, DL.kit_tuple_tuple, DL.kit_tuple_list, DL.kit_list_int, DL.kit_list_bool, DL.kit_list_str, DL.kit_list_tuple, DL.kit_list_list, DL.kit_none_int, DL.kit_none_bool, DL.kit_none_str, DL.kit_none_tuple, DL.kit_none_list, DL.D.ty]
theorem e_l_integer_lst {i : List D} : F_l_integer [.d (.lst i)] = some (.ret (.bl false), []) := autoF_eq rfl fun adr => by
  simp [m_l_integer, DL.ini, DL.agsF, DL.fin, DL.outs, DL.seqM, M.bnd, M.ret, M.opt, DL.op2, DL.op1, DL.getV, DL.setM, DL.ifM, DL.tstB, DL.asB, DL.retM, DL.nxM, DL.bltM, DL.consA, DL.consV, DL.refV, DL.callM, DL.argG, DL.refs, DL.putR, DL.mkTup, DL.mkLst, DL.andV, DL.orV, DL.notV, DL.andB, DL.orB, DL.notB, DL.isiM, DL.addD, DL.subD, DL.mulD, DL.gtD, DL.ltD, DL.geD, DL.leD, DL.fdivD, DL.modD, DL.powD, DL.negD, DL.intD, DL.lenD, DL.absD, DL.dropM, DL.parM, DL.eqD_int, DL.neD_int, PySem.sizeLine, DL.kit_int_int, DL.kit_int_bool, DL.kit_int_str, DL.kit_int_tuple, DL.kit_int_list, DL.kit_bool_int, DL.kit_bool_bool, DL.kit_bool_str, DL.kit_bool_tuple, DL.kit_bool_list, DL.kit_str_int, DL.kit_str_bool, DL.kit_str_str, DL.kit_str_tuple, DL.kit_str_list, DL.kit_tuple_int, DL.kit_tuple_bool, DL.kit_tuple_str, DL.kit_tuple_tuple, DL.kit_tuple_list, DL.kit_list_int, DL.kit_list_bool, DL.kit_list_str, DL.kit_list_tuple, DL.kit_list_list, DL.kit_none_int, DL.kit_none_bool, DL.kit_none_str, DL.kit_none_tuple, DL.kit_none_list, DL.D.ty]
noncomputable abbrev P_ (n : Nat) : FS := famF 1 (fun F => m_l_plain F_l_integer F) N_l_plain.length n
/-- d is told to be plain at depth n -/
def Pl (n : Nat) (d : D) : Prop := P_ n [.d d] = some (.ret (.bl true), [])
theorem pl_int {n : Nat} {i : Int} : Pl (n + 1) (.int i) := famF_eq rfl fun adr => by
  have h := e_l_integer_int (i := i)
  generalize famF 1 (fun F => m_l_plain F_l_integer F) N_l_plain.length n = G
  simp [m_l_plain, DL.ini, DL.agsF, DL.fin, DL.outs, DL.seqM, M.bnd, M.ret, M.opt, DL.op2, DL.op1, DL.getV, DL.setM, DL.ifM, DL.tstB, DL.asB, DL.retM, DL.nxM, DL.bltM, DL.consA, DL.consV, DL.refV, DL.callM, DL.argG, DL.refs, DL.putR, DL.mkTup, DL.mkLst, DL.andV, DL.orV, DL.notV, DL.andB, DL.orB, DL.notB, DL.isiM, DL.addD, DL.subD, DL.mulD, DL.gtD, DL.ltD, DL.geD, DL.leD, DL.fdivD, DL.modD, DL.powD, DL.negD, DL.intD, DL.lenD, DL.absD, DL.dropM, DL.parM, DL.eqD_int, DL.neD_int, PySem.sizeLine, DL.kit_int_int, DL.kit_int_bool, DL.kit_int_str, DL.kit_int_tuple, DL.kit_int_list, DL.kit_bool_int, DL.kit_bool_bool, DL.kit_bool_str, DL.kit_bool_tuple, DL.kit_bool_list, DL.kit_str_int, DL.kit_str_bool, DL.kit_str_str, DL.kit_str_tuple, DL.kit_str_list, DL.kit_tuple_int, DL.kit_tuple_bool, DL.kit_tuple_str, DL.kit_tuple_tuple, DL.kit_tuple_list, DL.kit_list_int, DL.kit_list_bool, DL.kit_list_str, DL.kit_list_tuple, DL.kit_list_list, DL.kit_none_int, DL.kit_none_bool, DL.kit_none_str, DL.kit_none_tuple, DL.kit_none_list, DL.D.ty, isD, isNoneD, h]
theorem pl_str {n : Nat} {i : Str} : Pl (n + 1) (.str i) := famF_eq rfl fun adr => by
  generalize famF 1 (fun F => m_l_plain F_l_integer F) N_l_plain.length n = G
  simp [m_l_plain, DL.ini, DL.agsF, DL.fin, DL.outs, DL.seqM, M.bnd, M.ret, M.opt, DL.op2, DL.op1, DL.getV, DL.setM, DL.ifM, DL.tstB, DL.asB, DL.retM, DL.nxM, DL.bltM, DL.consA, DL.consV, DL.refV, DL.callM, DL.argG, DL.refs, DL.putR, DL.mkTup, DL.mkLst, DL.andV, DL.orV, DL.notV, DL.andB, DL.orB, DL.notB, DL.isiM, DL.addD, DL.subD, DL.mulD, DL.gtD, DL.ltD, DL.geD, DL.leD, DL.fdivD, DL.modD, DL.powD, DL.negD, DL.intD, DL.lenD, DL.absD, DL.dropM, DL.parM, DL.eqD_int, DL.neD_int, PySem.sizeLine, DL.kit_int_int, DL.kit_int_bool, DL.kit_int_str, DL.kit_int_tuple, DL.kit_int_list, DL.kit_bool_int, DL.kit_bool_bool, DL.kit_bool_str, DL.kit_bool_tuple, DL.kit_bool_list, DL.kit_str_int, DL.kit_str_bool, DL.kit_str_str, DL.kit_str_tuple, DL.kit_str_list, DL.kit_tuple_int, DL.kit_tuple_bool, DL.kit_tuple_str, DL.kit_tuple_tuple, DL.kit_tuple_list, DL.kit_list_int, DL.kit_list_bool, DL.kit_list_str, DL.kit_list_tuple, DL.kit_list_list, DL.kit_none_int, DL.kit_none_bool, DL.kit_none_str, DL.kit_none_tuple, DL.kit_none_list, DL.D.ty, isD, isNoneD]
theorem pl_tup {n : Nat} {xs : List D} (h : ∀ x ∈ xs, Pl n x) : Pl (n + 1) (.tup xs) := famF_eq rfl fun adr => by
  unfold Pl P_ at h
  generalize famF 1 (fun F => m_l_plain F_l_integer F) N_l_plain.length n = G at h
  obtain ⟨e', he, hi⟩ := forL_inv (t := gSet 1) (body := ifM (notB (tstB (callM G (consV (getV 1) (M.ret []))))) (retM (M.ret (.bl false))) nxM) (fun r e => (∀ x ∈ r, x ∈ xs) ∧ ∃ s, e = [.dat (.tup xs), s]) xs [.dat (.tup xs), .un] ⟨fun _ z => z, .un, rfl⟩ (fun d r e ⟨h1, s, he⟩ => by
    subst he
    refine ⟨_, [.dat (.tup xs), .dat d], rfl, ?_, fun x hx => h1 x (List.mem_cons_of_mem _ hx), .dat d, rfl⟩
    have hd := h d (h1 d List.mem_cons_self)
    simp [DL.ini, DL.agsF, DL.fin, DL.outs, DL.seqM, M.bnd, M.ret, M.opt, DL.op2, DL.op1, DL.getV, DL.setM, DL.ifM, DL.tstB, DL.asB, DL.retM, DL.nxM, DL.bltM, DL.consA, DL.consV, DL.refV, DL.callM, DL.argG, DL.refs, DL.putR, DL.mkTup, DL.mkLst, DL.andV, DL.orV, DL.notV, DL.andB, DL.orB, DL.notB, DL.isiM, DL.addD, DL.subD, DL.mulD, DL.gtD, DL.ltD, DL.geD, DL.leD, DL.fdivD, DL.modD, DL.powD, DL.negD, DL.intD, DL.lenD, DL.absD, DL.dropM, DL.parM, DL.eqD_int, DL.neD_int, PySem.sizeLine, hd])
  obtain ⟨_, s, rfl⟩ := hi
  generalize hB : ifM (notB (tstB (callM G (consV (getV 1) (M.ret []))))) (retM (M.ret (.bl false))) nxM = B at he
  have hm : m_l_plain F_l_integer G = (seqM (ifM (tstB (isiM "tuple" (getV 0))) (seqM (forM (itSeq (getV 0)) (gSet 1) B) (retM (M.ret (.bl true)))) nxM)
      (retM (orV (op2 isD (getV 0) (M.ret .non)) (orV (isiM "str" (getV 0)) (callM F_l_integer (consV (getV 0) (M.ret []))))))) := by rw [← hB]; rfl
  rw [hm]
  have he' : forL (gSet 1) B xs [.dat (.tup xs), .un] = .ok .nx [.dat (.tup xs), s] := he
  simp [DL.ini, DL.agsF, DL.fin, DL.outs, DL.seqM, M.bnd, M.ret, M.opt, DL.op2, DL.op1, DL.getV, DL.setM, DL.ifM, DL.tstB, DL.asB, DL.retM, DL.nxM, DL.bltM, DL.consA, DL.consV, DL.refV, DL.callM, DL.argG, DL.refs, DL.putR, DL.mkTup, DL.mkLst, DL.andV, DL.orV, DL.notV, DL.andB, DL.orB, DL.notB, DL.isiM, DL.addD, DL.subD, DL.mulD, DL.gtD, DL.ltD, DL.geD, DL.leD, DL.fdivD, DL.modD, DL.powD, DL.negD, DL.intD, DL.lenD, DL.absD, DL.dropM, DL.parM, DL.eqD_int, DL.neD_int, PySem.sizeLine, DL.kit_int_int, DL.kit_int_bool, DL.kit_int_str, DL.kit_int_tuple, DL.kit_int_list, DL.kit_bool_int, DL.kit_bool_bool, DL.kit_bool_str, DL.kit_bool_tuple, DL.kit_bool_list, DL.kit_str_int, DL.kit_str_bool, DL.kit_str_str, DL.kit_str_tuple, DL.kit_str_list, DL.kit_tuple_int, DL.kit_tuple_bool, DL.kit_tuple_str, DL.kit_tuple_tuple, DL.kit_tuple_list, DL.kit_list_int, DL.kit_list_bool, DL.kit_list_str, DL.kit_list_tuple, DL.kit_list_list, DL.kit_none_int, DL.kit_none_bool, DL.kit_none_str, DL.kit_none_tuple, DL.kit_none_list, DL.D.ty, DL.forM, itSeq, seqOf, he']
theorem pl_rT {n : Nat} {q : Rat} : Pl (n + 2) (rT q) := pl_tup fun x hx => by
  rcases List.mem_cons.mp hx with rfl | hx
  · exact pl_int
  · rcases List.mem_cons.mp hx with rfl | hx
    · exact pl_int
    · cases hx
theorem e_l_truth {a b : Bool} : F_l_truth [.d (.bl a), .d (.bl b)] = some (.ret (.bl (a == b)), []) := autoF_eq rfl fun adr => by
  have h : eqD (.bl a) (.bl b) = some (.bl (a == b)) := by
    rw [eqD_of okN_bl okN_bl (by decide) (by decide)]
    rfl
  simp [m_l_truth, DL.ini, DL.agsF, DL.fin, DL.outs, DL.seqM, M.bnd, M.ret, M.opt, DL.op2, DL.op1, DL.getV, DL.setM, DL.ifM, DL.tstB, DL.asB, DL.retM, DL.nxM, DL.bltM, DL.consA, DL.consV, DL.refV, DL.callM, DL.argG, DL.refs, DL.putR, DL.mkTup, DL.mkLst, DL.andV, DL.orV, DL.notV, DL.andB, DL.orB, DL.notB, DL.isiM, DL.addD, DL.subD, DL.mulD, DL.gtD, DL.ltD, DL.geD, DL.leD, DL.fdivD, DL.modD, DL.powD, DL.negD, DL.intD, DL.lenD, DL.absD, DL.dropM, DL.parM, DL.eqD_int, DL.neD_int, PySem.sizeLine, DL.kit_int_int, DL.kit_int_bool, DL.kit_int_str, DL.kit_int_tuple, DL.kit_int_list, DL.kit_bool_int, DL.kit_bool_bool, DL.kit_bool_str, DL.kit_bool_tuple, DL.kit_bool_list, DL.kit_str_int, DL.kit_str_bool, DL.kit_str_str, DL.kit_str_tuple, DL.kit_str_list, DL.kit_tuple_int, DL.kit_tuple_bool, DL.kit_tuple_str, DL.kit_tuple_tuple, DL.kit_tuple_list, DL.kit_list_int, DL.kit_list_bool, DL.kit_list_str, DL.kit_list_tuple, DL.kit_list_list, DL.kit_none_int, DL.kit_none_bool, DL.kit_none_str, DL.kit_none_tuple, DL.kit_none_list, DL.D.ty, h]
/-! ### texts of ratios -/
def txtR (q : Rat) : Str := if q.den = 1 then Str.ofString (toString q.num) else Str.ofString (toString q.num) ++ ("/" : Str) ++ Str.ofString (toString (q.den : Int))
theorem slash_len : ("/" : Str).length = 1 := by rfl
section
variable {d : D} {q : Rat}
theorem txt_facts (hq : Sm 1900 q) : q.num.natAbs.log2 < 1920 ∧ q.den.log2 < 1920 ∧ (Str.ofString (toString q.num)).length ≤ 1901 ∧ (Str.ofString (toString (q.den : Int))).length ≤ 1901 :=
  ⟨Nat.lt_trans (log2_lt (by decide) hq.n) (by decide), Nat.lt_trans (log2_lt (by decide) hq.d) (by decide), len_int (by decide) hq.n, len_int (by decide) (by simpa using hq.d)⟩
theorem repr_is (i : Int) : toString i = i.repr := rfl
theorem e_write_ratio (hq : Sm 1900 q) (h : IsR d q) : F_write_ratio [.d d] = some (.ret (.str (txtR q)), []) := autoF_eq rfl fun adr => by
  obtain ⟨l1, l2, n1, n2⟩ := txt_facts hq
  unfold txtR
  by_cases e : q.den = 1
  · simp [m_write_ratio, DL.ini, DL.agsF, DL.fin, DL.outs, DL.seqM, M.bnd, M.ret, M.opt, DL.op2, DL.op1, DL.getV, DL.setM, DL.ifM, DL.tstB, DL.asB, DL.retM, DL.nxM, DL.bltM, DL.consA, DL.consV, DL.refV, DL.callM, DL.argG, DL.refs, DL.putR, DL.mkTup, DL.mkLst, DL.andV, DL.orV, DL.notV, DL.andB, DL.orB, DL.notB, DL.isiM, DL.addD, DL.subD, DL.mulD, DL.gtD, DL.ltD, DL.geD, DL.leD, DL.fdivD, DL.modD, DL.powD, DL.negD, DL.intD, DL.lenD, DL.absD, DL.dropM, DL.parM, DL.eqD_int, DL.neD_int, PySem.sizeLine, h.a, h.b, e, fmtM, fmtD, l1]
  · have z1 : (Str.ofString (toString q.num)).length ≤ 16777216 := by omega
    have z2 : (Str.ofString (toString q.num) ++ ("/" : Str)).length ≤ 16777216 := by rw [len_app, slash_len]; omega
    have z3 : (Str.ofString (toString q.num) ++ ("/" : Str) ++ Str.ofString (toString (q.den : Int))).length ≤ 16777216 := by rw [len_app, len_app, slash_len]; omega
    have e' : ¬ (q.den : Int) = 1 := by omega
    simp only [repr_is] at z1 z2 z3
    simp [m_write_ratio, DL.ini, DL.agsF, DL.fin, DL.outs, DL.seqM, M.bnd, M.ret, M.opt, DL.op2, DL.op1, DL.getV, DL.setM, DL.ifM, DL.tstB, DL.asB, DL.retM, DL.nxM, DL.bltM, DL.consA, DL.consV, DL.refV, DL.callM, DL.argG, DL.refs, DL.putR, DL.mkTup, DL.mkLst, DL.andV, DL.orV, DL.notV, DL.andB, DL.orB, DL.notB, DL.isiM, DL.addD, DL.subD, DL.mulD, DL.gtD, DL.ltD, DL.geD, DL.leD, DL.fdivD, DL.modD, DL.powD, DL.negD, DL.intD, DL.lenD, DL.absD, DL.dropM, DL.parM, DL.eqD_int, DL.neD_int, PySem.sizeLine, h.a, h.b, e, e', fmtM, fmtD, l1, l2, joinF, empty_app, z1, z2, z3]
theorem e_l_text (hq : Sm 1900 q) (h : IsR d q) : F_l_text [.d d] = some (.ret (.str (txtR q)), []) := autoF_eq rfl fun adr => by
  obtain ⟨l1, l2, n1, n2⟩ := txt_facts hq
  unfold txtR
  by_cases e : q.den = 1
  · simp [m_l_text, DL.ini, DL.agsF, DL.fin, DL.outs, DL.seqM, M.bnd, M.ret, M.opt, DL.op2, DL.op1, DL.getV, DL.setM, DL.ifM, DL.tstB, DL.asB, DL.retM, DL.nxM, DL.bltM, DL.consA, DL.consV, DL.refV, DL.callM, DL.argG, DL.refs, DL.putR, DL.mkTup, DL.mkLst, DL.andV, DL.orV, DL.notV, DL.andB, DL.orB, DL.notB, DL.isiM, DL.addD, DL.subD, DL.mulD, DL.gtD, DL.ltD, DL.geD, DL.leD, DL.fdivD, DL.modD, DL.powD, DL.negD, DL.intD, DL.lenD, DL.absD, DL.dropM, DL.parM, DL.eqD_int, DL.neD_int, PySem.sizeLine, h.a, h.b, e, strD, l1]
  · have z1 : (Str.ofString (toString q.num)).length + ("/" : Str).length ≤ 16777216 := by rw [slash_len]; omega
    have z3 : (Str.ofString (toString q.num) ++ ("/" : Str)).length + (Str.ofString (toString (q.den : Int))).length ≤ 16777216 := by rw [len_app, slash_len]; omega
    have e' : ¬ (q.den : Int) = 1 := by omega
    simp only [repr_is] at z1 z3
    simp [m_l_text, DL.ini, DL.agsF, DL.fin, DL.outs, DL.seqM, M.bnd, M.ret, M.opt, DL.op2, DL.op1, DL.getV, DL.setM, DL.ifM, DL.tstB, DL.asB, DL.retM, DL.nxM, DL.bltM, DL.consA, DL.consV, DL.refV, DL.callM, DL.argG, DL.refs, DL.putR, DL.mkTup, DL.mkLst, DL.andV, DL.orV, DL.notV, DL.andB, DL.orB, DL.notB, DL.isiM, DL.addD, DL.subD, DL.mulD, DL.gtD, DL.ltD, DL.geD, DL.leD, DL.fdivD, DL.modD, DL.powD, DL.negD, DL.intD, DL.lenD, DL.absD, DL.dropM, DL.parM, DL.eqD_int, DL.neD_int, PySem.sizeLine, h.a, h.b, e, e', strD, l1, l2, z1, z3]
end
/-! ### two ratios -/
theorem okN_rT {q : Rat} : OkN 1 (rT q) := okN_tup fun x hx => by
  rcases List.mem_cons.mp hx with rfl | hx
  · exact okN_int
  · rcases List.mem_cons.mp hx with rfl | hx
    · exact okN_int
    · cases hx
theorem seq_rT {q : Rat} : seqOf (rT q) = some [.int q.num, .int q.den] := rfl
theorem isR_neg (q : Rat) : IsR (.tup [.int (-q.num), .int q.den]) (-q) := ⟨by rw [Rat.neg_num]; rfl, by rw [Rat.neg_den]; rfl⟩
theorem sm_neg {k : Nat} {q : Rat} (h : Sm k q) : Sm k (-q) := ⟨by rw [Rat.neg_num, Int.natAbs_neg]; exact h.n, by rw [Rat.neg_den]; exact h.d⟩
theorem lt_sub {p q : Rat} : (p - q).num < 0 ↔ p < q := by
  have a : (p - q) < 0 ↔ (p - q).num < 0 := by
    rw [Rat.lt_iff]
    simp
  rw [← a, ← Rat.add_lt_add_left (c := q) (a := p - q) (b := 0), Rat.add_zero, Rat.add_comm, Rat.sub_add_cancel]
theorem gt_sub {p q : Rat} : 0 < (p - q).num ↔ q < p := by
  have a : 0 < (p - q) ↔ 0 < (p - q).num := by
    rw [Rat.lt_iff]
    simp
  rw [← a, ← Rat.add_lt_add_left (c := q) (a := 0) (b := p - q), Rat.add_zero, Rat.add_comm, Rat.sub_add_cancel]
theorem e_two {p q : Rat} (hp : Sm 900 p) (hq : Sm 900 q) : F_l_two_right [.d (rT p), .d (rT q)] = some (.ret (.bl true), []) := autoF_eq rfl fun adr => by
  have f1 := e_l_plus (by decide) hp (sm_neg hq) (isR_t p) (isR_neg q)
  rw [← Rat.sub_eq_add_neg] at f1
  have f2 := e_l_ratio (t := p.num * q.num) (Nat.mul_pos (den_pos p) (den_pos q)) (den_mul8 (by decide) hp.d hq.d)
  rw [mk_mul, Int.natCast_mul] at f2
  have f3 := e_minus (by decide) hp hq (isR_t p) (isR_t q)
  have f4 := e_times (by decide) hp hq (isR_t p) (isR_t q)
  have f5 : F_l_plain [.d (.tup [rT (p - q), rT (p * q)])] = some (.ret (.bl true), []) := pl_tup (n := 5) fun x hx => by
    rcases List.mem_cons.mp hx with rfl | hx
    · exact pl_rT
    · rcases List.mem_cons.mp hx with rfl | hx
      · exact pl_rT
      · cases hx
  have f6 : neD (.tup [rT (p - q), rT (p * q)]) (.tup [rT (p - q), rT (p * q)]) = some (.bl false) := neD_self (m := 2) (okN_tup fun x hx => by
    rcases List.mem_cons.mp hx with rfl | hx
    · exact okN_rT
    · rcases List.mem_cons.mp hx with rfl | hx
      · exact okN_rT
      · cases hx) (by decide)
  have f7 := e_less (by decide) hp hq (isR_t p) (isR_t q)
  have f8 := e_less (by decide) hq hp (isR_t q) (isR_t p)
  have f9 := e_less (by decide) hp hp (isR_t p) (isR_t p)
  rw [show decide (p < p) = false from decide_eq_false (Rat.lt_irrefl)] at f9
  have t1 : F_l_truth [.d (.bl (decide (p < q))), .d (.bl (decide ((p - q).num < 0)))] = some (.ret (.bl true), []) := by
    rw [e_l_truth, decide_eq_decide.mpr (lt_sub (p := p) (q := q)), beq_self_eq_true]
  have t2 : F_l_truth [.d (.bl (decide (q < p))), .d (.bl (decide (0 < (p - q).num)))] = some (.ret (.bl true), []) := by
    rw [e_l_truth, decide_eq_decide.mpr (gt_sub (p := p) (q := q)), beq_self_eq_true]
  have t3 : F_l_truth [.d (.bl false), .d (.bl false)] = some (.ret (.bl true), []) := e_l_truth
  have w1 := e_write_ratio (hp.mono (by decide)) (isR_t p)
  have w2 := e_l_text (hp.mono (by decide)) (isR_t p)
  have w3 := e_write_ratio (hq.mono (by decide)) (isR_l q)
  have w4 := e_l_text (hq.mono (by decide)) (isR_t q)
  have ok : ∀ r : Rat, OkN 0 (.str (txtR r)) := fun r => okN_str (by unfold txtR; split; exact ok_of; exact ok_app (ok_app ok_of ok_of) ok_of)
  have n1 : neD (.str (txtR p)) (.str (txtR p)) = some (.bl false) := neD_self (ok p) (by decide)
  have n2 : eqD (.str (txtR q)) (.str (txtR q)) = some (.bl true) := eqD_self (ok q) (by decide)
  have n3 : eqD (rT (p - q)) (rT (p - q)) = some (.bl true) := eqD_self okN_rT (by decide)
  have l1 := e_minus (by decide) hp hq (isR_l p) (isR_l q)
  have m1 := mulOk_bd (bd8 (k := 900) (by decide) hp.n) (bd8 (by decide) hq.n)
  have m3 := mulOk_bd (bd8 (k := 900) (by decide) (i := p.den) (by simpa using hp.d)) (bd8 (k := 900) (by decide) (i := q.den) (by simpa using hq.d))
  simp [m_l_two_right, DL.ini, DL.agsF, DL.fin, DL.outs, DL.seqM, M.bnd, M.ret, M.opt, DL.op2, DL.op1, DL.getV, DL.setM, DL.ifM, DL.tstB, DL.asB, DL.retM, DL.nxM, DL.bltM, DL.consA, DL.consV, DL.refV, DL.callM, DL.argG, DL.refs, DL.putR, DL.mkTup, DL.mkLst, DL.andV, DL.orV, DL.notV, DL.andB, DL.orB, DL.notB, DL.isiM, DL.addD, DL.subD, DL.mulD, DL.gtD, DL.ltD, DL.geD, DL.leD, DL.fdivD, DL.modD, DL.powD, DL.negD, DL.intD, DL.lenD, DL.absD, DL.dropM, DL.parM, DL.eqD_int, DL.neD_int, PySem.sizeLine, DL.kit_int_int, DL.kit_int_bool, DL.kit_int_str, DL.kit_int_tuple, DL.kit_int_list, DL.kit_bool_int, DL.kit_bool_bool, DL.kit_bool_str, DL.kit_bool_tuple, DL.kit_bool_list, DL.kit_str_int, DL.kit_str_bool, DL.kit_str_str, DL.kit_str_tuple, DL.kit_str_list, DL.kit_tuple_int, DL.kit_tuple_bool, DL.kit_tuple_str, DL.kit_tuple_tuple, DL.kit_tuple_list, DL.kit_list_int, DL.kit_list_bool, DL.kit_list_str, DL.kit_list_tuple, DL.kit_list_list, DL.kit_none_int, DL.kit_none_bool, DL.kit_none_str, DL.kit_none_tuple, DL.kit_none_list, DL.D.ty, (isR_t p).a, (isR_t p).b, (isR_t q).a, (isR_t q).b, (isR_t (p - q)).a, seq_rT, datM, listM, frzO, f1, f2, f3, f4, f5, f6, f7, f8, f9, t1, t2, t3, w1, w2, w3, w4, n1, n2, n3, l1, m1, m3]
/-! ### three ratios -/
theorem bd_den {k : Nat} {p q : Rat} (hp : Sm k p) (hq : Sm k q) : p.den * q.den < 2 ^ (2 * k) := by
  have := bd_up (b := 2 * k) (bd_mul (i := p.den) (j := q.den) (by simpa using hp.d) (by simpa using hq.d)) (by omega)
  simpa [Int.natAbs_mul] using this
theorem sm_add {k : Nat} {p q : Rat} (hp : Sm k p) (hq : Sm k q) : Sm (2 * k + 1) (p + q) := by
  rw [← mk_add]
  refine sm_mk (Nat.mul_pos (den_pos p) (den_pos q)) ?_ (Nat.lt_of_lt_of_le (bd_den hp hq) (Nat.pow_le_pow_right (by decide) (by omega)))
  exact bd_add (bd_up (bd_mul hp.n (by simpa using hq.d : (q.den : Int).natAbs < 2 ^ k)) (by omega)) (bd_up (bd_mul hq.n (by simpa using hp.d : (p.den : Int).natAbs < 2 ^ k)) (by omega))
theorem sm_sub {k : Nat} {p q : Rat} (hp : Sm k p) (hq : Sm k q) : Sm (2 * k + 1) (p - q) := by
  rw [Rat.sub_eq_add_neg]
  exact sm_add hp (sm_neg hq)
theorem sm_mul {k : Nat} {p q : Rat} (hp : Sm k p) (hq : Sm k q) : Sm (2 * k + 1) (p * q) := by
  rw [← mk_mul]
  exact sm_mk (Nat.mul_pos (den_pos p) (den_pos q)) (bd_up (bd_mul hp.n hq.n) (by omega)) (Nat.lt_of_lt_of_le (bd_den hp hq) (Nat.pow_le_pow_right (by decide) (by omega)))
theorem e_plus2 {k : Nat} {p q : Rat} {d e : D} (hk : k ≤ 2000) (hp : Sm k p) (hq : Sm k q) (a : IsR d p) (b : IsR e q) : F_plus [.d d, .d e] = some (.ret (rT (p + q)), []) := by
  have h := e_plus (c := k) (l := [(d, p), (e, q)]) (fun y hy => by
    rcases List.mem_cons.mp hy with rfl | hy
    · exact ⟨a, hp⟩
    · rcases List.mem_cons.mp hy with rfl | hy
      · exact ⟨b, hq⟩
      · cases hy) (by show 2 ≤ 100; decide) (by show 1 + (k + 1) * 2 ≤ 7800; omega)
  have z : sumR [(d, p), (e, q)] 0 = p + q := by
    show 0 + p + q = p + q
    rw [Rat.zero_add]
  rw [z] at h
  exact h
theorem isR_0 : IsR (.tup [.int 0, .int 1]) 0 := ⟨rfl, rfl⟩
theorem isR_1 : IsR (.tup [.int 1, .int 1]) 1 := ⟨rfl, rfl⟩
theorem sm_0 : Sm 140 0 := ⟨by decide, by decide⟩
theorem sm_1 : Sm 140 1 := ⟨by decide, by decide⟩
theorem rT_0 : rT 0 = .tup [.int 0, .int 1] := rfl
theorem e_algebra {p q r : Rat} (hp : Sm 140 p) (hq : Sm 140 q) (hr : Sm 140 r) : F_l_algebra [.d (rT p), .d (rT q), .d (rT r)] = some (.ret (.bl true), []) := autoF_eq rfl fun adr => by
  have p1 := e_plus2 (by decide) hp hq (isR_t p) (isR_t q)
  have p2 := e_minus (k := 281) (by decide) (sm_add hp hq) (hq.mono (by decide)) (isR_t (p + q)) (isR_t q)
  rw [Rat.add_sub_cancel] at p2
  have p3 := e_minus (by decide) hp hq (isR_t p) (isR_t q)
  have p4 := e_plus2 (k := 281) (by decide) (sm_sub hp hq) (hq.mono (by decide)) (isR_t (p - q)) (isR_t q)
  rw [Rat.sub_add_cancel] at p4
  have p5 := e_times (by decide) hp hq (isR_t p) (isR_t q)
  have p6 := e_times (by decide) hp hr (isR_t p) (isR_t r)
  have p7 := e_plus2 (k := 281) (by decide) (sm_mul hp hq) (sm_mul hp hr) (isR_t (p * q)) (isR_t (p * r))
  have p8 := e_plus2 (by decide) hq hr (isR_t q) (isR_t r)
  have p9 := e_times (k := 281) (by decide) (hp.mono (by decide)) (sm_add hq hr) (isR_t p) (isR_t (q + r))
  rw [Rat.mul_add] at p9
  have q1 := e_plus2 (by decide) hp hr (isR_t p) (isR_t r)
  have q2 := e_less (k := 281) (by decide) (sm_add hp hr) (sm_add hq hr) (isR_t (p + r)) (isR_t (q + r))
  have q3 := e_less (by decide) hp hq (isR_t p) (isR_t q)
  have q4 : decide (p + r < q + r) = decide (p < q) := decide_eq_decide.mpr (by rw [Rat.add_comm p, Rat.add_comm q]; exact Rat.add_lt_add_left)
  rw [q4] at q2
  have q5 : F_l_truth [.d (.bl (decide (p < q))), .d (.bl (decide (p < q)))] = some (.ret (.bl true), []) := by rw [e_l_truth, beq_self_eq_true]
  have q6 := e_plus2 (by decide) hp sm_0 (isR_t p) isR_0
  rw [Rat.add_zero] at q6
  have q7 := e_times (by decide) hp sm_1 (isR_t p) isR_1
  rw [Rat.mul_one] at q7
  have q8 := e_times (by decide) sm_0 hq isR_0 (isR_t q)
  rw [Rat.zero_mul, rT_0] at q8
  have s0 : ∀ x : Rat, neD (rT x) (rT x) = some (.bl false) := fun x => neD_self okN_rT (by decide)
  have s1 : ∀ x : Rat, eqD (rT x) (rT x) = some (.bl true) := fun x => eqD_self okN_rT (by decide)
  have s2 : eqD (.tup [.int 0, .int 1]) (.tup [.int 0, .int 1]) = some (.bl true) := s1 0
  simp [m_l_algebra, DL.ini, DL.agsF, DL.fin, DL.outs, DL.seqM, M.bnd, M.ret, M.opt, DL.op2, DL.op1, DL.getV, DL.setM, DL.ifM, DL.tstB, DL.asB, DL.retM, DL.nxM, DL.bltM, DL.consA, DL.consV, DL.refV, DL.callM, DL.argG, DL.refs, DL.putR, DL.mkTup, DL.mkLst, DL.andV, DL.orV, DL.notV, DL.andB, DL.orB, DL.notB, DL.isiM, DL.addD, DL.subD, DL.mulD, DL.gtD, DL.ltD, DL.geD, DL.leD, DL.fdivD, DL.modD, DL.powD, DL.negD, DL.intD, DL.lenD, DL.absD, DL.dropM, DL.parM, DL.eqD_int, DL.neD_int, PySem.sizeLine, p1, p2, p3, p4, p5, p6, p7, p8, p9, q1, q2, q3, q5, q6, q7, q8, s0, s1, s2]
end K01
set_option maxRecDepth 100000
set_option maxHeartbeats 4000000
namespace K01
open PySem L2 DL PyProof.Rows
/-! ### draws -/
theorem e_pick {b : Bag} (hb : 0 ≤ b.at_) {m : Int} (h0 : 0 < m) (h9 : m.natAbs.log2 < 9000) : ∃ r b', F_l_pick [.o (.bag b), .d (.int m)] = some (.ret (.int r), [.bag b']) ∧ 0 ≤ r ∧ r < m ∧ Nx b b' := pick_r hb h0 h9
theorem e_choice {b : Bag} (hb : 0 ≤ b.at_) {xs : List D} (h0 : xs ≠ []) (hz : xs.length < 2 ^ 200) : ∃ x b', F_l_choice [.o (.bag b), .d (.lst xs)] = some (.ret x, [.bag b']) ∧ x ∈ xs ∧ Nx b b' := choice_r hb h0 hz
theorem e_one_in {b : Bag} (hb : 0 ≤ b.at_) {m : Int} (h0 : 0 < m) (h9 : m.natAbs.log2 < 9000) : ∃ k b', F_l_one_in [.o (.bag b), .d (.int m)] = some (.ret (.bl k), [.bag b']) ∧ Nx b b' := one_in_r hb h0 h9
theorem e_shuffled {b : Bag} (hb : 0 ≤ b.at_) {xs : List D} (hz : xs.length ≤ 100000) : ∃ ys b', F_l_shuffled [.o (.bag b), .d (.lst xs)] = some (.ret (.lst ys), [.bag b']) ∧ ys.Perm xs ∧ Nx b b' := shuffled_l hb hz
theorem e_number_of {b : Bag} (hb : 0 ≤ b.at_) {z : Int} (hz : z = 0 ∨ z = 1 ∨ z = 2 ∨ z = 3) : ∃ x b', F_l_number_of [.o (.bag b), .d (.int z)] = some (.ret (.int x), [.bag b']) ∧ x.natAbs < 2 ^ 131 ∧ Nx b b' := by
  have main : ∀ (m : Int), 0 < m → m ≤ 10 ^ 39 + 1 → ∃ x b1 r2 b', F_l_pick [.o (.bag b), .d (.int m)] = some (.ret (.int x), [.bag b1]) ∧ F_l_pick [.o (.bag b1), .d (.int m)] = some (.ret (.int r2), [.bag b']) ∧ (x - r2).natAbs < 2 ^ 131 ∧ Nx b b' := fun m h0 h1 => by
    have h9 : m.natAbs.log2 < 9000 := Nat.lt_trans (log2_lt (k := 131) (by decide) (by omega)) (by decide)
    obtain ⟨r1, b1, p1, a1, a2, n1⟩ := e_pick hb h0 h9
    obtain ⟨r2, b2, p2, c1, c2, n2⟩ := e_pick n1.ok h0 h9
    exact ⟨r1, b1, r2, b2, p1, p2, by omega, n1.trans n2⟩
  rcases hz with rfl | rfl | rfl | rfl
  · obtain ⟨x, b1, r2, b', p1, p2, h, n⟩ := main 13 (by decide) (by decide)
    exact ⟨_, b', autoF_eq rfl fun adr => by simp [m_l_number_of, DL.ini, DL.agsF, DL.fin, DL.outs, DL.seqM, M.bnd, M.ret, M.opt, DL.op2, DL.op1, DL.getV, DL.setM, DL.ifM, DL.tstB, DL.asB, DL.retM, DL.nxM, DL.bltM, DL.consA, DL.consV, DL.refV, DL.callM, DL.argG, DL.refs, DL.putR, DL.mkTup, DL.mkLst, DL.andV, DL.orV, DL.notV, DL.andB, DL.orB, DL.notB, DL.isiM, DL.addD, DL.subD, DL.mulD, DL.gtD, DL.ltD, DL.geD, DL.leD, DL.fdivD, DL.modD, DL.powD, DL.negD, DL.intD, DL.lenD, DL.absD, DL.dropM, DL.parM, DL.eqD_int, DL.neD_int, PySem.sizeLine, ixD, atI, ixN, p1, p2], h, n⟩
  · obtain ⟨x, b1, r2, b', p1, p2, h, n⟩ := main 1000 (by decide) (by decide)
    exact ⟨_, b', autoF_eq rfl fun adr => by simp [m_l_number_of, DL.ini, DL.agsF, DL.fin, DL.outs, DL.seqM, M.bnd, M.ret, M.opt, DL.op2, DL.op1, DL.getV, DL.setM, DL.ifM, DL.tstB, DL.asB, DL.retM, DL.nxM, DL.bltM, DL.consA, DL.consV, DL.refV, DL.callM, DL.argG, DL.refs, DL.putR, DL.mkTup, DL.mkLst, DL.andV, DL.orV, DL.notV, DL.andB, DL.orB, DL.notB, DL.isiM, DL.addD, DL.subD, DL.mulD, DL.gtD, DL.ltD, DL.geD, DL.leD, DL.fdivD, DL.modD, DL.powD, DL.negD, DL.intD, DL.lenD, DL.absD, DL.dropM, DL.parM, DL.eqD_int, DL.neD_int, PySem.sizeLine, ixD, atI, ixN, p1, p2], h, n⟩
  · obtain ⟨x, b1, r2, b', p1, p2, h, n⟩ := main 1000000000 (by decide) (by decide)
    exact ⟨_, b', autoF_eq rfl fun adr => by simp [m_l_number_of, DL.ini, DL.agsF, DL.fin, DL.outs, DL.seqM, M.bnd, M.ret, M.opt, DL.op2, DL.op1, DL.getV, DL.setM, DL.ifM, DL.tstB, DL.asB, DL.retM, DL.nxM, DL.bltM, DL.consA, DL.consV, DL.refV, DL.callM, DL.argG, DL.refs, DL.putR, DL.mkTup, DL.mkLst, DL.andV, DL.orV, DL.notV, DL.andB, DL.orB, DL.notB, DL.isiM, DL.addD, DL.subD, DL.mulD, DL.gtD, DL.ltD, DL.geD, DL.leD, DL.fdivD, DL.modD, DL.powD, DL.negD, DL.intD, DL.lenD, DL.absD, DL.dropM, DL.parM, DL.eqD_int, DL.neD_int, PySem.sizeLine, ixD, atI, ixN, p1, p2], h, n⟩
  · obtain ⟨x, b1, r2, b', p1, p2, h, n⟩ := main 1000000000000000000000000000000000000001 (by decide) (by decide)
    exact ⟨_, b', autoF_eq rfl fun adr => by simp [m_l_number_of, DL.ini, DL.agsF, DL.fin, DL.outs, DL.seqM, M.bnd, M.ret, M.opt, DL.op2, DL.op1, DL.getV, DL.setM, DL.ifM, DL.tstB, DL.asB, DL.retM, DL.nxM, DL.bltM, DL.consA, DL.consV, DL.refV, DL.callM, DL.argG, DL.refs, DL.putR, DL.mkTup, DL.mkLst, DL.andV, DL.orV, DL.notV, DL.andB, DL.orB, DL.notB, DL.isiM, DL.addD, DL.subD, DL.mulD, DL.gtD, DL.ltD, DL.geD, DL.leD, DL.fdivD, DL.modD, DL.powD, DL.negD, DL.intD, DL.lenD, DL.absD, DL.dropM, DL.parM, DL.eqD_int, DL.neD_int, PySem.sizeLine, ixD, atI, ixN, p1, p2], h, n⟩
theorem e_drawn {b : Bag} (hb : 0 ≤ b.at_) {z : Int} (hz : z = 0 ∨ z = 1 ∨ z = 2 ∨ z = 3) : ∃ q b', F_l_drawn [.o (.bag b), .d (.int z)] = some (.ret (rT q), [.bag b']) ∧ Sm 131 q ∧ Nx b b' := by
  obtain ⟨x, b1, h1, hx, n1⟩ := e_number_of hb hz
  have main : ∀ (m : Int), 0 < m → m ≤ 10 ^ 39 → ∃ r b', F_l_pick [.o (.bag b1), .d (.int m)] = some (.ret (.int r), [.bag b']) ∧ 0 ≤ r ∧ r < 10 ^ 39 ∧ Nx b b' := fun m h0 h2 => by
    have h9 : m.natAbs.log2 < 9000 := Nat.lt_trans (log2_lt (k := 131) (by decide) (by omega)) (by decide)
    obtain ⟨r, b', p, a1, a2, n2⟩ := e_pick n1.ok h0 h9
    exact ⟨r, b', p, a1, by omega, n1.trans n2⟩
  have fin_ : ∀ r : Int, 0 ≤ r → r < 10 ^ 39 → ∃ q, F_l_ratio [.d (.int x), .d (.int (1 + r))] = some (.ret (rT q), []) ∧ Sm 131 q := fun r h0 h2 => by
    obtain ⟨n, rfl⟩ := Int.eq_ofNat_of_zero_le h0
    have hn : 1 + n < 2 ^ 131 := by omega
    have e := e_l_ratio (t := x) (u := 1 + n) (by omega) (Nat.lt_of_lt_of_le hn (Nat.pow_le_pow_right (by decide) (by decide)))
    rw [Int.natCast_add] at e
    exact ⟨_, e, sm_mk (by omega) hx hn⟩
  rcases hz with rfl | rfl | rfl | rfl
  · obtain ⟨r, b', p, a1, a2, n⟩ := main 12 (by decide) (by decide)
    obtain ⟨q, e, s⟩ := fin_ r a1 a2
    exact ⟨q, b', autoF_eq rfl fun adr => by simp [m_l_drawn, DL.ini, DL.agsF, DL.fin, DL.outs, DL.seqM, M.bnd, M.ret, M.opt, DL.op2, DL.op1, DL.getV, DL.setM, DL.ifM, DL.tstB, DL.asB, DL.retM, DL.nxM, DL.bltM, DL.consA, DL.consV, DL.refV, DL.callM, DL.argG, DL.refs, DL.putR, DL.mkTup, DL.mkLst, DL.andV, DL.orV, DL.notV, DL.andB, DL.orB, DL.notB, DL.isiM, DL.addD, DL.subD, DL.mulD, DL.gtD, DL.ltD, DL.geD, DL.leD, DL.fdivD, DL.modD, DL.powD, DL.negD, DL.intD, DL.lenD, DL.absD, DL.dropM, DL.parM, DL.eqD_int, DL.neD_int, PySem.sizeLine, ixD, atI, ixN, h1, p, e], s, n⟩
  · obtain ⟨r, b', p, a1, a2, n⟩ := main 99 (by decide) (by decide)
    obtain ⟨q, e, s⟩ := fin_ r a1 a2
    exact ⟨q, b', autoF_eq rfl fun adr => by simp [m_l_drawn, DL.ini, DL.agsF, DL.fin, DL.outs, DL.seqM, M.bnd, M.ret, M.opt, DL.op2, DL.op1, DL.getV, DL.setM, DL.ifM, DL.tstB, DL.asB, DL.retM, DL.nxM, DL.bltM, DL.consA, DL.consV, DL.refV, DL.callM, DL.argG, DL.refs, DL.putR, DL.mkTup, DL.mkLst, DL.andV, DL.orV, DL.notV, DL.andB, DL.orB, DL.notB, DL.isiM, DL.addD, DL.subD, DL.mulD, DL.gtD, DL.ltD, DL.geD, DL.leD, DL.fdivD, DL.modD, DL.powD, DL.negD, DL.intD, DL.lenD, DL.absD, DL.dropM, DL.parM, DL.eqD_int, DL.neD_int, PySem.sizeLine, ixD, atI, ixN, h1, p, e], s, n⟩
  · obtain ⟨r, b', p, a1, a2, n⟩ := main 1000000000 (by decide) (by decide)
    obtain ⟨q, e, s⟩ := fin_ r a1 a2
    exact ⟨q, b', autoF_eq rfl fun adr => by simp [m_l_drawn, DL.ini, DL.agsF, DL.fin, DL.outs, DL.seqM, M.bnd, M.ret, M.opt, DL.op2, DL.op1, DL.getV, DL.setM, DL.ifM, DL.tstB, DL.asB, DL.retM, DL.nxM, DL.bltM, DL.consA, DL.consV, DL.refV, DL.callM, DL.argG, DL.refs, DL.putR, DL.mkTup, DL.mkLst, DL.andV, DL.orV, DL.notV, DL.andB, DL.orB, DL.notB, DL.isiM, DL.addD, DL.subD, DL.mulD, DL.gtD, DL.ltD, DL.geD, DL.leD, DL.fdivD, DL.modD, DL.powD, DL.negD, DL.intD, DL.lenD, DL.absD, DL.dropM, DL.parM, DL.eqD_int, DL.neD_int, PySem.sizeLine, ixD, atI, ixN, h1, p, e], s, n⟩
  · obtain ⟨r, b', p, a1, a2, n⟩ := main 1000000000000000000000000000000000000000 (by decide) (by decide)
    obtain ⟨q, e, s⟩ := fin_ r a1 a2
    exact ⟨q, b', autoF_eq rfl fun adr => by simp [m_l_drawn, DL.ini, DL.agsF, DL.fin, DL.outs, DL.seqM, M.bnd, M.ret, M.opt, DL.op2, DL.op1, DL.getV, DL.setM, DL.ifM, DL.tstB, DL.asB, DL.retM, DL.nxM, DL.bltM, DL.consA, DL.consV, DL.refV, DL.callM, DL.argG, DL.refs, DL.putR, DL.mkTup, DL.mkLst, DL.andV, DL.orV, DL.notV, DL.andB, DL.orB, DL.notB, DL.isiM, DL.addD, DL.subD, DL.mulD, DL.gtD, DL.ltD, DL.geD, DL.leD, DL.fdivD, DL.modD, DL.powD, DL.negD, DL.intD, DL.lenD, DL.absD, DL.dropM, DL.parM, DL.eqD_int, DL.neD_int, PySem.sizeLine, ixD, atI, ixN, h1, p, e], s, n⟩
/-! ### the shared helpers -/
theorem e_reserved : F_l_reserved [] = some (.ret (.lst (wordsS.map .str)), []) := reserved_r
theorem e_is_name {d : D} (hi : d.notIns = true) (hs : ∀ s, d = .str s → PyData.strOk s = true ∧ s.length ≤ 2000) : F_is_name [.d d] = some (.ret (.bl d.isName), []) := isName_r hi hs
theorem e_name_fits {d : D} (hi : d.notIns = true) (hs : ∀ s, d = .str s → PyData.strOk s = true ∧ s.length ≤ 2000) : F_l_name_fits [.d d] = some (.ret (.bl d.isName), []) := nameFits_r hi hs
theorem e_spelled {b : Bag} (hb : 0 ≤ b.at_) {n : Nat} (hn : n ≤ 1000) : ∃ s b', F_l_spelled [.o (.bag b), .d (.int n)] = some (.ret (.str s), [.bag b']) ∧ s.length = n ∧ Letters s ∧ Nx b b' := spelled_r hb hn
theorem e_is_integer {d : D} {lo hi : Int} (h : d.notIns = true) : F_is_integer [.d d, .d (.int lo), .d (.int hi)] = some (.ret (.bl (d.within lo hi)), []) := isInteger_r h
theorem e_integer {d : D} (h : d.notIns = true) : F_l_integer [.d d] = some (.ret (.bl d.isInt), []) := integer_r h
theorem e_deep {d : D} (hs : d.szd = true) (h : d.dep < 6) : F_deep [.d d] = some (.ret d.tt, []) := deep_r 6 hs h
theorem e_tuples {d : D} (hs : d.szd = true) (h : d.dep < 6) : F_l_tuples [.d d] = some (.ret d.tt, []) := tuples_r 6 hs h
theorem e_lists {d : D} (hs : d.szd = true) (h : d.dep < 6) : F_l_lists [.d d] = some (.ret d.ll, []) := lists_r 6 hs h
theorem e_plain {d : D} (hi : d.notIns = true) (hs : d.szd = true) (h : d.dep < 6) : F_l_plain [.d d] = some (.ret (.bl d.pl), []) := plain_r 6 hi hs h
end K01
set_option maxRecDepth 100000
set_option maxHeartbeats 4000000
namespace K01
open PySem L2 DL PyProof.Rows
/-! ### sums of rows -/
theorem sm_add2 {a b : Nat} {p q : Rat} (hp : Sm a p) (hq : Sm b q) : Sm (a + b + 1) (p + q) := by
  rw [← mk_add]
  refine sm_mk (Nat.mul_pos (den_pos p) (den_pos q)) (bd_add (bd_mul hp.n (by simpa using hq.d)) (by rw [Nat.add_comm a b]; exact bd_mul hq.n (by simpa using hp.d))) ?_
  have := bd_mul (i := p.den) (j := q.den) (by simpa using hp.d) (by simpa using hq.d)
  have h2 : p.den * q.den < 2 ^ (a + b) := by simpa [Int.natAbs_mul] using this
  exact Nat.lt_of_lt_of_le h2 (Nat.pow_le_pow_right (by decide) (by omega))
theorem sumR_cons (y : D × Rat) (l : List (D × Rat)) (q : Rat) : sumR (y :: l) q = sumR l (q + y.2) := rfl
def ratOf : D → Rat
  | .tup [.int n, .int m] => mkRat n m.toNat
  | .lst [.int n, .int m] => mkRat n m.toNat
  | _ => 0
def rL (q : Rat) : D := .lst [.int q.num, .int q.den]
theorem ratOf_rT (q : Rat) : ratOf (rT q) = q := by
  show mkRat q.num ((q.den : Int).toNat) = q
  rw [Int.toNat_natCast, Rat.mkRat_self]
theorem ratOf_rL (q : Rat) : ratOf (rL q) = q := by
  show mkRat q.num ((q.den : Int).toNat) = q
  rw [Int.toNat_natCast, Rat.mkRat_self]
/-- the sum of what things tell -/
def sumD_ (ds : List D) : Rat := (ds.map ratOf).foldl (· + ·) 0
theorem foldl_perm : ∀ {l m : List Rat}, l.Perm m → ∀ a : Rat, l.foldl (· + ·) a = m.foldl (· + ·) a := fun h => by
  induction h with
  | nil => intro a; rfl
  | cons x _ ih => intro a; exact ih _
  | swap x y l =>
    intro a
    show l.foldl (· + ·) (a + y + x) = l.foldl (· + ·) (a + x + y)
    rw [Rat.add_assoc, Rat.add_comm y x, ← Rat.add_assoc]
  | trans _ _ ih1 ih2 => intro a; rw [ih1, ih2]
theorem sumR_map (ds : List D) : sumR (ds.map fun d => (d, ratOf d)) 0 = sumD_ ds := by
  unfold sumR sumD_
  rw [List.foldl_map, List.foldl_map]
theorem e_l_sum {c : Nat} {ds : List D} (hl : ∀ y ∈ ds, IsR y (ratOf y) ∧ Sm c (ratOf y)) (hz : ds.length ≤ 6) (hc : c ≤ 1000) : F_l_sum [.d (.lst ds)] = some (.ret (rT (sumD_ ds)), []) := by
  have hm : (c + 1) * ds.length ≤ (c + 1) * 6 := Nat.mul_le_mul_left _ hz
  have p := e_plus (c := c) (l := ds.map fun d => (d, ratOf d)) (fun y hy => by
    obtain ⟨d, hd, rfl⟩ := List.mem_map.mp hy
    exact hl d hd) (by rw [List.length_map]; omega) (by rw [List.length_map]; omega)
  rw [sumR_map] at p
  generalize rT (sumD_ ds) = R at p ⊢
  refine autoF_eq rfl fun adr => ?_
  match ds, hz with
  | [], _ => simp at p; simp [m_l_sum, DL.ini, DL.agsF, DL.fin, DL.outs, DL.seqM, M.bnd, M.ret, M.opt, DL.op2, DL.op1, DL.getV, DL.setM, DL.ifM, DL.tstB, DL.asB, DL.retM, DL.nxM, DL.bltM, DL.consA, DL.consV, DL.refV, DL.callM, DL.argG, DL.refs, DL.putR, DL.mkTup, DL.mkLst, DL.andV, DL.orV, DL.notV, DL.andB, DL.orB, DL.notB, DL.isiM, DL.addD, DL.subD, DL.mulD, DL.gtD, DL.ltD, DL.geD, DL.leD, DL.fdivD, DL.modD, DL.powD, DL.negD, DL.intD, DL.lenD, DL.absD, DL.dropM, DL.parM, DL.eqD_int, DL.neD_int, PySem.sizeLine, p]
  | [a], _ => simp at p; simp [m_l_sum, DL.ini, DL.agsF, DL.fin, DL.outs, DL.seqM, M.bnd, M.ret, M.opt, DL.op2, DL.op1, DL.getV, DL.setM, DL.ifM, DL.tstB, DL.asB, DL.retM, DL.nxM, DL.bltM, DL.consA, DL.consV, DL.refV, DL.callM, DL.argG, DL.refs, DL.putR, DL.mkTup, DL.mkLst, DL.andV, DL.orV, DL.notV, DL.andB, DL.orB, DL.notB, DL.isiM, DL.addD, DL.subD, DL.mulD, DL.gtD, DL.ltD, DL.geD, DL.leD, DL.fdivD, DL.modD, DL.powD, DL.negD, DL.intD, DL.lenD, DL.absD, DL.dropM, DL.parM, DL.eqD_int, DL.neD_int, PySem.sizeLine, ixD, atI, ixN, p]
  | [a, b], _ => simp at p; simp [m_l_sum, DL.ini, DL.agsF, DL.fin, DL.outs, DL.seqM, M.bnd, M.ret, M.opt, DL.op2, DL.op1, DL.getV, DL.setM, DL.ifM, DL.tstB, DL.asB, DL.retM, DL.nxM, DL.bltM, DL.consA, DL.consV, DL.refV, DL.callM, DL.argG, DL.refs, DL.putR, DL.mkTup, DL.mkLst, DL.andV, DL.orV, DL.notV, DL.andB, DL.orB, DL.notB, DL.isiM, DL.addD, DL.subD, DL.mulD, DL.gtD, DL.ltD, DL.geD, DL.leD, DL.fdivD, DL.modD, DL.powD, DL.negD, DL.intD, DL.lenD, DL.absD, DL.dropM, DL.parM, DL.eqD_int, DL.neD_int, PySem.sizeLine, ixD, atI, ixN, p]
  | [a, b, c], _ => simp at p; simp [m_l_sum, DL.ini, DL.agsF, DL.fin, DL.outs, DL.seqM, M.bnd, M.ret, M.opt, DL.op2, DL.op1, DL.getV, DL.setM, DL.ifM, DL.tstB, DL.asB, DL.retM, DL.nxM, DL.bltM, DL.consA, DL.consV, DL.refV, DL.callM, DL.argG, DL.refs, DL.putR, DL.mkTup, DL.mkLst, DL.andV, DL.orV, DL.notV, DL.andB, DL.orB, DL.notB, DL.isiM, DL.addD, DL.subD, DL.mulD, DL.gtD, DL.ltD, DL.geD, DL.leD, DL.fdivD, DL.modD, DL.powD, DL.negD, DL.intD, DL.lenD, DL.absD, DL.dropM, DL.parM, DL.eqD_int, DL.neD_int, PySem.sizeLine, ixD, atI, ixN, p]
  | [a, b, c, d], _ => simp at p; simp [m_l_sum, DL.ini, DL.agsF, DL.fin, DL.outs, DL.seqM, M.bnd, M.ret, M.opt, DL.op2, DL.op1, DL.getV, DL.setM, DL.ifM, DL.tstB, DL.asB, DL.retM, DL.nxM, DL.bltM, DL.consA, DL.consV, DL.refV, DL.callM, DL.argG, DL.refs, DL.putR, DL.mkTup, DL.mkLst, DL.andV, DL.orV, DL.notV, DL.andB, DL.orB, DL.notB, DL.isiM, DL.addD, DL.subD, DL.mulD, DL.gtD, DL.ltD, DL.geD, DL.leD, DL.fdivD, DL.modD, DL.powD, DL.negD, DL.intD, DL.lenD, DL.absD, DL.dropM, DL.parM, DL.eqD_int, DL.neD_int, PySem.sizeLine, ixD, atI, ixN, p]
  | [a, b, c, d, e], _ => simp at p; simp [m_l_sum, DL.ini, DL.agsF, DL.fin, DL.outs, DL.seqM, M.bnd, M.ret, M.opt, DL.op2, DL.op1, DL.getV, DL.setM, DL.ifM, DL.tstB, DL.asB, DL.retM, DL.nxM, DL.bltM, DL.consA, DL.consV, DL.refV, DL.callM, DL.argG, DL.refs, DL.putR, DL.mkTup, DL.mkLst, DL.andV, DL.orV, DL.notV, DL.andB, DL.orB, DL.notB, DL.isiM, DL.addD, DL.subD, DL.mulD, DL.gtD, DL.ltD, DL.geD, DL.leD, DL.fdivD, DL.modD, DL.powD, DL.negD, DL.intD, DL.lenD, DL.absD, DL.dropM, DL.parM, DL.eqD_int, DL.neD_int, PySem.sizeLine, ixD, atI, ixN, p]
  | [a, b, c, d, e, f], _ => simp at p; simp [m_l_sum, DL.ini, DL.agsF, DL.fin, DL.outs, DL.seqM, M.bnd, M.ret, M.opt, DL.op2, DL.op1, DL.getV, DL.setM, DL.ifM, DL.tstB, DL.asB, DL.retM, DL.nxM, DL.bltM, DL.consA, DL.consV, DL.refV, DL.callM, DL.argG, DL.refs, DL.putR, DL.mkTup, DL.mkLst, DL.andV, DL.orV, DL.notV, DL.andB, DL.orB, DL.notB, DL.isiM, DL.addD, DL.subD, DL.mulD, DL.gtD, DL.ltD, DL.geD, DL.leD, DL.fdivD, DL.modD, DL.powD, DL.negD, DL.intD, DL.lenD, DL.absD, DL.dropM, DL.parM, DL.eqD_int, DL.neD_int, PySem.sizeLine, ixD, atI, ixN, p]
  | _ :: _ :: _ :: _ :: _ :: _ :: _ :: _, h => simp at h
/-! ### the sums are right -/
theorem okN_of {n : Nat} {xs : List D} (h : ∀ x ∈ xs, OkN n x) (hn : n < 60) : eqD (.lst xs) (.lst xs) = some (.bl true) := eqD_self (okN_lst h) (by omega)
def toL : D → D
  | .tup xs => .lst xs
  | d => d
theorem rT_tt (q : Rat) : (rT q).tt = rT q := rfl
theorem rL_tt (q : Rat) : (rL q).tt = rT q := rfl
theorem e_sums_right {b : Bag} (hb : 0 ≤ b.at_) {rs : List Rat} (hs : ∀ q ∈ rs, Sm 131 q) (hz : rs.length ≤ 6) : ∃ b', F_l_sums_right [.o (.bag b), .d (.lst (rs.map rT))] = some (.ret (.bl true), [.bag b']) ∧ Nx b b' := by
  obtain ⟨k, b1, h1, n1⟩ := e_one_in hb (m := 3) (by decide) (by decide +kernel)
  have fin_ : ∀ (f : Rat → D) (b1 : Bag), 0 ≤ b1.at_ → (∀ q, ratOf (f q) = q) → (∀ q, IsR (f q) q) → (∀ q, (f q).tt = rT q) → (∀ q, (f q).szd = true ∧ (f q).dep < 6) → ∃ R b2 ys, F_l_sum [.d (.lst (rs.map f))] = some (.ret (rT R), []) ∧ F_l_shuffled [.o (.bag b1), .d (.lst (rs.map f))] = some (.ret (.lst ys), [.bag b2]) ∧
      F_l_sum [.d (.lst ys)] = some (.ret (rT R), []) ∧ Nx b1 b2 ∧ R = rs.foldl (· + ·) 0 ∧ (rs.map f).map D.tt = rs.map rT ∧ ∀ d ∈ rs.map f, F_l_tuples [.d d] = some (.ret d.tt, []) := by
    intro f b1 hb1 hf hi ht hsz
    obtain ⟨ys, b2, h2, hp, n2⟩ := e_shuffled hb1 (xs := rs.map f) (by rw [List.length_map]; omega)
    have all : ∀ y ∈ rs.map f, IsR y (ratOf y) ∧ Sm 131 (ratOf y) := fun y hy => by
      obtain ⟨q, hq, rfl⟩ := List.mem_map.mp hy
      rw [hf]
      exact ⟨hi q, hs q hq⟩
    have s1 := e_l_sum all (by rw [List.length_map]; exact hz) (by decide)
    have s2 := e_l_sum (ds := ys) (fun y hy => all y (hp.mem_iff.mp hy)) (by rw [hp.length_eq, List.length_map]; exact hz) (by decide)
    have e1 : sumD_ ys = sumD_ (rs.map f) := foldl_perm (hp.map ratOf) 0
    rw [e1] at s2
    refine ⟨_, b2, ys, s1, h2, s2, n2, ?_, ?_, fun d hd => ?_⟩
    · unfold sumD_
      rw [List.map_map]
      congr 1
      conv => rhs; rw [← List.map_id rs]
      refine List.map_congr_left fun q _ => hf q
    · rw [List.map_map]
      exact List.map_congr_left fun q _ => ht q
    · obtain ⟨q, hq, rfl⟩ := List.mem_map.mp hd
      exact e_tuples (hsz q).1 (hsz q).2
  have key : Wp (m_l_sums_right F_l_one_in F_l_plain F_l_plus F_l_shuffled F_l_sum F_l_tuples) (fun adr : Nat → Addr => ini adr [.o (.bag b), .d (.lst (rs.map rT))] 8) (Fin [.o (.bag b), .d (.lst (rs.map rT))] fun d os => ∃ b', d = .bl true ∧ os = [.bag b'] ∧ Nx b b') := by
    unfold m_l_sums_right
    have hxl : (rs.map rT).length ≤ 16777216 := by rw [List.length_map]; omega
    refine Wp.seqR (e1 := fun adr => [.own (some (adr 0)) (.bag b), .dat (.lst (rs.map rT)), .dat (rT 0), .un, .un, .un, .un, .un]) (fun adr => by simp [DL.ini, DL.agsF, DL.fin, DL.outs, DL.seqM, M.bnd, M.ret, M.opt, DL.op2, DL.op1, DL.getV, DL.setM, DL.ifM, DL.tstB, DL.asB, DL.retM, DL.nxM, DL.bltM, DL.consA, DL.consV, DL.refV, DL.callM, DL.argG, DL.refs, DL.putR, DL.mkTup, DL.mkLst, DL.andV, DL.orV, DL.notV, DL.andB, DL.orB, DL.notB, DL.isiM, DL.addD, DL.subD, DL.mulD, DL.gtD, DL.ltD, DL.geD, DL.leD, DL.fdivD, DL.modD, DL.powD, DL.negD, DL.intD, DL.lenD, DL.absD, DL.dropM, DL.parM, DL.eqD_int, DL.neD_int, PySem.sizeLine, rT_0]) ?_
    refine Wp.seq (Wp.forM (fun r e => ∃ (p : Rat) (s3 : Sl) (l : List Rat) (k : Nat), r = l.map rT ∧ (∀ q ∈ l, Sm 131 q) ∧ Sm k p ∧ k + 132 * l.length ≤ 1000 ∧ l.foldl (· + ·) p = rs.foldl (· + ·) 0 ∧ e = fun adr => [.own (some (adr 0)) (.bag b), .dat (.lst (rs.map rT)), .dat (rT p), s3, .un, .un, .un, .un]) ?_ ?_ ?_)
    · exact Wp.run (x := rs.map rT) (fun adr => itSeq_run (getV_dat rfl) rfl) ⟨0, .un, rs, 140, rfl, hs, sm_0, by omega, rfl, rfl⟩
    · rintro e ⟨p, s3, l, k', h, _, _, _, ht, rfl⟩
      have hl : l = [] := by simpa using h
      subst hl
      have hp : p = rs.foldl (· + ·) 0 := ht
      generalize rs.foldl (· + ·) 0 = R at hp fin_ ht
      subst hp
      refine Wp.seqR (e1 := fun adr => [.own (some (adr 0)) (.bag b), .dat (.lst (rs.map rT)), .dat (rT p), .un, .own none (.lst (rs.map rT)), .un, .un, .un]) (fun adr => by
        rw [own_run (comp_slot id (x := .lst (rs.map rT)) rfl rfl hxl (fun d hd => by simp [DL.ini, DL.agsF, DL.fin, DL.outs, DL.seqM, M.bnd, M.ret, M.opt, DL.op2, DL.op1, DL.getV, DL.setM, DL.ifM, DL.tstB, DL.asB, DL.retM, DL.nxM, DL.bltM, DL.consA, DL.consV, DL.refV, DL.callM, DL.argG, DL.refs, DL.putR, DL.mkTup, DL.mkLst, DL.andV, DL.orV, DL.notV, DL.andB, DL.orB, DL.notB, DL.isiM, DL.addD, DL.subD, DL.mulD, DL.gtD, DL.ltD, DL.geD, DL.leD, DL.fdivD, DL.modD, DL.powD, DL.negD, DL.intD, DL.lenD, DL.absD, DL.dropM, DL.parM, DL.eqD_int, DL.neD_int, PySem.sizeLine])), List.map_id]
        rfl) ?_
      -- the rows as they are handed
      have rest : ∀ (f : Rat → D) (b1 : Bag), Nx b b1 → (∀ q, ratOf (f q) = q) → (∀ q, IsR (f q) q) → (∀ q, (f q).tt = rT q) → (∀ q, (f q).szd = true ∧ (f q).dep < 6) →
          Wp (seqM (ownM 5 (compM [3] (itSeq (getV 4)) (gSet 3) (M.ret true) (callM F_l_tuples (consV (getV 3) (M.ret [])))))
  (seqM (setM 6 (callM F_l_sum (consV (getV 4) (M.ret []))))
  (seqM (setM 7 (callM F_l_sum (consV (callM F_l_shuffled (refV 0 (consV (getV 4) (M.ret [])))) (M.ret []))))
  (seqM (ifM (orB (notB (tstB (callM F_l_plain (consV (getV 6) (M.ret []))))) (notB (tstB (callM F_l_plain (consV (getV 7) (M.ret [])))))) (retM (M.ret (.bl false))) nxM)
  (retM (andV (op2 eqD (getV 6) (getV 2)) (andV (op2 eqD (getV 7) (getV 2)) (op2 eqD (datM (compM [3] (itSeq (getV 4)) (gSet 3) (M.ret true) (callM F_l_tuples (consV (getV 3) (M.ret []))))) (getV 5)))))))))
            (fun adr : Nat → Addr => [.own (some (adr 0)) (.bag b1), .dat (.lst (rs.map rT)), .dat (rT p), .un, .own none (.lst (rs.map f)), .un, .un, .un]) (Fin [.o (.bag b), .d (.lst (rs.map rT))] fun d os => ∃ b', d = .bl true ∧ os = [.bag b'] ∧ Nx b b') := by
        intro f b1 nb hf hi htt hsz
        obtain ⟨R, b2, ys, g1, g2, g3, g4, g5, g6, g7⟩ := fin_ f b1 nb.ok hf hi htt hsz
        subst g5
        have hl2 : (rs.map f).length ≤ 16777216 := by rw [List.length_map]; omega
        refine Wp.seqR (e1 := fun adr => [.own (some (adr 0)) (.bag b1), .dat (.lst (rs.map rT)), .dat (rT R), .un, .dat (.lst (rs.map f)), .own none (.lst (rs.map rT)), .un, .un]) (fun adr => by
          rw [own_run (comp_own D.tt (xs := rs.map f) (t := none) rfl hl2 (fun d hd => by simp [DL.ini, DL.agsF, DL.fin, DL.outs, DL.seqM, M.bnd, M.ret, M.opt, DL.op2, DL.op1, DL.getV, DL.setM, DL.ifM, DL.tstB, DL.asB, DL.retM, DL.nxM, DL.bltM, DL.consA, DL.consV, DL.refV, DL.callM, DL.argG, DL.refs, DL.putR, DL.mkTup, DL.mkLst, DL.andV, DL.orV, DL.notV, DL.andB, DL.orB, DL.notB, DL.isiM, DL.addD, DL.subD, DL.mulD, DL.gtD, DL.ltD, DL.geD, DL.leD, DL.fdivD, DL.modD, DL.powD, DL.negD, DL.intD, DL.lenD, DL.absD, DL.dropM, DL.parM, DL.eqD_int, DL.neD_int, PySem.sizeLine, g7 d hd])), g6]
          rfl) ?_
        refine Wp.seqR (e1 := fun adr => [.own (some (adr 0)) (.bag b1), .dat (.lst (rs.map rT)), .dat (rT R), .un, .dat (.lst (rs.map f)), .own none (.lst (rs.map rT)), .dat (rT R), .un]) (fun adr => by
          generalize rs.map f = FS' at g1
          simp [DL.ini, DL.agsF, DL.fin, DL.outs, DL.seqM, M.bnd, M.ret, M.opt, DL.op2, DL.op1, DL.getV, DL.setM, DL.ifM, DL.tstB, DL.asB, DL.retM, DL.nxM, DL.bltM, DL.consA, DL.consV, DL.refV, DL.callM, DL.argG, DL.refs, DL.putR, DL.mkTup, DL.mkLst, DL.andV, DL.orV, DL.notV, DL.andB, DL.orB, DL.notB, DL.isiM, DL.addD, DL.subD, DL.mulD, DL.gtD, DL.ltD, DL.geD, DL.leD, DL.fdivD, DL.modD, DL.powD, DL.negD, DL.intD, DL.lenD, DL.absD, DL.dropM, DL.parM, DL.eqD_int, DL.neD_int, PySem.sizeLine, g1]) ?_
        refine Wp.seqR (e1 := fun adr => [.own (some (adr 0)) (.bag b2), .dat (.lst (rs.map rT)), .dat (rT R), .un, .dat (.lst (rs.map f)), .own none (.lst (rs.map rT)), .dat (rT R), .dat (rT R)]) (fun adr => by
          generalize rs.map f = FS' at g2
          simp [DL.ini, DL.agsF, DL.fin, DL.outs, DL.seqM, M.bnd, M.ret, M.opt, DL.op2, DL.op1, DL.getV, DL.setM, DL.ifM, DL.tstB, DL.asB, DL.retM, DL.nxM, DL.bltM, DL.consA, DL.consV, DL.refV, DL.callM, DL.argG, DL.refs, DL.putR, DL.mkTup, DL.mkLst, DL.andV, DL.orV, DL.notV, DL.andB, DL.orB, DL.notB, DL.isiM, DL.addD, DL.subD, DL.mulD, DL.gtD, DL.ltD, DL.geD, DL.leD, DL.fdivD, DL.modD, DL.powD, DL.negD, DL.intD, DL.lenD, DL.absD, DL.dropM, DL.parM, DL.eqD_int, DL.neD_int, PySem.sizeLine, g2, g3]) ?_
        have pl : F_l_plain [.d (rT R)] = some (.ret (.bl true), []) := e_plain rfl rfl (by show 1 < 6; decide)
        refine Wp.seqR (e1 := fun adr => [.own (some (adr 0)) (.bag b2), .dat (.lst (rs.map rT)), .dat (rT R), .un, .dat (.lst (rs.map f)), .own none (.lst (rs.map rT)), .dat (rT R), .dat (rT R)]) (fun adr => by
          simp [DL.ini, DL.agsF, DL.fin, DL.outs, DL.seqM, M.bnd, M.ret, M.opt, DL.op2, DL.op1, DL.getV, DL.setM, DL.ifM, DL.tstB, DL.asB, DL.retM, DL.nxM, DL.bltM, DL.consA, DL.consV, DL.refV, DL.callM, DL.argG, DL.refs, DL.putR, DL.mkTup, DL.mkLst, DL.andV, DL.orV, DL.notV, DL.andB, DL.orB, DL.notB, DL.isiM, DL.addD, DL.subD, DL.mulD, DL.gtD, DL.ltD, DL.geD, DL.leD, DL.fdivD, DL.modD, DL.powD, DL.negD, DL.intD, DL.lenD, DL.absD, DL.dropM, DL.parM, DL.eqD_int, DL.neD_int, PySem.sizeLine, pl]) ?_
        have c : ∀ adr : Nat → Addr, datM (compM [3] (itSeq (getV 4)) (gSet 3) (M.ret true) (callM F_l_tuples (consV (getV 3) (M.ret [])))) [.own (some (adr 0)) (.bag b2), .dat (.lst (rs.map rT)), .dat (rT R), .un, .dat (.lst (rs.map f)), .own none (.lst (rs.map rT)), .dat (rT R), .dat (rT R)] = .ok (.lst (rs.map rT)) [.own (some (adr 0)) (.bag b2), .dat (.lst (rs.map rT)), .dat (rT R), .un, .dat (.lst (rs.map f)), .own none (.lst (rs.map rT)), .dat (rT R), .dat (rT R)] := fun adr => by
          rw [dat_run (comp_slot D.tt (x := .lst (rs.map f)) rfl rfl hl2 (fun d hd => by simp [DL.ini, DL.agsF, DL.fin, DL.outs, DL.seqM, M.bnd, M.ret, M.opt, DL.op2, DL.op1, DL.getV, DL.setM, DL.ifM, DL.tstB, DL.asB, DL.retM, DL.nxM, DL.bltM, DL.consA, DL.consV, DL.refV, DL.callM, DL.argG, DL.refs, DL.putR, DL.mkTup, DL.mkLst, DL.andV, DL.orV, DL.notV, DL.andB, DL.orB, DL.notB, DL.isiM, DL.addD, DL.subD, DL.mulD, DL.gtD, DL.ltD, DL.geD, DL.leD, DL.fdivD, DL.modD, DL.powD, DL.negD, DL.intD, DL.lenD, DL.absD, DL.dropM, DL.parM, DL.eqD_int, DL.neD_int, PySem.sizeLine, g7 d hd])) rfl, g6]
          rfl
        have q1 : eqD (rT R) (rT R) = some (.bl true) := eqD_self okN_rT (by decide)
        have q2 : eqD (.lst (rs.map rT)) (.lst (rs.map rT)) = some (.bl true) := okN_of (n := 1) (fun x hx => by
          obtain ⟨q, hq, rfl⟩ := List.mem_map.mp hx
          exact okN_rT) (by decide)
        generalize datM (compM [3] (itSeq (getV 4)) (gSet 3) (M.ret true) (callM F_l_tuples (consV (getV 3) (M.ret [])))) = C at c ⊢
        refine Wp.run (x := .rt (.bl true)) (e' := fun adr => [.own (some (adr 0)) (.bag b2), .dat (.lst (rs.map rT)), .dat (rT R), .un, .dat (.lst (rs.map f)), .dat (.lst (rs.map rT)), .dat (rT R), .dat (rT R)]) (fun adr => by
          have c' := c adr
          generalize rs.map f = FS' at c'
          generalize rs.map rT = FT at c' q2
          generalize rT R = RR at c' q1
          simp [DL.ini, DL.agsF, DL.fin, DL.outs, DL.seqM, M.bnd, M.ret, M.opt, DL.op2, DL.op1, DL.getV, DL.setM, DL.ifM, DL.tstB, DL.asB, DL.retM, DL.nxM, DL.bltM, DL.consA, DL.consV, DL.refV, DL.callM, DL.argG, DL.refs, DL.putR, DL.mkTup, DL.mkLst, DL.andV, DL.orV, DL.notV, DL.andB, DL.orB, DL.notB, DL.isiM, DL.addD, DL.subD, DL.mulD, DL.gtD, DL.ltD, DL.geD, DL.leD, DL.fdivD, DL.modD, DL.powD, DL.negD, DL.intD, DL.lenD, DL.absD, DL.dropM, DL.parM, DL.eqD_int, DL.neD_int, PySem.sizeLine, q1, q2, c']) ?_
        exact ⟨[.bag b2], fun adr => by simp [outs], b2, rfl, rfl, nb.trans g4⟩
      cases k with
      | false =>
        refine Wp.seq (Wp.ite (b := false) (e1 := fun adr => [.own (some (adr 0)) (.bag b1), .dat (.lst (rs.map rT)), .dat (rT p), .un, .own none (.lst (rs.map rT)), .un, .un, .un]) (fun adr => by simp [DL.ini, DL.agsF, DL.fin, DL.outs, DL.seqM, M.bnd, M.ret, M.opt, DL.op2, DL.op1, DL.getV, DL.setM, DL.ifM, DL.tstB, DL.asB, DL.retM, DL.nxM, DL.bltM, DL.consA, DL.consV, DL.refV, DL.callM, DL.argG, DL.refs, DL.putR, DL.mkTup, DL.mkLst, DL.andV, DL.orV, DL.notV, DL.andB, DL.orB, DL.notB, DL.isiM, DL.addD, DL.subD, DL.mulD, DL.gtD, DL.ltD, DL.geD, DL.leD, DL.fdivD, DL.modD, DL.powD, DL.negD, DL.intD, DL.lenD, DL.absD, DL.dropM, DL.parM, DL.eqD_int, DL.neD_int, PySem.sizeLine, h1]) (fun h => by cases h) (fun _ => Wp.nx ?_))
        exact rest rT b1 n1 ratOf_rT isR_t rT_tt (fun q => ⟨rfl, by show 1 < 6; decide⟩)
      | true =>
        have c : ∀ adr : Nat → Addr, ownM 4 (compM [3] (itSeq (getV 1)) (gSet 3) (M.ret true) (datM (listM (getV 3)))) [.own (some (adr 0)) (.bag b1), .dat (.lst (rs.map rT)), .dat (rT p), .un, .own none (.lst (rs.map rT)), .un, .un, .un] = .ok .nx [.own (some (adr 0)) (.bag b1), .dat (.lst (rs.map rT)), .dat (rT p), .un, .own none (.lst (rs.map rL)), .un, .un, .un] := fun adr => by
          rw [own_run (comp_slot toL (x := .lst (rs.map rT)) rfl rfl hxl (fun d hd => by
            obtain ⟨q, hq, rfl⟩ := List.mem_map.mp hd
            simp [DL.ini, DL.agsF, DL.fin, DL.outs, DL.seqM, M.bnd, M.ret, M.opt, DL.op2, DL.op1, DL.getV, DL.setM, DL.ifM, DL.tstB, DL.asB, DL.retM, DL.nxM, DL.bltM, DL.consA, DL.consV, DL.refV, DL.callM, DL.argG, DL.refs, DL.putR, DL.mkTup, DL.mkLst, DL.andV, DL.orV, DL.notV, DL.andB, DL.orB, DL.notB, DL.isiM, DL.addD, DL.subD, DL.mulD, DL.gtD, DL.ltD, DL.geD, DL.leD, DL.fdivD, DL.modD, DL.powD, DL.negD, DL.intD, DL.lenD, DL.absD, DL.dropM, DL.parM, DL.eqD_int, DL.neD_int, PySem.sizeLine, datM, listM, frzO, seqOf, toL, rT])), List.map_map]
          rfl
        generalize ownM 4 (compM [3] (itSeq (getV 1)) (gSet 3) (M.ret true) (datM (listM (getV 3)))) = C at c ⊢
        refine Wp.seq (Wp.ite (b := true) (e1 := fun adr => [.own (some (adr 0)) (.bag b1), .dat (.lst (rs.map rT)), .dat (rT p), .un, .own none (.lst (rs.map rT)), .un, .un, .un]) (fun adr => by simp [DL.ini, DL.agsF, DL.fin, DL.outs, DL.seqM, M.bnd, M.ret, M.opt, DL.op2, DL.op1, DL.getV, DL.setM, DL.ifM, DL.tstB, DL.asB, DL.retM, DL.nxM, DL.bltM, DL.consA, DL.consV, DL.refV, DL.callM, DL.argG, DL.refs, DL.putR, DL.mkTup, DL.mkLst, DL.andV, DL.orV, DL.notV, DL.andB, DL.orB, DL.notB, DL.isiM, DL.addD, DL.subD, DL.mulD, DL.gtD, DL.ltD, DL.geD, DL.leD, DL.fdivD, DL.modD, DL.powD, DL.negD, DL.intD, DL.lenD, DL.absD, DL.dropM, DL.parM, DL.eqD_int, DL.neD_int, PySem.sizeLine, h1]) (fun _ => Wp.run c ?_) (fun h => by cases h))
        exact rest rL b1 n1 ratOf_rL isR_l rL_tt (fun q => ⟨rfl, by show 1 < 6; decide⟩)
    · rintro d r e ⟨p, s3, l, k', h, hl, hk, hkl, ht, rfl⟩
      cases l with
      | nil => cases h
      | cons q l =>
        cases h
        have hq := hl q List.mem_cons_self
        have pl := e_l_plus (k := 1000) (by decide) (hk.mono (by simp at hkl; omega)) (hq.mono (by decide)) (isR_t p) (isR_t q)
        refine ⟨fun adr => [.own (some (adr 0)) (.bag b), .dat (.lst (rs.map rT)), .dat (rT p), .dat (rT q), .un, .un, .un, .un], fun adr => rfl, Wp.run (x := .nx) (e' := fun adr => [.own (some (adr 0)) (.bag b), .dat (.lst (rs.map rT)), .dat (rT (p + q)), .dat (rT q), .un, .un, .un, .un]) (fun adr => by simp [DL.ini, DL.agsF, DL.fin, DL.outs, DL.seqM, M.bnd, M.ret, M.opt, DL.op2, DL.op1, DL.getV, DL.setM, DL.ifM, DL.tstB, DL.asB, DL.retM, DL.nxM, DL.bltM, DL.consA, DL.consV, DL.refV, DL.callM, DL.argG, DL.refs, DL.putR, DL.mkTup, DL.mkLst, DL.andV, DL.orV, DL.notV, DL.andB, DL.orB, DL.notB, DL.isiM, DL.addD, DL.subD, DL.mulD, DL.gtD, DL.ltD, DL.geD, DL.leD, DL.fdivD, DL.modD, DL.powD, DL.negD, DL.intD, DL.lenD, DL.absD, DL.dropM, DL.parM, DL.eqD_int, DL.neD_int, PySem.sizeLine, pl]) ?_⟩
        exact ⟨p + q, .dat (rT q), l, k' + 131 + 1, rfl, fun y hy => hl y (List.mem_cons_of_mem _ hy), sm_add2 hk hq, by simp at hkl; omega, ht, rfl⟩
  obtain ⟨d, os, h, b', rfl, rfl, h2⟩ := Wp.fn (p := 2) rfl key
  exact ⟨b', h, h2⟩
end K01
set_option maxRecDepth 100000
set_option maxHeartbeats 4000000
namespace K01
open PySem L2 DL PyProof.Rows
/-! ### a ratio made or refused -/
theorem lk_top : ((("top" : Str) == ("top" : Str)) = true) := by decide +kernel
theorem lk_bottom : ((("bottom" : Str) == ("top" : Str)) = false) := by decide +kernel
theorem lk_bottom2 : ((("bottom" : Str) == ("bottom" : Str)) = true) := by decide +kernel
theorem e_made_zero {t : Int} : F_l_made [.d (.int t), .d (.int 0)] = some (.ret (.tup [.str ("refused" : Str), .int t, .int 0, .bl true]), []) := autoF_eq rfl fun adr => by
  have h := e_ratio_zero (t := t)
  simp [m_l_made, DL.ini, DL.agsF, DL.fin, DL.outs, DL.seqM, M.bnd, M.ret, M.opt, DL.op2, DL.op1, DL.getV, DL.setM, DL.ifM, DL.tstB, DL.asB, DL.retM, DL.nxM, DL.bltM, DL.consA, DL.consV, DL.refV, DL.callM, DL.argG, DL.refs, DL.putR, DL.mkTup, DL.mkLst, DL.andV, DL.orV, DL.notV, DL.andB, DL.orB, DL.notB, DL.isiM, DL.addD, DL.subD, DL.mulD, DL.gtD, DL.ltD, DL.geD, DL.leD, DL.fdivD, DL.modD, DL.powD, DL.negD, DL.intD, DL.lenD, DL.absD, DL.dropM, DL.parM, DL.eqD_int, DL.neD_int, PySem.sizeLine, tryM, handleM, suR, suE, DL.clean, isEM, xfM, t_BadRatio, h, List.lookup, lk_top, lk_bottom, lk_bottom2]
theorem e_made_ok {t u : Int} {q : Rat} (h : F_ratio [.d (.int t), .d (.int u)] = some (.ret (rT q), [])) : F_l_made [.d (.int t), .d (.int u)] = some (.ret (.tup [.str ("made" : Str), rT q, .int 0, .bl true]), []) := autoF_eq rfl fun adr => by
  simp [m_l_made, DL.ini, DL.agsF, DL.fin, DL.outs, DL.seqM, M.bnd, M.ret, M.opt, DL.op2, DL.op1, DL.getV, DL.setM, DL.ifM, DL.tstB, DL.asB, DL.retM, DL.nxM, DL.bltM, DL.consA, DL.consV, DL.refV, DL.callM, DL.argG, DL.refs, DL.putR, DL.mkTup, DL.mkLst, DL.andV, DL.orV, DL.notV, DL.andB, DL.orB, DL.notB, DL.isiM, DL.addD, DL.subD, DL.mulD, DL.gtD, DL.ltD, DL.geD, DL.leD, DL.fdivD, DL.modD, DL.powD, DL.negD, DL.intD, DL.lenD, DL.absD, DL.dropM, DL.parM, DL.eqD_int, DL.neD_int, PySem.sizeLine, tryM, h]
theorem ok_refused : PyData.strOk ("refused" : Str) = true := by decide +kernel
theorem ok_made : PyData.strOk ("made" : Str) = true := by decide +kernel
theorem okN_4 {n : Nat} {a b c d : D} (h1 : OkN n a) (h2 : OkN n b) (h3 : OkN n c) (h4 : OkN n d) : OkN (n + 1) (.tup [a, b, c, d]) := okN_tup fun x hx => by
  simp at hx
  rcases hx with rfl | rfl | rfl | rfl <;> assumption
theorem okN_2 {n : Nat} {a b : D} (h1 : OkN n a) (h2 : OkN n b) : OkN (n + 1) (.tup [a, b]) := okN_tup fun x hx => by
  simp at hx
  rcases hx with rfl | rfl <;> assumption
theorem e_ratio_1 {t : Int} (h : t.natAbs < 2 ^ 8000) : F_ratio_1 [.d (.int t)] = some (.ret (rT t), []) := by
  have e := e_ratio_pos 0 (t := t) (u := 1) (by decide) (by decide +kernel)
  rw [Rat.mkRat_one] at e
  show autoF 2 (m_ratio F_common F_ratio) N_ratio.length [.d (.int t), .d (.int 1)] = _
  refine autoF_eq rfl fun adr => ?_
  have c : F_common [.d (.int t.natAbs), .d (.int 1)] = some (.ret (.int 1), []) := by
    have := e_common t.natAbs 1
    simpa using this
  have l1 : Nat.log2 1 < 9000 := by decide +kernel
  generalize F_ratio = G
  simp [m_ratio, DL.ini, DL.agsF, DL.fin, DL.outs, DL.seqM, M.bnd, M.ret, M.opt, DL.op2, DL.op1, DL.getV, DL.setM, DL.ifM, DL.tstB, DL.asB, DL.retM, DL.nxM, DL.bltM, DL.consA, DL.consV, DL.refV, DL.callM, DL.argG, DL.refs, DL.putR, DL.mkTup, DL.mkLst, DL.andV, DL.orV, DL.notV, DL.andB, DL.orB, DL.notB, DL.isiM, DL.addD, DL.subD, DL.mulD, DL.gtD, DL.ltD, DL.geD, DL.leD, DL.fdivD, DL.modD, DL.powD, DL.negD, DL.intD, DL.lenD, DL.absD, DL.dropM, DL.parM, DL.eqD_int, DL.neD_int, PySem.sizeLine, abs_is, c, rT, l1]
/-- slice of the first three -/
theorem slice3_tup {a b c d : D} : sliceD (.tup [a, b, c, d]) none (some 3) = some (.tup [a, b, c]) := by
  unfold sliceD cutL HT.sIx
  rfl
theorem made_tail {b b0 : Bag} (hb : Nx b0 b) {s4 s5 s6 : Sl} {x : D} {t u : Int} (ht : t.natAbs < 2 ^ 200) (hu : u.natAbs < 2 ^ 200) :
    Wp (seqM (setM 4 (mkTup (consA (M.ret (.str ("refused" : Str))) (consA (getV 2) (consA (getV 3) (consA (M.ret (.bl true)) (M.ret [])))))))
  (seqM (ifM (tstB (op2 gtD (getV 3) (M.ret (.int 0)))) (setM 4 (mkTup (consA (M.ret (.str ("made" : Str))) (consA (callM F_l_ratio (consV (getV 2) (consV (getV 3) (M.ret [])))) (consA (M.ret (.int 0)) (consA (M.ret (.bl true)) (M.ret []))))))) nxM)
  (seqM (ifM (tstB (op2 ltD (getV 3) (M.ret (.int 0)))) (setM 4 (mkTup (consA (M.ret (.str ("made" : Str))) (consA (callM F_l_ratio (consV (op1 negD (getV 2)) (consV (op1 negD (getV 3)) (M.ret [])))) (consA (M.ret (.int 0)) (consA (M.ret (.bl true)) (M.ret []))))))) nxM)
  (seqM (setM 5 (callM F_l_made (consV (getV 2) (consV (getV 3) (M.ret [])))))
  (seqM (ifM (orB (tstB (op2 neD (getV 5) (getV 4))) (notB (tstB (callM F_l_plain (consV (slice3 (getV 5) partN (partD (M.ret (.int 3)))) (M.ret [])))))) (retM (M.ret (.bl false))) nxM)
  (seqM (setM 6 (callM F_ratio_1 (consV (getV 2) (M.ret []))))
  (retM (andV (callM F_l_plain (consV (getV 6) (M.ret []))) (op2 eqD (getV 6) (mkTup (consA (getV 2) (consA (M.ret (.int 1)) (M.ret [])))))))))))))
      (fun adr : Nat → Addr => [.own (some (adr 0)) (.bag b), .dat x, .dat (.int t), .dat (.int u), s4, s5, s6]) (Fin [.o (.bag b0), .d x] fun d os => ∃ b', d = .bl true ∧ os = [.bag b'] ∧ Nx b0 b') := by
  have r1 := e_ratio_1 (t := t) (Nat.lt_of_lt_of_le ht (Nat.pow_le_pow_right (by decide) (by decide)))
  have pw : F_l_plain [.d (rT t)] = some (.ret (.bl true), []) := e_plain rfl rfl (by show 1 < 6; decide)
  have ew : eqD (rT t) (.tup [.int t, .int 1]) = some (.bl true) := eqD_self (a := rT t) okN_rT (by decide)
  have fin1 : ∀ (f : D) (e4 e5 : D), F_l_made [.d (.int t), .d (.int u)] = some (.ret f, []) → OkN 2 f → (∃ y, sliceD f none (some 3) = some y ∧ F_l_plain [.d y] = some (.ret (.bl true), [])) →
      Wp (seqM (setM 5 (callM F_l_made (consV (getV 2) (consV (getV 3) (M.ret [])))))
  (seqM (ifM (orB (tstB (op2 neD (getV 5) (getV 4))) (notB (tstB (callM F_l_plain (consV (slice3 (getV 5) partN (partD (M.ret (.int 3)))) (M.ret [])))))) (retM (M.ret (.bl false))) nxM)
  (seqM (setM 6 (callM F_ratio_1 (consV (getV 2) (M.ret []))))
  (retM (andV (callM F_l_plain (consV (getV 6) (M.ret []))) (op2 eqD (getV 6) (mkTup (consA (getV 2) (consA (M.ret (.int 1)) (M.ret []))))))))))
      (fun adr : Nat → Addr => [.own (some (adr 0)) (.bag b), .dat x, .dat (.int t), .dat (.int u), .dat f, s5, s6]) (Fin [.o (.bag b0), .d x] fun d os => ∃ b', d = .bl true ∧ os = [.bag b'] ∧ Nx b0 b') := by
    intro f _ _ hm hok ⟨y, hy, hp⟩
    have nn : neD f f = some (.bl false) := neD_self hok (by decide)
    refine Wp.run (x := .rt (.bl true)) (e' := fun adr => [.own (some (adr 0)) (.bag b), .dat x, .dat (.int t), .dat (.int u), .dat f, .dat f, .dat (rT t)]) (fun adr => ?_) ⟨[.bag b], fun adr => by simp [outs], b, rfl, rfl, hb⟩
    generalize rT t = RT at r1 pw ew ⊢
    simp [DL.ini, DL.agsF, DL.fin, DL.outs, DL.seqM, M.bnd, M.ret, M.opt, DL.op2, DL.op1, DL.getV, DL.setM, DL.ifM, DL.tstB, DL.asB, DL.retM, DL.nxM, DL.bltM, DL.consA, DL.consV, DL.refV, DL.callM, DL.argG, DL.refs, DL.putR, DL.mkTup, DL.mkLst, DL.andV, DL.orV, DL.notV, DL.andB, DL.orB, DL.notB, DL.isiM, DL.addD, DL.subD, DL.mulD, DL.gtD, DL.ltD, DL.geD, DL.leD, DL.fdivD, DL.modD, DL.powD, DL.negD, DL.intD, DL.lenD, DL.absD, DL.dropM, DL.parM, DL.eqD_int, DL.neD_int, PySem.sizeLine, slice3, partN, partD, hm, nn, hy, hp, r1, pw, ew]
  rcases Int.lt_trichotomy u 0 with h | h | h
  · obtain ⟨n, rfl⟩ : ∃ n : Nat, u = -(n : Int) := ⟨u.natAbs, by omega⟩
    have hn : 0 < n := by omega
    have hn2 : n < 2 ^ 8000 := Nat.lt_of_lt_of_le (by simpa using hu : n < 2 ^ 200) (Nat.pow_le_pow_right (by decide) (by decide))
    have m := e_made_ok (e_ratio_neg (t := t) hn hn2)
    have l := e_l_ratio (t := -t) hn hn2
    have fz := fin1 _ .non .non m (okN_4 (okN_str ok_made |>.mono (by decide)) okN_rT (okN_int.mono (by decide)) (okN_bl.mono (by decide))) ⟨_, slice3_tup, e_plain rfl rfl (by show 2 < 6; decide)⟩
    generalize rT (mkRat (-t) n) = R at m l fz
    refine Wp.seqR (e1 := fun adr => [.own (some (adr 0)) (.bag b), .dat x, .dat (.int t), .dat (.int (-(n : Int))), .dat (.tup [.str ("refused" : Str), .int t, .int (-(n : Int)), .bl true]), s5, s6]) (fun adr => by simp [DL.ini, DL.agsF, DL.fin, DL.outs, DL.seqM, M.bnd, M.ret, M.opt, DL.op2, DL.op1, DL.getV, DL.setM, DL.ifM, DL.tstB, DL.asB, DL.retM, DL.nxM, DL.bltM, DL.consA, DL.consV, DL.refV, DL.callM, DL.argG, DL.refs, DL.putR, DL.mkTup, DL.mkLst, DL.andV, DL.orV, DL.notV, DL.andB, DL.orB, DL.notB, DL.isiM, DL.addD, DL.subD, DL.mulD, DL.gtD, DL.ltD, DL.geD, DL.leD, DL.fdivD, DL.modD, DL.powD, DL.negD, DL.intD, DL.lenD, DL.absD, DL.dropM, DL.parM, DL.eqD_int, DL.neD_int, PySem.sizeLine]) ?_
    refine Wp.seqR (e1 := fun adr => [.own (some (adr 0)) (.bag b), .dat x, .dat (.int t), .dat (.int (-(n : Int))), .dat (.tup [.str ("refused" : Str), .int t, .int (-(n : Int)), .bl true]), s5, s6]) (fun adr => by
      have q : ¬ (n : Int) < 0 := by omega
      simp [DL.ini, DL.agsF, DL.fin, DL.outs, DL.seqM, M.bnd, M.ret, M.opt, DL.op2, DL.op1, DL.getV, DL.setM, DL.ifM, DL.tstB, DL.asB, DL.retM, DL.nxM, DL.bltM, DL.consA, DL.consV, DL.refV, DL.callM, DL.argG, DL.refs, DL.putR, DL.mkTup, DL.mkLst, DL.andV, DL.orV, DL.notV, DL.andB, DL.orB, DL.notB, DL.isiM, DL.addD, DL.subD, DL.mulD, DL.gtD, DL.ltD, DL.geD, DL.leD, DL.fdivD, DL.modD, DL.powD, DL.negD, DL.intD, DL.lenD, DL.absD, DL.dropM, DL.parM, DL.eqD_int, DL.neD_int, PySem.sizeLine, q]) ?_
    refine Wp.seqR (e1 := fun adr => [.own (some (adr 0)) (.bag b), .dat x, .dat (.int t), .dat (.int (-(n : Int))), .dat (.tup [.str ("made" : Str), R, .int 0, .bl true]), s5, s6]) (fun adr => by
      simp [DL.ini, DL.agsF, DL.fin, DL.outs, DL.seqM, M.bnd, M.ret, M.opt, DL.op2, DL.op1, DL.getV, DL.setM, DL.ifM, DL.tstB, DL.asB, DL.retM, DL.nxM, DL.bltM, DL.consA, DL.consV, DL.refV, DL.callM, DL.argG, DL.refs, DL.putR, DL.mkTup, DL.mkLst, DL.andV, DL.orV, DL.notV, DL.andB, DL.orB, DL.notB, DL.isiM, DL.addD, DL.subD, DL.mulD, DL.gtD, DL.ltD, DL.geD, DL.leD, DL.fdivD, DL.modD, DL.powD, DL.negD, DL.intD, DL.lenD, DL.absD, DL.dropM, DL.parM, DL.eqD_int, DL.neD_int, PySem.sizeLine, hn, l]) ?_
    exact fz
  · subst h
    have m := e_made_zero (t := t)
    have fz := fin1 _ .non .non m (okN_4 (okN_str ok_refused |>.mono (by decide)) (okN_int.mono (by decide)) (okN_int.mono (by decide)) (okN_bl.mono (by decide))) ⟨_, slice3_tup, e_plain rfl rfl (by show 1 < 6; decide)⟩
    refine Wp.seqR (e1 := fun adr => [.own (some (adr 0)) (.bag b), .dat x, .dat (.int t), .dat (.int 0), .dat (.tup [.str ("refused" : Str), .int t, .int 0, .bl true]), s5, s6]) (fun adr => by simp [DL.ini, DL.agsF, DL.fin, DL.outs, DL.seqM, M.bnd, M.ret, M.opt, DL.op2, DL.op1, DL.getV, DL.setM, DL.ifM, DL.tstB, DL.asB, DL.retM, DL.nxM, DL.bltM, DL.consA, DL.consV, DL.refV, DL.callM, DL.argG, DL.refs, DL.putR, DL.mkTup, DL.mkLst, DL.andV, DL.orV, DL.notV, DL.andB, DL.orB, DL.notB, DL.isiM, DL.addD, DL.subD, DL.mulD, DL.gtD, DL.ltD, DL.geD, DL.leD, DL.fdivD, DL.modD, DL.powD, DL.negD, DL.intD, DL.lenD, DL.absD, DL.dropM, DL.parM, DL.eqD_int, DL.neD_int, PySem.sizeLine]) ?_
    refine Wp.seqR (e1 := fun adr => [.own (some (adr 0)) (.bag b), .dat x, .dat (.int t), .dat (.int 0), .dat (.tup [.str ("refused" : Str), .int t, .int 0, .bl true]), s5, s6]) (fun adr => by simp [DL.ini, DL.agsF, DL.fin, DL.outs, DL.seqM, M.bnd, M.ret, M.opt, DL.op2, DL.op1, DL.getV, DL.setM, DL.ifM, DL.tstB, DL.asB, DL.retM, DL.nxM, DL.bltM, DL.consA, DL.consV, DL.refV, DL.callM, DL.argG, DL.refs, DL.putR, DL.mkTup, DL.mkLst, DL.andV, DL.orV, DL.notV, DL.andB, DL.orB, DL.notB, DL.isiM, DL.addD, DL.subD, DL.mulD, DL.gtD, DL.ltD, DL.geD, DL.leD, DL.fdivD, DL.modD, DL.powD, DL.negD, DL.intD, DL.lenD, DL.absD, DL.dropM, DL.parM, DL.eqD_int, DL.neD_int, PySem.sizeLine]) ?_
    refine Wp.seqR (e1 := fun adr => [.own (some (adr 0)) (.bag b), .dat x, .dat (.int t), .dat (.int 0), .dat (.tup [.str ("refused" : Str), .int t, .int 0, .bl true]), s5, s6]) (fun adr => by simp [DL.ini, DL.agsF, DL.fin, DL.outs, DL.seqM, M.bnd, M.ret, M.opt, DL.op2, DL.op1, DL.getV, DL.setM, DL.ifM, DL.tstB, DL.asB, DL.retM, DL.nxM, DL.bltM, DL.consA, DL.consV, DL.refV, DL.callM, DL.argG, DL.refs, DL.putR, DL.mkTup, DL.mkLst, DL.andV, DL.orV, DL.notV, DL.andB, DL.orB, DL.notB, DL.isiM, DL.addD, DL.subD, DL.mulD, DL.gtD, DL.ltD, DL.geD, DL.leD, DL.fdivD, DL.modD, DL.powD, DL.negD, DL.intD, DL.lenD, DL.absD, DL.dropM, DL.parM, DL.eqD_int, DL.neD_int, PySem.sizeLine]) ?_
    exact fz
  · obtain ⟨n, rfl⟩ : ∃ n : Nat, u = (n : Int) := ⟨u.natAbs, by omega⟩
    have hn : 0 < n := by omega
    have hn2 : n < 2 ^ 8000 := Nat.lt_of_lt_of_le (by simpa using hu : n < 2 ^ 200) (Nat.pow_le_pow_right (by decide) (by decide))
    have m := e_made_ok (e_ratio (t := t) hn hn2)
    have l := e_l_ratio (t := t) hn hn2
    have fz := fin1 _ .non .non m (okN_4 (okN_str ok_made |>.mono (by decide)) okN_rT (okN_int.mono (by decide)) (okN_bl.mono (by decide))) ⟨_, slice3_tup, e_plain rfl rfl (by show 2 < 6; decide)⟩
    generalize rT (mkRat t n) = R at m l fz
    refine Wp.seqR (e1 := fun adr => [.own (some (adr 0)) (.bag b), .dat x, .dat (.int t), .dat (.int n), .dat (.tup [.str ("refused" : Str), .int t, .int n, .bl true]), s5, s6]) (fun adr => by simp [DL.ini, DL.agsF, DL.fin, DL.outs, DL.seqM, M.bnd, M.ret, M.opt, DL.op2, DL.op1, DL.getV, DL.setM, DL.ifM, DL.tstB, DL.asB, DL.retM, DL.nxM, DL.bltM, DL.consA, DL.consV, DL.refV, DL.callM, DL.argG, DL.refs, DL.putR, DL.mkTup, DL.mkLst, DL.andV, DL.orV, DL.notV, DL.andB, DL.orB, DL.notB, DL.isiM, DL.addD, DL.subD, DL.mulD, DL.gtD, DL.ltD, DL.geD, DL.leD, DL.fdivD, DL.modD, DL.powD, DL.negD, DL.intD, DL.lenD, DL.absD, DL.dropM, DL.parM, DL.eqD_int, DL.neD_int, PySem.sizeLine]) ?_
    refine Wp.seqR (e1 := fun adr => [.own (some (adr 0)) (.bag b), .dat x, .dat (.int t), .dat (.int n), .dat (.tup [.str ("made" : Str), R, .int 0, .bl true]), s5, s6]) (fun adr => by
      simp [DL.ini, DL.agsF, DL.fin, DL.outs, DL.seqM, M.bnd, M.ret, M.opt, DL.op2, DL.op1, DL.getV, DL.setM, DL.ifM, DL.tstB, DL.asB, DL.retM, DL.nxM, DL.bltM, DL.consA, DL.consV, DL.refV, DL.callM, DL.argG, DL.refs, DL.putR, DL.mkTup, DL.mkLst, DL.andV, DL.orV, DL.notV, DL.andB, DL.orB, DL.notB, DL.isiM, DL.addD, DL.subD, DL.mulD, DL.gtD, DL.ltD, DL.geD, DL.leD, DL.fdivD, DL.modD, DL.powD, DL.negD, DL.intD, DL.lenD, DL.absD, DL.dropM, DL.parM, DL.eqD_int, DL.neD_int, PySem.sizeLine, hn, l]) ?_
    refine Wp.seqR (e1 := fun adr => [.own (some (adr 0)) (.bag b), .dat x, .dat (.int t), .dat (.int n), .dat (.tup [.str ("made" : Str), R, .int 0, .bl true]), s5, s6]) (fun adr => by
      have q : ¬ (n : Int) < 0 := by omega
      simp [DL.ini, DL.agsF, DL.fin, DL.outs, DL.seqM, M.bnd, M.ret, M.opt, DL.op2, DL.op1, DL.getV, DL.setM, DL.ifM, DL.tstB, DL.asB, DL.retM, DL.nxM, DL.bltM, DL.consA, DL.consV, DL.refV, DL.callM, DL.argG, DL.refs, DL.putR, DL.mkTup, DL.mkLst, DL.andV, DL.orV, DL.notV, DL.andB, DL.orB, DL.notB, DL.isiM, DL.addD, DL.subD, DL.mulD, DL.gtD, DL.ltD, DL.geD, DL.leD, DL.fdivD, DL.modD, DL.powD, DL.negD, DL.intD, DL.lenD, DL.absD, DL.dropM, DL.parM, DL.eqD_int, DL.neD_int, PySem.sizeLine, q]) ?_
    exact fz
theorem e_made_right {b : Bag} (hb : 0 ≤ b.at_) {z : Int} (hz : z = 0 ∨ z = 1 ∨ z = 2 ∨ z = 3) : ∃ b', F_l_made_right [.o (.bag b), .d (.int z)] = some (.ret (.bl true), [.bag b']) ∧ Nx b b' := by
  obtain ⟨t, b1, g1, ht, n1⟩ := e_number_of hb hz
  obtain ⟨u, b2, g2, hu, n2⟩ := e_number_of n1.ok hz
  obtain ⟨k1, b3, g3, n3⟩ := e_one_in n2.ok (m := 5) (by decide) (by decide +kernel)
  obtain ⟨k2, b4, g4, n4⟩ := e_one_in n3.ok (m := 4) (by decide) (by decide +kernel)
  have n14 := ((n1.trans n2).trans n3).trans n4
  have key : Wp (m_l_made_right F_ratio_1 F_l_made F_l_number_of F_l_one_in F_l_plain F_l_ratio) (fun adr : Nat → Addr => ini adr [.o (.bag b), .d (.int z)] 7) (Fin [.o (.bag b), .d (.int z)] fun d os => ∃ b', d = .bl true ∧ os = [.bag b'] ∧ Nx b b') := by
    unfold m_l_made_right
    refine Wp.seqR (e1 := fun adr => [.own (some (adr 0)) (.bag b1), .dat (.int z), .dat (.int t), .un, .un, .un, .un]) (fun adr => by simp [DL.ini, DL.agsF, DL.fin, DL.outs, DL.seqM, M.bnd, M.ret, M.opt, DL.op2, DL.op1, DL.getV, DL.setM, DL.ifM, DL.tstB, DL.asB, DL.retM, DL.nxM, DL.bltM, DL.consA, DL.consV, DL.refV, DL.callM, DL.argG, DL.refs, DL.putR, DL.mkTup, DL.mkLst, DL.andV, DL.orV, DL.notV, DL.andB, DL.orB, DL.notB, DL.isiM, DL.addD, DL.subD, DL.mulD, DL.gtD, DL.ltD, DL.geD, DL.leD, DL.fdivD, DL.modD, DL.powD, DL.negD, DL.intD, DL.lenD, DL.absD, DL.dropM, DL.parM, DL.eqD_int, DL.neD_int, PySem.sizeLine, g1]) ?_
    refine Wp.seqR (e1 := fun adr => [.own (some (adr 0)) (.bag b2), .dat (.int z), .dat (.int t), .dat (.int u), .un, .un, .un]) (fun adr => by simp [DL.ini, DL.agsF, DL.fin, DL.outs, DL.seqM, M.bnd, M.ret, M.opt, DL.op2, DL.op1, DL.getV, DL.setM, DL.ifM, DL.tstB, DL.asB, DL.retM, DL.nxM, DL.bltM, DL.consA, DL.consV, DL.refV, DL.callM, DL.argG, DL.refs, DL.putR, DL.mkTup, DL.mkLst, DL.andV, DL.orV, DL.notV, DL.andB, DL.orB, DL.notB, DL.isiM, DL.addD, DL.subD, DL.mulD, DL.gtD, DL.ltD, DL.geD, DL.leD, DL.fdivD, DL.modD, DL.powD, DL.negD, DL.intD, DL.lenD, DL.absD, DL.dropM, DL.parM, DL.eqD_int, DL.neD_int, PySem.sizeLine, g2]) ?_
    have m2 : ∀ x : Int, mulOk x 2 = true := fun x => mulOk_r (by decide)
    cases k1 with
    | true =>
      refine Wp.seqR (e1 := fun adr => [.own (some (adr 0)) (.bag b3), .dat (.int z), .dat (.int t), .dat (.int 0), .un, .un, .un]) (fun adr => by simp [DL.ini, DL.agsF, DL.fin, DL.outs, DL.seqM, M.bnd, M.ret, M.opt, DL.op2, DL.op1, DL.getV, DL.setM, DL.ifM, DL.tstB, DL.asB, DL.retM, DL.nxM, DL.bltM, DL.consA, DL.consV, DL.refV, DL.callM, DL.argG, DL.refs, DL.putR, DL.mkTup, DL.mkLst, DL.andV, DL.orV, DL.notV, DL.andB, DL.orB, DL.notB, DL.isiM, DL.addD, DL.subD, DL.mulD, DL.gtD, DL.ltD, DL.geD, DL.leD, DL.fdivD, DL.modD, DL.powD, DL.negD, DL.intD, DL.lenD, DL.absD, DL.dropM, DL.parM, DL.eqD_int, DL.neD_int, PySem.sizeLine, g3]) ?_
      cases k2 with
      | true =>
        refine Wp.seqR (e1 := fun adr => [.own (some (adr 0)) (.bag b4), .dat (.int z), .dat (.int (t * 2)), .dat (.int (0 * 2)), .un, .un, .un]) (fun adr => by simp [DL.ini, DL.agsF, DL.fin, DL.outs, DL.seqM, M.bnd, M.ret, M.opt, DL.op2, DL.op1, DL.getV, DL.setM, DL.ifM, DL.tstB, DL.asB, DL.retM, DL.nxM, DL.bltM, DL.consA, DL.consV, DL.refV, DL.callM, DL.argG, DL.refs, DL.putR, DL.mkTup, DL.mkLst, DL.andV, DL.orV, DL.notV, DL.andB, DL.orB, DL.notB, DL.isiM, DL.addD, DL.subD, DL.mulD, DL.gtD, DL.ltD, DL.geD, DL.leD, DL.fdivD, DL.modD, DL.powD, DL.negD, DL.intD, DL.lenD, DL.absD, DL.dropM, DL.parM, DL.eqD_int, DL.neD_int, PySem.sizeLine, g4, m2]) ?_
        exact made_tail n14 (by omega) (by decide)
      | false =>
        refine Wp.seqR (e1 := fun adr => [.own (some (adr 0)) (.bag b4), .dat (.int z), .dat (.int t), .dat (.int 0), .un, .un, .un]) (fun adr => by simp [DL.ini, DL.agsF, DL.fin, DL.outs, DL.seqM, M.bnd, M.ret, M.opt, DL.op2, DL.op1, DL.getV, DL.setM, DL.ifM, DL.tstB, DL.asB, DL.retM, DL.nxM, DL.bltM, DL.consA, DL.consV, DL.refV, DL.callM, DL.argG, DL.refs, DL.putR, DL.mkTup, DL.mkLst, DL.andV, DL.orV, DL.notV, DL.andB, DL.orB, DL.notB, DL.isiM, DL.addD, DL.subD, DL.mulD, DL.gtD, DL.ltD, DL.geD, DL.leD, DL.fdivD, DL.modD, DL.powD, DL.negD, DL.intD, DL.lenD, DL.absD, DL.dropM, DL.parM, DL.eqD_int, DL.neD_int, PySem.sizeLine, g4]) ?_
        exact made_tail n14 (by omega) (by decide)
    | false =>
      refine Wp.seqR (e1 := fun adr => [.own (some (adr 0)) (.bag b3), .dat (.int z), .dat (.int t), .dat (.int u), .un, .un, .un]) (fun adr => by simp [DL.ini, DL.agsF, DL.fin, DL.outs, DL.seqM, M.bnd, M.ret, M.opt, DL.op2, DL.op1, DL.getV, DL.setM, DL.ifM, DL.tstB, DL.asB, DL.retM, DL.nxM, DL.bltM, DL.consA, DL.consV, DL.refV, DL.callM, DL.argG, DL.refs, DL.putR, DL.mkTup, DL.mkLst, DL.andV, DL.orV, DL.notV, DL.andB, DL.orB, DL.notB, DL.isiM, DL.addD, DL.subD, DL.mulD, DL.gtD, DL.ltD, DL.geD, DL.leD, DL.fdivD, DL.modD, DL.powD, DL.negD, DL.intD, DL.lenD, DL.absD, DL.dropM, DL.parM, DL.eqD_int, DL.neD_int, PySem.sizeLine, g3]) ?_
      cases k2 with
      | true =>
        refine Wp.seqR (e1 := fun adr => [.own (some (adr 0)) (.bag b4), .dat (.int z), .dat (.int (t * 2)), .dat (.int (u * 2)), .un, .un, .un]) (fun adr => by simp [DL.ini, DL.agsF, DL.fin, DL.outs, DL.seqM, M.bnd, M.ret, M.opt, DL.op2, DL.op1, DL.getV, DL.setM, DL.ifM, DL.tstB, DL.asB, DL.retM, DL.nxM, DL.bltM, DL.consA, DL.consV, DL.refV, DL.callM, DL.argG, DL.refs, DL.putR, DL.mkTup, DL.mkLst, DL.andV, DL.orV, DL.notV, DL.andB, DL.orB, DL.notB, DL.isiM, DL.addD, DL.subD, DL.mulD, DL.gtD, DL.ltD, DL.geD, DL.leD, DL.fdivD, DL.modD, DL.powD, DL.negD, DL.intD, DL.lenD, DL.absD, DL.dropM, DL.parM, DL.eqD_int, DL.neD_int, PySem.sizeLine, g4, m2]) ?_
        exact made_tail n14 (by omega) (by omega)
      | false =>
        refine Wp.seqR (e1 := fun adr => [.own (some (adr 0)) (.bag b4), .dat (.int z), .dat (.int t), .dat (.int u), .un, .un, .un]) (fun adr => by simp [DL.ini, DL.agsF, DL.fin, DL.outs, DL.seqM, M.bnd, M.ret, M.opt, DL.op2, DL.op1, DL.getV, DL.setM, DL.ifM, DL.tstB, DL.asB, DL.retM, DL.nxM, DL.bltM, DL.consA, DL.consV, DL.refV, DL.callM, DL.argG, DL.refs, DL.putR, DL.mkTup, DL.mkLst, DL.andV, DL.orV, DL.notV, DL.andB, DL.orB, DL.notB, DL.isiM, DL.addD, DL.subD, DL.mulD, DL.gtD, DL.ltD, DL.geD, DL.leD, DL.fdivD, DL.modD, DL.powD, DL.negD, DL.intD, DL.lenD, DL.absD, DL.dropM, DL.parM, DL.eqD_int, DL.neD_int, PySem.sizeLine, g4]) ?_
        exact made_tail n14 (by omega) (by omega)
  obtain ⟨d, os, h, b', rfl, rfl, h2⟩ := Wp.fn (p := 2) rfl key
  exact ⟨b', h, h2⟩
end K01
set_option maxRecDepth 100000
set_option maxHeartbeats 4000000
namespace K01
open PySem L2 DL PyProof.Rows
/-! ### ratios of a rule -/
def fitsL : List D → Bool
  | [.int t, .int u] => decide (-999 ≤ t) && decide (t ≤ 999) && decide (1 ≤ u) && decide (u ≤ 99) && (Nat.gcd t.natAbs u.toNat == 1)
  | _ => false
def fitsB : D → Bool
  | .tup xs => fitsL xs
  | _ => false
/-- a thing that may be asked for: itself with tuples for lists, and its lists -/
structure OddR (x : D) : Prop where
  a : x.tt = x
  b : x.ll.tt = x
  c : x.szd = true
  d : x.ll.szd = true
  e : x.dep < 6
  f : x.ll.dep < 6
theorem szd_notIns {d : D} (h : d.szd = true) : d.notIns = true := by cases d <;> first | rfl | cases h
theorem within_int {t lo hi : Int} : (D.int t).within lo hi = (decide (lo ≤ t) && decide (t ≤ hi)) := rfl
theorem two_not {d : D} {lo hi : Int} (h : d.within lo hi = true) : ∃ t, d = .int t ∧ lo ≤ t ∧ t ≤ hi := by
  cases d with
  | int t =>
    rw [within_int, Bool.and_eq_true, decide_eq_true_eq, decide_eq_true_eq] at h
    exact ⟨t, rfl, h⟩
  | _ => cases h
theorem fits_two {x y : D} : fitsL [x, y] = (x.within (-999) 999 && y.within 1 99 && match x, y with | .int t, .int u => Nat.gcd t.natAbs u.toNat == 1 | _, _ => false) := by
  cases x <;> cases y <;> simp [fitsL, D.within, Bool.and_assoc]
theorem e_rate_of {d : D} (hs : d.szd = true) (hd : d.dep < 6) (htt : d.tt.szd = true) : F_rate_of [.d d] = some (.ret (if fitsB d.tt = true then d.tt else .non), []) := autoF_eq rfl fun adr => by
  have h1 := e_deep hs hd
  generalize d.tt = o at h1 htt ⊢
  cases o with
  | ins _ _ => cases htt
  | tup xs =>
    have hx : (decide (xs.length ≤ 16777216) && D.szds xs) = true := htt
    rw [Bool.and_eq_true] at hx
    match xs, hx with
    | [], _ => simp [m_rate_of, DL.ini, DL.agsF, DL.fin, DL.outs, DL.seqM, M.bnd, M.ret, M.opt, DL.op2, DL.op1, DL.getV, DL.setM, DL.ifM, DL.tstB, DL.asB, DL.retM, DL.nxM, DL.bltM, DL.consA, DL.consV, DL.refV, DL.callM, DL.argG, DL.refs, DL.putR, DL.mkTup, DL.mkLst, DL.andV, DL.orV, DL.notV, DL.andB, DL.orB, DL.notB, DL.isiM, DL.addD, DL.subD, DL.mulD, DL.gtD, DL.ltD, DL.geD, DL.leD, DL.fdivD, DL.modD, DL.powD, DL.negD, DL.intD, DL.lenD, DL.absD, DL.dropM, DL.parM, DL.eqD_int, DL.neD_int, PySem.sizeLine, DL.kit_int_int, DL.kit_int_bool, DL.kit_int_str, DL.kit_int_tuple, DL.kit_int_list, DL.kit_bool_int, DL.kit_bool_bool, DL.kit_bool_str, DL.kit_bool_tuple, DL.kit_bool_list, DL.kit_str_int, DL.kit_str_bool, DL.kit_str_str, DL.kit_str_tuple, DL.kit_str_list, DL.kit_tuple_int, DL.kit_tuple_bool, DL.kit_tuple_str, DL.kit_tuple_tuple, DL.kit_tuple_list, DL.kit_list_int, DL.kit_list_bool, DL.kit_list_str, DL.kit_list_tuple, DL.kit_list_list, DL.kit_none_int, DL.kit_none_bool, DL.kit_none_str, DL.kit_none_tuple, DL.kit_none_list, DL.D.ty, h1, fitsB, fitsL]
    | [a], _ => simp [m_rate_of, DL.ini, DL.agsF, DL.fin, DL.outs, DL.seqM, M.bnd, M.ret, M.opt, DL.op2, DL.op1, DL.getV, DL.setM, DL.ifM, DL.tstB, DL.asB, DL.retM, DL.nxM, DL.bltM, DL.consA, DL.consV, DL.refV, DL.callM, DL.argG, DL.refs, DL.putR, DL.mkTup, DL.mkLst, DL.andV, DL.orV, DL.notV, DL.andB, DL.orB, DL.notB, DL.isiM, DL.addD, DL.subD, DL.mulD, DL.gtD, DL.ltD, DL.geD, DL.leD, DL.fdivD, DL.modD, DL.powD, DL.negD, DL.intD, DL.lenD, DL.absD, DL.dropM, DL.parM, DL.eqD_int, DL.neD_int, PySem.sizeLine, DL.kit_int_int, DL.kit_int_bool, DL.kit_int_str, DL.kit_int_tuple, DL.kit_int_list, DL.kit_bool_int, DL.kit_bool_bool, DL.kit_bool_str, DL.kit_bool_tuple, DL.kit_bool_list, DL.kit_str_int, DL.kit_str_bool, DL.kit_str_str, DL.kit_str_tuple, DL.kit_str_list, DL.kit_tuple_int, DL.kit_tuple_bool, DL.kit_tuple_str, DL.kit_tuple_tuple, DL.kit_tuple_list, DL.kit_list_int, DL.kit_list_bool, DL.kit_list_str, DL.kit_list_tuple, DL.kit_list_list, DL.kit_none_int, DL.kit_none_bool, DL.kit_none_str, DL.kit_none_tuple, DL.kit_none_list, DL.D.ty, h1, fitsB, fitsL]
    | [x, y], hx =>
      have hx1 := szd_notIns (szds_mem hx.2 (d := x) (by simp))
      have hy1 := szd_notIns (szds_mem hx.2 (d := y) (by simp))
      have i1 := e_is_integer (d := x) (lo := -999) (hi := 999) hx1
      have i2 := e_is_integer (d := y) (lo := 1) (hi := 99) hy1
      show DL.fin adr _ (m_rate_of F_common F_deep F_is_integer (ini adr [.d d] N_rate_of.length)) = some (.ret (if fitsL [x, y] = true then .tup [x, y] else .non), [])
      rw [fits_two]
      cases q1 : x.within (-999) 999 with
      | false =>
        rw [q1] at i1
        simp [m_rate_of, DL.ini, DL.agsF, DL.fin, DL.outs, DL.seqM, M.bnd, M.ret, M.opt, DL.op2, DL.op1, DL.getV, DL.setM, DL.ifM, DL.tstB, DL.asB, DL.retM, DL.nxM, DL.bltM, DL.consA, DL.consV, DL.refV, DL.callM, DL.argG, DL.refs, DL.putR, DL.mkTup, DL.mkLst, DL.andV, DL.orV, DL.notV, DL.andB, DL.orB, DL.notB, DL.isiM, DL.addD, DL.subD, DL.mulD, DL.gtD, DL.ltD, DL.geD, DL.leD, DL.fdivD, DL.modD, DL.powD, DL.negD, DL.intD, DL.lenD, DL.absD, DL.dropM, DL.parM, DL.eqD_int, DL.neD_int, PySem.sizeLine, DL.kit_int_int, DL.kit_int_bool, DL.kit_int_str, DL.kit_int_tuple, DL.kit_int_list, DL.kit_bool_int, DL.kit_bool_bool, DL.kit_bool_str, DL.kit_bool_tuple, DL.kit_bool_list, DL.kit_str_int, DL.kit_str_bool, DL.kit_str_str, DL.kit_str_tuple, DL.kit_str_list, DL.kit_tuple_int, DL.kit_tuple_bool, DL.kit_tuple_str, DL.kit_tuple_tuple, DL.kit_tuple_list, DL.kit_list_int, DL.kit_list_bool, DL.kit_list_str, DL.kit_list_tuple, DL.kit_list_list, DL.kit_none_int, DL.kit_none_bool, DL.kit_none_str, DL.kit_none_tuple, DL.kit_none_list, DL.D.ty, h1, ixD, atI, ixN, i1]
      | true =>
        rw [q1] at i1
        cases q2 : y.within 1 99 with
        | false =>
          rw [q2] at i2
          simp [m_rate_of, DL.ini, DL.agsF, DL.fin, DL.outs, DL.seqM, M.bnd, M.ret, M.opt, DL.op2, DL.op1, DL.getV, DL.setM, DL.ifM, DL.tstB, DL.asB, DL.retM, DL.nxM, DL.bltM, DL.consA, DL.consV, DL.refV, DL.callM, DL.argG, DL.refs, DL.putR, DL.mkTup, DL.mkLst, DL.andV, DL.orV, DL.notV, DL.andB, DL.orB, DL.notB, DL.isiM, DL.addD, DL.subD, DL.mulD, DL.gtD, DL.ltD, DL.geD, DL.leD, DL.fdivD, DL.modD, DL.powD, DL.negD, DL.intD, DL.lenD, DL.absD, DL.dropM, DL.parM, DL.eqD_int, DL.neD_int, PySem.sizeLine, DL.kit_int_int, DL.kit_int_bool, DL.kit_int_str, DL.kit_int_tuple, DL.kit_int_list, DL.kit_bool_int, DL.kit_bool_bool, DL.kit_bool_str, DL.kit_bool_tuple, DL.kit_bool_list, DL.kit_str_int, DL.kit_str_bool, DL.kit_str_str, DL.kit_str_tuple, DL.kit_str_list, DL.kit_tuple_int, DL.kit_tuple_bool, DL.kit_tuple_str, DL.kit_tuple_tuple, DL.kit_tuple_list, DL.kit_list_int, DL.kit_list_bool, DL.kit_list_str, DL.kit_list_tuple, DL.kit_list_list, DL.kit_none_int, DL.kit_none_bool, DL.kit_none_str, DL.kit_none_tuple, DL.kit_none_list, DL.D.ty, h1, ixD, atI, ixN, i1, i2]
        | true =>
          rw [q2] at i2
          obtain ⟨t, rfl, t1, t2⟩ := two_not q1
          obtain ⟨u, rfl, u1, u2⟩ := two_not q2
          obtain ⟨n, rfl⟩ := Int.eq_ofNat_of_zero_le (show 0 ≤ u by omega)
          have c := e_common t.natAbs n
          by_cases q3 : Nat.gcd t.natAbs n = 1
          · simp [m_rate_of, DL.ini, DL.agsF, DL.fin, DL.outs, DL.seqM, M.bnd, M.ret, M.opt, DL.op2, DL.op1, DL.getV, DL.setM, DL.ifM, DL.tstB, DL.asB, DL.retM, DL.nxM, DL.bltM, DL.consA, DL.consV, DL.refV, DL.callM, DL.argG, DL.refs, DL.putR, DL.mkTup, DL.mkLst, DL.andV, DL.orV, DL.notV, DL.andB, DL.orB, DL.notB, DL.isiM, DL.addD, DL.subD, DL.mulD, DL.gtD, DL.ltD, DL.geD, DL.leD, DL.fdivD, DL.modD, DL.powD, DL.negD, DL.intD, DL.lenD, DL.absD, DL.dropM, DL.parM, DL.eqD_int, DL.neD_int, PySem.sizeLine, DL.kit_int_int, DL.kit_int_bool, DL.kit_int_str, DL.kit_int_tuple, DL.kit_int_list, DL.kit_bool_int, DL.kit_bool_bool, DL.kit_bool_str, DL.kit_bool_tuple, DL.kit_bool_list, DL.kit_str_int, DL.kit_str_bool, DL.kit_str_str, DL.kit_str_tuple, DL.kit_str_list, DL.kit_tuple_int, DL.kit_tuple_bool, DL.kit_tuple_str, DL.kit_tuple_tuple, DL.kit_tuple_list, DL.kit_list_int, DL.kit_list_bool, DL.kit_list_str, DL.kit_list_tuple, DL.kit_list_list, DL.kit_none_int, DL.kit_none_bool, DL.kit_none_str, DL.kit_none_tuple, DL.kit_none_list, DL.D.ty, h1, ixD, atI, ixN, i1, i2, abs_is, c, q3]
          · have q4 : ¬ ((Nat.gcd t.natAbs n : Nat) : Int) = 1 := by omega
            simp [m_rate_of, DL.ini, DL.agsF, DL.fin, DL.outs, DL.seqM, M.bnd, M.ret, M.opt, DL.op2, DL.op1, DL.getV, DL.setM, DL.ifM, DL.tstB, DL.asB, DL.retM, DL.nxM, DL.bltM, DL.consA, DL.consV, DL.refV, DL.callM, DL.argG, DL.refs, DL.putR, DL.mkTup, DL.mkLst, DL.andV, DL.orV, DL.notV, DL.andB, DL.orB, DL.notB, DL.isiM, DL.addD, DL.subD, DL.mulD, DL.gtD, DL.ltD, DL.geD, DL.leD, DL.fdivD, DL.modD, DL.powD, DL.negD, DL.intD, DL.lenD, DL.absD, DL.dropM, DL.parM, DL.eqD_int, DL.neD_int, PySem.sizeLine, DL.kit_int_int, DL.kit_int_bool, DL.kit_int_str, DL.kit_int_tuple, DL.kit_int_list, DL.kit_bool_int, DL.kit_bool_bool, DL.kit_bool_str, DL.kit_bool_tuple, DL.kit_bool_list, DL.kit_str_int, DL.kit_str_bool, DL.kit_str_str, DL.kit_str_tuple, DL.kit_str_list, DL.kit_tuple_int, DL.kit_tuple_bool, DL.kit_tuple_str, DL.kit_tuple_tuple, DL.kit_tuple_list, DL.kit_list_int, DL.kit_list_bool, DL.kit_list_str, DL.kit_list_tuple, DL.kit_list_list, DL.kit_none_int, DL.kit_none_bool, DL.kit_none_str, DL.kit_none_tuple, DL.kit_none_list, DL.D.ty, h1, ixD, atI, ixN, i1, i2, abs_is, c, q3, q4]
    | a :: b :: c :: r, _ =>
      have q : ¬ ((r.length : Int) + 1 + 1 + 1 = 2) := by omega
      simp [m_rate_of, DL.ini, DL.agsF, DL.fin, DL.outs, DL.seqM, M.bnd, M.ret, M.opt, DL.op2, DL.op1, DL.getV, DL.setM, DL.ifM, DL.tstB, DL.asB, DL.retM, DL.nxM, DL.bltM, DL.consA, DL.consV, DL.refV, DL.callM, DL.argG, DL.refs, DL.putR, DL.mkTup, DL.mkLst, DL.andV, DL.orV, DL.notV, DL.andB, DL.orB, DL.notB, DL.isiM, DL.addD, DL.subD, DL.mulD, DL.gtD, DL.ltD, DL.geD, DL.leD, DL.fdivD, DL.modD, DL.powD, DL.negD, DL.intD, DL.lenD, DL.absD, DL.dropM, DL.parM, DL.eqD_int, DL.neD_int, PySem.sizeLine, DL.kit_int_int, DL.kit_int_bool, DL.kit_int_str, DL.kit_int_tuple, DL.kit_int_list, DL.kit_bool_int, DL.kit_bool_bool, DL.kit_bool_str, DL.kit_bool_tuple, DL.kit_bool_list, DL.kit_str_int, DL.kit_str_bool, DL.kit_str_str, DL.kit_str_tuple, DL.kit_str_list, DL.kit_tuple_int, DL.kit_tuple_bool, DL.kit_tuple_str, DL.kit_tuple_tuple, DL.kit_tuple_list, DL.kit_list_int, DL.kit_list_bool, DL.kit_list_str, DL.kit_list_tuple, DL.kit_list_list, DL.kit_none_int, DL.kit_none_bool, DL.kit_none_str, DL.kit_none_tuple, DL.kit_none_list, DL.D.ty, h1, fitsB, fitsL, q]
  | _ => simp [m_rate_of, DL.ini, DL.agsF, DL.fin, DL.outs, DL.seqM, M.bnd, M.ret, M.opt, DL.op2, DL.op1, DL.getV, DL.setM, DL.ifM, DL.tstB, DL.asB, DL.retM, DL.nxM, DL.bltM, DL.consA, DL.consV, DL.refV, DL.callM, DL.argG, DL.refs, DL.putR, DL.mkTup, DL.mkLst, DL.andV, DL.orV, DL.notV, DL.andB, DL.orB, DL.notB, DL.isiM, DL.addD, DL.subD, DL.mulD, DL.gtD, DL.ltD, DL.geD, DL.leD, DL.fdivD, DL.modD, DL.powD, DL.negD, DL.intD, DL.lenD, DL.absD, DL.dropM, DL.parM, DL.eqD_int, DL.neD_int, PySem.sizeLine, DL.kit_int_int, DL.kit_int_bool, DL.kit_int_str, DL.kit_int_tuple, DL.kit_int_list, DL.kit_bool_int, DL.kit_bool_bool, DL.kit_bool_str, DL.kit_bool_tuple, DL.kit_bool_list, DL.kit_str_int, DL.kit_str_bool, DL.kit_str_str, DL.kit_str_tuple, DL.kit_str_list, DL.kit_tuple_int, DL.kit_tuple_bool, DL.kit_tuple_str, DL.kit_tuple_tuple, DL.kit_tuple_list, DL.kit_list_int, DL.kit_list_bool, DL.kit_list_str, DL.kit_list_tuple, DL.kit_list_list, DL.kit_none_int, DL.kit_none_bool, DL.kit_none_str, DL.kit_none_tuple, DL.kit_none_list, DL.D.ty, h1, fitsB]
theorem e_is_ratio {d : D} (hs : d.szd = true) (hd : d.dep < 6) (htt : d.tt.szd = true) : F_is_ratio [.d d] = some (.ret (.bl (fitsB d.tt)), []) := autoF_eq rfl fun adr => by
  have h := e_rate_of hs hd htt
  cases q : fitsB d.tt with
  | true =>
    rw [q, if_pos rfl] at h
    generalize d.tt = o at h q
    cases o <;> first | cases q | simp [m_is_ratio, DL.ini, DL.agsF, DL.fin, DL.outs, DL.seqM, M.bnd, M.ret, M.opt, DL.op2, DL.op1, DL.getV, DL.setM, DL.ifM, DL.tstB, DL.asB, DL.retM, DL.nxM, DL.bltM, DL.consA, DL.consV, DL.refV, DL.callM, DL.argG, DL.refs, DL.putR, DL.mkTup, DL.mkLst, DL.andV, DL.orV, DL.notV, DL.andB, DL.orB, DL.notB, DL.isiM, DL.addD, DL.subD, DL.mulD, DL.gtD, DL.ltD, DL.geD, DL.leD, DL.fdivD, DL.modD, DL.powD, DL.negD, DL.intD, DL.lenD, DL.absD, DL.dropM, DL.parM, DL.eqD_int, DL.neD_int, PySem.sizeLine, h, isntD, isNoneD]
  | false =>
    rw [q, if_neg Bool.false_ne_true] at h
    simp [m_is_ratio, DL.ini, DL.agsF, DL.fin, DL.outs, DL.seqM, M.bnd, M.ret, M.opt, DL.op2, DL.op1, DL.getV, DL.setM, DL.ifM, DL.tstB, DL.asB, DL.retM, DL.nxM, DL.bltM, DL.consA, DL.consV, DL.refV, DL.callM, DL.argG, DL.refs, DL.putR, DL.mkTup, DL.mkLst, DL.andV, DL.orV, DL.notV, DL.andB, DL.orB, DL.notB, DL.isiM, DL.addD, DL.subD, DL.mulD, DL.gtD, DL.ltD, DL.geD, DL.leD, DL.fdivD, DL.modD, DL.powD, DL.negD, DL.intD, DL.lenD, DL.absD, DL.dropM, DL.parM, DL.eqD_int, DL.neD_int, PySem.sizeLine, h, isntD, isNoneD]
theorem e_ratio_fits {d : D} (hs : d.szd = true) : F_l_ratio_fits [.d d] = some (.ret (.bl (fitsB d)), []) := autoF_eq rfl fun adr => by
  cases d with
  | ins _ _ => cases hs
  | tup xs =>
    have hx : (decide (xs.length ≤ 16777216) && D.szds xs) = true := hs
    rw [Bool.and_eq_true] at hx
    match xs, hx with
    | [], _ => simp [m_l_ratio_fits, DL.ini, DL.agsF, DL.fin, DL.outs, DL.seqM, M.bnd, M.ret, M.opt, DL.op2, DL.op1, DL.getV, DL.setM, DL.ifM, DL.tstB, DL.asB, DL.retM, DL.nxM, DL.bltM, DL.consA, DL.consV, DL.refV, DL.callM, DL.argG, DL.refs, DL.putR, DL.mkTup, DL.mkLst, DL.andV, DL.orV, DL.notV, DL.andB, DL.orB, DL.notB, DL.isiM, DL.addD, DL.subD, DL.mulD, DL.gtD, DL.ltD, DL.geD, DL.leD, DL.fdivD, DL.modD, DL.powD, DL.negD, DL.intD, DL.lenD, DL.absD, DL.dropM, DL.parM, DL.eqD_int, DL.neD_int, PySem.sizeLine, DL.kit_int_int, DL.kit_int_bool, DL.kit_int_str, DL.kit_int_tuple, DL.kit_int_list, DL.kit_bool_int, DL.kit_bool_bool, DL.kit_bool_str, DL.kit_bool_tuple, DL.kit_bool_list, DL.kit_str_int, DL.kit_str_bool, DL.kit_str_str, DL.kit_str_tuple, DL.kit_str_list, DL.kit_tuple_int, DL.kit_tuple_bool, DL.kit_tuple_str, DL.kit_tuple_tuple, DL.kit_tuple_list, DL.kit_list_int, DL.kit_list_bool, DL.kit_list_str, DL.kit_list_tuple, DL.kit_list_list, DL.kit_none_int, DL.kit_none_bool, DL.kit_none_str, DL.kit_none_tuple, DL.kit_none_list, DL.D.ty, fitsB, fitsL]
    | [a], _ => simp [m_l_ratio_fits, DL.ini, DL.agsF, DL.fin, DL.outs, DL.seqM, M.bnd, M.ret, M.opt, DL.op2, DL.op1, DL.getV, DL.setM, DL.ifM, DL.tstB, DL.asB, DL.retM, DL.nxM, DL.bltM, DL.consA, DL.consV, DL.refV, DL.callM, DL.argG, DL.refs, DL.putR, DL.mkTup, DL.mkLst, DL.andV, DL.orV, DL.notV, DL.andB, DL.orB, DL.notB, DL.isiM, DL.addD, DL.subD, DL.mulD, DL.gtD, DL.ltD, DL.geD, DL.leD, DL.fdivD, DL.modD, DL.powD, DL.negD, DL.intD, DL.lenD, DL.absD, DL.dropM, DL.parM, DL.eqD_int, DL.neD_int, PySem.sizeLine, DL.kit_int_int, DL.kit_int_bool, DL.kit_int_str, DL.kit_int_tuple, DL.kit_int_list, DL.kit_bool_int, DL.kit_bool_bool, DL.kit_bool_str, DL.kit_bool_tuple, DL.kit_bool_list, DL.kit_str_int, DL.kit_str_bool, DL.kit_str_str, DL.kit_str_tuple, DL.kit_str_list, DL.kit_tuple_int, DL.kit_tuple_bool, DL.kit_tuple_str, DL.kit_tuple_tuple, DL.kit_tuple_list, DL.kit_list_int, DL.kit_list_bool, DL.kit_list_str, DL.kit_list_tuple, DL.kit_list_list, DL.kit_none_int, DL.kit_none_bool, DL.kit_none_str, DL.kit_none_tuple, DL.kit_none_list, DL.D.ty, fitsB, fitsL]
    | [x, y], hx =>
      have hx1 := szd_notIns (szds_mem hx.2 (d := x) (by simp))
      have hy1 := szd_notIns (szds_mem hx.2 (d := y) (by simp))
      have i1 := e_integer hx1
      have i2 := e_integer hy1
      show DL.fin adr _ (m_l_ratio_fits F_l_common F_l_integer (ini adr [.d (.tup [x, y])] N_l_ratio_fits.length)) = some (.ret (.bl (fitsL [x, y])), [])
      cases x with
      | ins _ _ => cases hx1
      | int t =>
        cases y with
        | ins _ _ => cases hy1
        | int u =>
          simp only [D.isInt] at i1 i2
          by_cases t1 : t < -999
          · have t1' : ¬ -999 ≤ t := by omega
            simp [m_l_ratio_fits, DL.ini, DL.agsF, DL.fin, DL.outs, DL.seqM, M.bnd, M.ret, M.opt, DL.op2, DL.op1, DL.getV, DL.setM, DL.ifM, DL.tstB, DL.asB, DL.retM, DL.nxM, DL.bltM, DL.consA, DL.consV, DL.refV, DL.callM, DL.argG, DL.refs, DL.putR, DL.mkTup, DL.mkLst, DL.andV, DL.orV, DL.notV, DL.andB, DL.orB, DL.notB, DL.isiM, DL.addD, DL.subD, DL.mulD, DL.gtD, DL.ltD, DL.geD, DL.leD, DL.fdivD, DL.modD, DL.powD, DL.negD, DL.intD, DL.lenD, DL.absD, DL.dropM, DL.parM, DL.eqD_int, DL.neD_int, PySem.sizeLine, DL.kit_int_int, DL.kit_int_bool, DL.kit_int_str, DL.kit_int_tuple, DL.kit_int_list, DL.kit_bool_int, DL.kit_bool_bool, DL.kit_bool_str, DL.kit_bool_tuple, DL.kit_bool_list, DL.kit_str_int, DL.kit_str_bool, DL.kit_str_str, DL.kit_str_tuple, DL.kit_str_list, DL.kit_tuple_int, DL.kit_tuple_bool, DL.kit_tuple_str, DL.kit_tuple_tuple, DL.kit_tuple_list, DL.kit_list_int, DL.kit_list_bool, DL.kit_list_str, DL.kit_list_tuple, DL.kit_list_list, DL.kit_none_int, DL.kit_none_bool, DL.kit_none_str, DL.kit_none_tuple, DL.kit_none_list, DL.D.ty, ixD, atI, ixN, i1, i2, fitsL, t1, t1']
          · by_cases t2 : 999 < t
            · have t2' : ¬ t ≤ 999 := by omega
              simp [m_l_ratio_fits, DL.ini, DL.agsF, DL.fin, DL.outs, DL.seqM, M.bnd, M.ret, M.opt, DL.op2, DL.op1, DL.getV, DL.setM, DL.ifM, DL.tstB, DL.asB, DL.retM, DL.nxM, DL.bltM, DL.consA, DL.consV, DL.refV, DL.callM, DL.argG, DL.refs, DL.putR, DL.mkTup, DL.mkLst, DL.andV, DL.orV, DL.notV, DL.andB, DL.orB, DL.notB, DL.isiM, DL.addD, DL.subD, DL.mulD, DL.gtD, DL.ltD, DL.geD, DL.leD, DL.fdivD, DL.modD, DL.powD, DL.negD, DL.intD, DL.lenD, DL.absD, DL.dropM, DL.parM, DL.eqD_int, DL.neD_int, PySem.sizeLine, DL.kit_int_int, DL.kit_int_bool, DL.kit_int_str, DL.kit_int_tuple, DL.kit_int_list, DL.kit_bool_int, DL.kit_bool_bool, DL.kit_bool_str, DL.kit_bool_tuple, DL.kit_bool_list, DL.kit_str_int, DL.kit_str_bool, DL.kit_str_str, DL.kit_str_tuple, DL.kit_str_list, DL.kit_tuple_int, DL.kit_tuple_bool, DL.kit_tuple_str, DL.kit_tuple_tuple, DL.kit_tuple_list, DL.kit_list_int, DL.kit_list_bool, DL.kit_list_str, DL.kit_list_tuple, DL.kit_list_list, DL.kit_none_int, DL.kit_none_bool, DL.kit_none_str, DL.kit_none_tuple, DL.kit_none_list, DL.D.ty, ixD, atI, ixN, i1, i2, fitsL, t1, t2, t2']
            · by_cases u1 : u < 1
              · have u1' : ¬ 1 ≤ u := by omega
                simp [m_l_ratio_fits, DL.ini, DL.agsF, DL.fin, DL.outs, DL.seqM, M.bnd, M.ret, M.opt, DL.op2, DL.op1, DL.getV, DL.setM, DL.ifM, DL.tstB, DL.asB, DL.retM, DL.nxM, DL.bltM, DL.consA, DL.consV, DL.refV, DL.callM, DL.argG, DL.refs, DL.putR, DL.mkTup, DL.mkLst, DL.andV, DL.orV, DL.notV, DL.andB, DL.orB, DL.notB, DL.isiM, DL.addD, DL.subD, DL.mulD, DL.gtD, DL.ltD, DL.geD, DL.leD, DL.fdivD, DL.modD, DL.powD, DL.negD, DL.intD, DL.lenD, DL.absD, DL.dropM, DL.parM, DL.eqD_int, DL.neD_int, PySem.sizeLine, DL.kit_int_int, DL.kit_int_bool, DL.kit_int_str, DL.kit_int_tuple, DL.kit_int_list, DL.kit_bool_int, DL.kit_bool_bool, DL.kit_bool_str, DL.kit_bool_tuple, DL.kit_bool_list, DL.kit_str_int, DL.kit_str_bool, DL.kit_str_str, DL.kit_str_tuple, DL.kit_str_list, DL.kit_tuple_int, DL.kit_tuple_bool, DL.kit_tuple_str, DL.kit_tuple_tuple, DL.kit_tuple_list, DL.kit_list_int, DL.kit_list_bool, DL.kit_list_str, DL.kit_list_tuple, DL.kit_list_list, DL.kit_none_int, DL.kit_none_bool, DL.kit_none_str, DL.kit_none_tuple, DL.kit_none_list, DL.D.ty, ixD, atI, ixN, i1, i2, fitsL, t1, t2, u1, u1']
              · by_cases u2 : 99 < u
                · have u2' : ¬ u ≤ 99 := by omega
                  simp [m_l_ratio_fits, DL.ini, DL.agsF, DL.fin, DL.outs, DL.seqM, M.bnd, M.ret, M.opt, DL.op2, DL.op1, DL.getV, DL.setM, DL.ifM, DL.tstB, DL.asB, DL.retM, DL.nxM, DL.bltM, DL.consA, DL.consV, DL.refV, DL.callM, DL.argG, DL.refs, DL.putR, DL.mkTup, DL.mkLst, DL.andV, DL.orV, DL.notV, DL.andB, DL.orB, DL.notB, DL.isiM, DL.addD, DL.subD, DL.mulD, DL.gtD, DL.ltD, DL.geD, DL.leD, DL.fdivD, DL.modD, DL.powD, DL.negD, DL.intD, DL.lenD, DL.absD, DL.dropM, DL.parM, DL.eqD_int, DL.neD_int, PySem.sizeLine, DL.kit_int_int, DL.kit_int_bool, DL.kit_int_str, DL.kit_int_tuple, DL.kit_int_list, DL.kit_bool_int, DL.kit_bool_bool, DL.kit_bool_str, DL.kit_bool_tuple, DL.kit_bool_list, DL.kit_str_int, DL.kit_str_bool, DL.kit_str_str, DL.kit_str_tuple, DL.kit_str_list, DL.kit_tuple_int, DL.kit_tuple_bool, DL.kit_tuple_str, DL.kit_tuple_tuple, DL.kit_tuple_list, DL.kit_list_int, DL.kit_list_bool, DL.kit_list_str, DL.kit_list_tuple, DL.kit_list_list, DL.kit_none_int, DL.kit_none_bool, DL.kit_none_str, DL.kit_none_tuple, DL.kit_none_list, DL.D.ty, ixD, atI, ixN, i1, i2, fitsL, t1, t2, u1, u2, u2']
                · obtain ⟨n, rfl⟩ := Int.eq_ofNat_of_zero_le (show 0 ≤ u by omega)
                  have c := e_l_common t.natAbs n
                  have g : (((Nat.gcd t.natAbs n : Nat) : Int) == 1) = (Nat.gcd t.natAbs n == 1) := by
                    by_cases q3 : Nat.gcd t.natAbs n = 1
                    · rw [q3]; rfl
                    · have q4 : ¬ ((Nat.gcd t.natAbs n : Nat) : Int) = 1 := by omega
                      rw [beq_eq_false_iff_ne.mpr q4, beq_eq_false_iff_ne.mpr q3]
                  have z1 : -999 ≤ t := by omega
                  have z2 : t ≤ 999 := by omega
                  have z3 : (1 : Int) ≤ n := by omega
                  have z4 : (n : Int) ≤ 99 := by omega
                  simp only [fitsL, decide_eq_true z1, decide_eq_true z2, decide_eq_true z3, decide_eq_true z4, Bool.true_and, Int.toNat_natCast]
                  rw [← g]
                  simp [m_l_ratio_fits, DL.ini, DL.agsF, DL.fin, DL.outs, DL.seqM, M.bnd, M.ret, M.opt, DL.op2, DL.op1, DL.getV, DL.setM, DL.ifM, DL.tstB, DL.asB, DL.retM, DL.nxM, DL.bltM, DL.consA, DL.consV, DL.refV, DL.callM, DL.argG, DL.refs, DL.putR, DL.mkTup, DL.mkLst, DL.andV, DL.orV, DL.notV, DL.andB, DL.orB, DL.notB, DL.isiM, DL.addD, DL.subD, DL.mulD, DL.gtD, DL.ltD, DL.geD, DL.leD, DL.fdivD, DL.modD, DL.powD, DL.negD, DL.intD, DL.lenD, DL.absD, DL.dropM, DL.parM, DL.eqD_int, DL.neD_int, PySem.sizeLine, DL.kit_int_int, DL.kit_int_bool, DL.kit_int_str, DL.kit_int_tuple, DL.kit_int_list, DL.kit_bool_int, DL.kit_bool_bool, DL.kit_bool_str, DL.kit_bool_tuple, DL.kit_bool_list, DL.kit_str_int, DL.kit_str_bool, DL.kit_str_str, DL.kit_str_tuple, DL.kit_str_list, DL.kit_tuple_int, DL.kit_tuple_bool, DL.kit_tuple_str, DL.kit_tuple_tuple, DL.kit_tuple_list, DL.kit_list_int, DL.kit_list_bool, DL.kit_list_str, DL.kit_list_tuple, DL.kit_list_list, DL.kit_none_int, DL.kit_none_bool, DL.kit_none_str, DL.kit_none_tuple, DL.kit_none_list, DL.D.ty, ixD, atI, ixN, i1, i2, t1, t2, u1, u2, abs_is, c]
        | _ => try simp only [D.isInt] at i1 i2
               simp [m_l_ratio_fits, DL.ini, DL.agsF, DL.fin, DL.outs, DL.seqM, M.bnd, M.ret, M.opt, DL.op2, DL.op1, DL.getV, DL.setM, DL.ifM, DL.tstB, DL.asB, DL.retM, DL.nxM, DL.bltM, DL.consA, DL.consV, DL.refV, DL.callM, DL.argG, DL.refs, DL.putR, DL.mkTup, DL.mkLst, DL.andV, DL.orV, DL.notV, DL.andB, DL.orB, DL.notB, DL.isiM, DL.addD, DL.subD, DL.mulD, DL.gtD, DL.ltD, DL.geD, DL.leD, DL.fdivD, DL.modD, DL.powD, DL.negD, DL.intD, DL.lenD, DL.absD, DL.dropM, DL.parM, DL.eqD_int, DL.neD_int, PySem.sizeLine, DL.kit_int_int, DL.kit_int_bool, DL.kit_int_str, DL.kit_int_tuple, DL.kit_int_list, DL.kit_bool_int, DL.kit_bool_bool, DL.kit_bool_str, DL.kit_bool_tuple, DL.kit_bool_list, DL.kit_str_int, DL.kit_str_bool, DL.kit_str_str, DL.kit_str_tuple, DL.kit_str_list, DL.kit_tuple_int, DL.kit_tuple_bool, DL.kit_tuple_str, DL.kit_tuple_tuple, DL.kit_tuple_list, DL.kit_list_int, DL.kit_list_bool, DL.kit_list_str, DL.kit_list_tuple, DL.kit_list_list, DL.kit_none_int, DL.kit_none_bool, DL.kit_none_str, DL.kit_none_tuple, DL.kit_none_list, DL.D.ty, ixD, atI, ixN, i1, i2, fitsL]
      | _ => try simp only [D.isInt] at i1
             simp [m_l_ratio_fits, DL.ini, DL.agsF, DL.fin, DL.outs, DL.seqM, M.bnd, M.ret, M.opt, DL.op2, DL.op1, DL.getV, DL.setM, DL.ifM, DL.tstB, DL.asB, DL.retM, DL.nxM, DL.bltM, DL.consA, DL.consV, DL.refV, DL.callM, DL.argG, DL.refs, DL.putR, DL.mkTup, DL.mkLst, DL.andV, DL.orV, DL.notV, DL.andB, DL.orB, DL.notB, DL.isiM, DL.addD, DL.subD, DL.mulD, DL.gtD, DL.ltD, DL.geD, DL.leD, DL.fdivD, DL.modD, DL.powD, DL.negD, DL.intD, DL.lenD, DL.absD, DL.dropM, DL.parM, DL.eqD_int, DL.neD_int, PySem.sizeLine, DL.kit_int_int, DL.kit_int_bool, DL.kit_int_str, DL.kit_int_tuple, DL.kit_int_list, DL.kit_bool_int, DL.kit_bool_bool, DL.kit_bool_str, DL.kit_bool_tuple, DL.kit_bool_list, DL.kit_str_int, DL.kit_str_bool, DL.kit_str_str, DL.kit_str_tuple, DL.kit_str_list, DL.kit_tuple_int, DL.kit_tuple_bool, DL.kit_tuple_str, DL.kit_tuple_tuple, DL.kit_tuple_list, DL.kit_list_int, DL.kit_list_bool, DL.kit_list_str, DL.kit_list_tuple, DL.kit_list_list, DL.kit_none_int, DL.kit_none_bool, DL.kit_none_str, DL.kit_none_tuple, DL.kit_none_list, DL.D.ty, ixD, atI, ixN, i1, fitsL]
    | a :: b :: c :: r, _ =>
      have q : ¬ ((r.length : Int) + 1 + 1 + 1 = 2) := by omega
      simp [m_l_ratio_fits, DL.ini, DL.agsF, DL.fin, DL.outs, DL.seqM, M.bnd, M.ret, M.opt, DL.op2, DL.op1, DL.getV, DL.setM, DL.ifM, DL.tstB, DL.asB, DL.retM, DL.nxM, DL.bltM, DL.consA, DL.consV, DL.refV, DL.callM, DL.argG, DL.refs, DL.putR, DL.mkTup, DL.mkLst, DL.andV, DL.orV, DL.notV, DL.andB, DL.orB, DL.notB, DL.isiM, DL.addD, DL.subD, DL.mulD, DL.gtD, DL.ltD, DL.geD, DL.leD, DL.fdivD, DL.modD, DL.powD, DL.negD, DL.intD, DL.lenD, DL.absD, DL.dropM, DL.parM, DL.eqD_int, DL.neD_int, PySem.sizeLine, DL.kit_int_int, DL.kit_int_bool, DL.kit_int_str, DL.kit_int_tuple, DL.kit_int_list, DL.kit_bool_int, DL.kit_bool_bool, DL.kit_bool_str, DL.kit_bool_tuple, DL.kit_bool_list, DL.kit_str_int, DL.kit_str_bool, DL.kit_str_str, DL.kit_str_tuple, DL.kit_str_list, DL.kit_tuple_int, DL.kit_tuple_bool, DL.kit_tuple_str, DL.kit_tuple_tuple, DL.kit_tuple_list, DL.kit_list_int, DL.kit_list_bool, DL.kit_list_str, DL.kit_list_tuple, DL.kit_list_list, DL.kit_none_int, DL.kit_none_bool, DL.kit_none_str, DL.kit_none_tuple, DL.kit_none_list, DL.D.ty, fitsB, fitsL, q]
  | _ => simp [m_l_ratio_fits, DL.ini, DL.agsF, DL.fin, DL.outs, DL.seqM, M.bnd, M.ret, M.opt, DL.op2, DL.op1, DL.getV, DL.setM, DL.ifM, DL.tstB, DL.asB, DL.retM, DL.nxM, DL.bltM, DL.consA, DL.consV, DL.refV, DL.callM, DL.argG, DL.refs, DL.putR, DL.mkTup, DL.mkLst, DL.andV, DL.orV, DL.notV, DL.andB, DL.orB, DL.notB, DL.isiM, DL.addD, DL.subD, DL.mulD, DL.gtD, DL.ltD, DL.geD, DL.leD, DL.fdivD, DL.modD, DL.powD, DL.negD, DL.intD, DL.lenD, DL.absD, DL.dropM, DL.parM, DL.eqD_int, DL.neD_int, PySem.sizeLine, DL.kit_int_int, DL.kit_int_bool, DL.kit_int_str, DL.kit_int_tuple, DL.kit_int_list, DL.kit_bool_int, DL.kit_bool_bool, DL.kit_bool_str, DL.kit_bool_tuple, DL.kit_bool_list, DL.kit_str_int, DL.kit_str_bool, DL.kit_str_str, DL.kit_str_tuple, DL.kit_str_list, DL.kit_tuple_int, DL.kit_tuple_bool, DL.kit_tuple_str, DL.kit_tuple_tuple, DL.kit_tuple_list, DL.kit_list_int, DL.kit_list_bool, DL.kit_list_str, DL.kit_list_tuple, DL.kit_list_list, DL.kit_none_int, DL.kit_none_bool, DL.kit_none_str, DL.kit_none_tuple, DL.kit_none_list, DL.D.ty, fitsB]
/-! ### odd things -/
theorem oddR_int {t u : Int} : OddR (.tup [.int t, .int u]) := ⟨rfl, rfl, rfl, rfl, by show 1 < 6; decide, by show 1 < 6; decide⟩
def oddL : List D := [.non, .bl true, .int 7, .str ("12" : Str), .str ("1/2" : Str), .tup [], .tup [.int 1], .tup [.int 1, .int 2, .int 3], .tup [.bl true, .int 1], .tup [.int 1, .bl true], .tup [.bl false, .int 1], .tup [.str ("1" : Str), .int 2], .tup [.int 1, .non], .tup [.tup [.int 1, .int 2], .int 3]]
theorem oddL_odd : ∀ d ∈ oddL, OddR d := fun d hd => by
  simp only [oddL, List.mem_cons, List.not_mem_nil, or_false] at hd
  rcases hd with rfl | rfl | rfl | rfl | rfl | rfl | rfl | rfl | rfl | rfl | rfl | rfl | rfl | rfl
  all_goals exact ⟨rfl, rfl, rfl, rfl, by simp [D.dep, D.deps], by simp [D.ll, D.lls, D.dep, D.deps]⟩
def oddT : List D := [.int 0, .int 0, .int 1, .int (-1), .int 999, .int (-999), .int 1000, .int (-1000), .int 998, .int 12, .int (-50), .int 33, .int 66, .int (10 ^ 30)]
def oddU : List D := [.int 1, .int 1, .int 2, .int 99, .int 98, .int 100, .int 0, .int (-1), .int 7, .int 3]
theorem ints_of {xs : List D} (h : xs.all D.isInt = true) {d : D} (hd : d ∈ xs) : ∃ i, d = .int i := by
  have := List.all_eq_true.mp h d hd
  cases d
  case int i => exact ⟨i, rfl⟩
  all_goals cases this
theorem e_odd_ratio {b : Bag} (hb : 0 ≤ b.at_) : ∃ d b', F_l_odd_ratio [.o (.bag b)] = some (.ret d, [.bag b']) ∧ OddR d ∧ Nx b b' := by
  obtain ⟨r, b1, h1, r0, r8, n1⟩ := e_pick hb (m := 8) (by decide) (by decide +kernel)
  by_cases q1 : r < 4
  · obtain ⟨t, b2, h2, ht, n2⟩ := e_choice n1.ok (xs := oddT) (by decide) (by decide)
    obtain ⟨u, b3, h3, hu, n3⟩ := e_choice n2.ok (xs := oddU) (by decide) (by decide)
    obtain ⟨ti, rfl⟩ := ints_of (by decide) ht
    obtain ⟨ui, rfl⟩ := ints_of (by decide) hu
    unfold oddT at h2
    unfold oddU at h3
    refine ⟨_, b3, autoF_eq rfl fun adr => ?_, oddR_int (t := ti) (u := ui), (n1.trans n2).trans n3⟩
    simp at h2 h3
    simp [m_l_odd_ratio, DL.ini, DL.agsF, DL.fin, DL.outs, DL.seqM, M.bnd, M.ret, M.opt, DL.op2, DL.op1, DL.getV, DL.setM, DL.ifM, DL.tstB, DL.asB, DL.retM, DL.nxM, DL.bltM, DL.consA, DL.consV, DL.refV, DL.callM, DL.argG, DL.refs, DL.putR, DL.mkTup, DL.mkLst, DL.andV, DL.orV, DL.notV, DL.andB, DL.orB, DL.notB, DL.isiM, DL.addD, DL.subD, DL.mulD, DL.gtD, DL.ltD, DL.geD, DL.leD, DL.fdivD, DL.modD, DL.powD, DL.negD, DL.intD, DL.lenD, DL.absD, DL.dropM, DL.parM, DL.eqD_int, DL.neD_int, PySem.sizeLine, h1, q1, h2, h3]
  · by_cases q2 : r < 6
    · obtain ⟨t, b2, h2, _, _, n2⟩ := e_pick n1.ok (m := 2003) (by decide) (by decide +kernel)
      obtain ⟨u, b3, h3, _, _, n3⟩ := e_pick n2.ok (m := 103) (by decide) (by decide +kernel)
      refine ⟨_, b3, autoF_eq rfl fun adr => ?_, oddR_int (t := t - 1001) (u := u - 1), (n1.trans n2).trans n3⟩
      simp [m_l_odd_ratio, DL.ini, DL.agsF, DL.fin, DL.outs, DL.seqM, M.bnd, M.ret, M.opt, DL.op2, DL.op1, DL.getV, DL.setM, DL.ifM, DL.tstB, DL.asB, DL.retM, DL.nxM, DL.bltM, DL.consA, DL.consV, DL.refV, DL.callM, DL.argG, DL.refs, DL.putR, DL.mkTup, DL.mkLst, DL.andV, DL.orV, DL.notV, DL.andB, DL.orB, DL.notB, DL.isiM, DL.addD, DL.subD, DL.mulD, DL.gtD, DL.ltD, DL.geD, DL.leD, DL.fdivD, DL.modD, DL.powD, DL.negD, DL.intD, DL.lenD, DL.absD, DL.dropM, DL.parM, DL.eqD_int, DL.neD_int, PySem.sizeLine, h1, q1, q2, h2, h3]
    · obtain ⟨t, b2, h2, ht, n2⟩ := e_choice n1.ok (xs := oddL) (by decide) (by decide)
      refine ⟨t, b2, autoF_eq rfl fun adr => ?_, oddL_odd t ht, n1.trans n2⟩
      unfold oddL at h2
      simp [m_l_odd_ratio, DL.ini, DL.agsF, DL.fin, DL.outs, DL.seqM, M.bnd, M.ret, M.opt, DL.op2, DL.op1, DL.getV, DL.setM, DL.ifM, DL.tstB, DL.asB, DL.retM, DL.nxM, DL.bltM, DL.consA, DL.consV, DL.refV, DL.callM, DL.argG, DL.refs, DL.putR, DL.mkTup, DL.mkLst, DL.andV, DL.orV, DL.notV, DL.andB, DL.orB, DL.notB, DL.isiM, DL.addD, DL.subD, DL.mulD, DL.gtD, DL.ltD, DL.geD, DL.leD, DL.fdivD, DL.modD, DL.powD, DL.negD, DL.intD, DL.lenD, DL.absD, DL.dropM, DL.parM, DL.eqD_int, DL.neD_int, PySem.sizeLine, h1, q1, q2, h2]
end K01
set_option maxRecDepth 100000
set_option maxHeartbeats 4000000
namespace K01
open PySem L2 DL PyProof.Rows
/-! ### words -/
/-- a thing that may be asked whether it is a name -/
structure Wordish (x : D) : Prop where
  a : x.notIns = true
  b : ∀ s, x = .str s → PyData.strOk s = true ∧ s.length ≤ 2000
theorem wordish_str {s : Str} (h : PyData.strOk s = true) (hl : s.length ≤ 2000) : Wordish (.str s) := ⟨rfl, fun t e => by cases e; exact ⟨h, hl⟩⟩
def oddW : List D := [.non, .bl true, .int 7, .tup [.str ("quality" : Str)], .lst [.str ("q" : Str)], .tup [], .int (10 ^ 30)]
theorem oddW_word : ∀ d ∈ oddW, Wordish d := fun d hd => by
  simp only [oddW, List.mem_cons, List.not_mem_nil, or_false] at hd
  rcases hd with rfl | rfl | rfl | rfl | rfl | rfl | rfl
  all_goals exact ⟨rfl, fun s e => by cases e⟩
def signL : List Str := ["a", "z", "m", "s", "A", "Z", "0", "9", "_", " ", "-", "~", "{", "@"]
theorem signL_ok : ∀ s ∈ signL, PyData.strOk s = true ∧ s.length = 1 := by decide +kernel
/-- a short text that can be compared -/
structure Txt (s : Str) (n : Nat) : Prop where
  a : PyData.strOk s = true
  b : s.length ≤ n
theorem words_txt : ∀ s ∈ wordsS, PyData.strOk s = true ∧ s.length ≤ 10 := by decide +kernel
theorem strOk_iff {s : Str} : PyData.strOk s = true ↔ ∀ c ∈ s.cps.toList, c < 1114112 := by
  constructor
  · intro h c hc
    have := strOk_mem h hc
    unfold PyData.strOk at this
    simpa using this
  · intro h
    have := strOk_of h
    simpa using this
theorem cut_ok {s : Str} {lo hi : Option Int} (h : PyData.strOk s = true) : PyData.strOk (cutS s lo hi) = true := by
  rw [strOk_iff] at h ⊢
  intro c hc
  have e : (cutS s lo hi).cps.toList = ((s.cps.toList.drop (HT.sIx s.length 0 lo)).take (HT.sIx s.length s.length hi - HT.sIx s.length 0 lo)) := rfl
  rw [e] at hc
  exact h c (List.mem_of_mem_drop (List.mem_of_mem_take hc))
theorem cut_len {s : Str} {lo hi : Option Int} : (cutS s lo hi).length ≤ s.length := by
  have e : (cutS s lo hi).length = ((s.cps.toList.drop (HT.sIx s.length 0 lo)).take (HT.sIx s.length s.length hi - HT.sIx s.length 0 lo)).length := by
    show (List.toArray _).size = _
    rw [List.size_toArray]
  rw [e, List.length_take, List.length_drop, cps_len]
  omega
theorem e_word_of {b : Bag} (hb : 0 ≤ b.at_) : ∃ d b', F_l_word_of [.o (.bag b)] = some (.ret d, [.bag b']) ∧ Wordish d ∧ Nx b b' := by
  obtain ⟨w, b1, h1, w0, w8, n1⟩ := e_pick hb (m := 8) (by decide) (by decide +kernel)
  by_cases q7 : w = 7
  · subst q7
    obtain ⟨t, b2, h2, ht, n2⟩ := e_choice n1.ok (xs := oddW) (by decide) (by decide)
    refine ⟨t, b2, autoF_eq rfl fun adr => ?_, oddW_word t ht, n1.trans n2⟩
    unfold oddW at h2
    simp at h2
    simp [m_l_word_of, DL.ini, DL.agsF, DL.fin, DL.outs, DL.seqM, M.bnd, M.ret, M.opt, DL.op2, DL.op1, DL.getV, DL.setM, DL.ifM, DL.tstB, DL.asB, DL.retM, DL.nxM, DL.bltM, DL.consA, DL.consV, DL.refV, DL.callM, DL.argG, DL.refs, DL.putR, DL.mkTup, DL.mkLst, DL.andV, DL.orV, DL.notV, DL.andB, DL.orB, DL.notB, DL.isiM, DL.addD, DL.subD, DL.mulD, DL.gtD, DL.ltD, DL.geD, DL.leD, DL.fdivD, DL.modD, DL.powD, DL.negD, DL.intD, DL.lenD, DL.absD, DL.dropM, DL.parM, DL.eqD_int, DL.neD_int, PySem.sizeLine, h1, h2]
  · obtain ⟨k, b2, h2, k0, k11, n2⟩ := e_pick n1.ok (m := 11) (by decide) (by decide +kernel)
    obtain ⟨n, rfl⟩ := Int.eq_ofNat_of_zero_le k0
    obtain ⟨s1, b3, h3, l3, let3, n3⟩ := e_spelled n2.ok (n := n) (by omega)
    -- the word
    have hword : ∃ (s : Str) (b4 : Bag), Txt s 10 ∧ Nx b b4 ∧ ∀ adr : Nat → Addr, ifM (tstB (op2 ltD (getV 1) (M.ret (.int 4)))) (setM 2 (callM F_l_choice (refV 0 (consV (callM F_l_reserved (M.ret [])) (M.ret []))))) nxM [.own (some (adr 0)) (.bag b3), .dat (.int w), .dat (.str s1), .un, .un, .un] = .ok .nx [.own (some (adr 0)) (.bag b4), .dat (.int w), .dat (.str s), .un, .un, .un] := by
      by_cases q4 : w < 4
      · obtain ⟨x, b4, h4, hx, n4⟩ := e_choice n3.ok (xs := wordsS.map .str) (by decide) (by decide)
        obtain ⟨s, hs, rfl⟩ := List.mem_map.mp hx
        have hr := e_reserved
        refine ⟨s, b4, ⟨(words_txt s hs).1, (words_txt s hs).2⟩, ((n1.trans n2).trans n3).trans n4, fun adr => ?_⟩
        generalize wordsS.map D.str = WL at h4 hr
        simp [DL.ini, DL.agsF, DL.fin, DL.outs, DL.seqM, M.bnd, M.ret, M.opt, DL.op2, DL.op1, DL.getV, DL.setM, DL.ifM, DL.tstB, DL.asB, DL.retM, DL.nxM, DL.bltM, DL.consA, DL.consV, DL.refV, DL.callM, DL.argG, DL.refs, DL.putR, DL.mkTup, DL.mkLst, DL.andV, DL.orV, DL.notV, DL.andB, DL.orB, DL.notB, DL.isiM, DL.addD, DL.subD, DL.mulD, DL.gtD, DL.ltD, DL.geD, DL.leD, DL.fdivD, DL.modD, DL.powD, DL.negD, DL.intD, DL.lenD, DL.absD, DL.dropM, DL.parM, DL.eqD_int, DL.neD_int, PySem.sizeLine, q4, hr, h4]
      · refine ⟨s1, b3, ⟨let3.ok, by omega⟩, (n1.trans n2).trans n3, fun adr => by simp [DL.ini, DL.agsF, DL.fin, DL.outs, DL.seqM, M.bnd, M.ret, M.opt, DL.op2, DL.op1, DL.getV, DL.setM, DL.ifM, DL.tstB, DL.asB, DL.retM, DL.nxM, DL.bltM, DL.consA, DL.consV, DL.refV, DL.callM, DL.argG, DL.refs, DL.putR, DL.mkTup, DL.mkLst, DL.andV, DL.orV, DL.notV, DL.andB, DL.orB, DL.notB, DL.isiM, DL.addD, DL.subD, DL.mulD, DL.gtD, DL.ltD, DL.geD, DL.leD, DL.fdivD, DL.modD, DL.powD, DL.negD, DL.intD, DL.lenD, DL.absD, DL.dropM, DL.parM, DL.eqD_int, DL.neD_int, PySem.sizeLine, q4]⟩
    obtain ⟨s, b4, ts, n4, h4⟩ := hword
    obtain ⟨sp, b5, h5, p0, p7, n5⟩ := e_pick n4.ok (m := 7) (by decide) (by decide +kernel)
    obtain ⟨a, b6, h6, a0, a1, n6⟩ := e_pick n5.ok (m := (s.length : Int) + 1) (by omega) (by
      have := ts.b
      exact Nat.lt_trans (log2_lt (k := 10) (by decide) (by omega)) (by decide))
    obtain ⟨x, b7, h7, hx, n7⟩ := e_choice n6.ok (xs := signL.map .str) (by decide) (by decide)
    obtain ⟨g, hg, rfl⟩ := List.mem_map.mp hx
    have n47 := ((n4.trans n5).trans n6).trans n7
    obtain ⟨g1, g2⟩ := signL_ok g hg
    have z0 : s.length ≤ 16777216 := by have := ts.b; omega
    have pieces : ∀ lo hi, ((cutS s none lo).length + g.length ≤ 16777216 ∧ (cutS s none lo ++ g).length + (cutS s hi none).length ≤ 16777216 ∧ (cutS s none lo).length + (cutS s hi none).length ≤ 16777216 ∧ Wordish (.str (cutS s none lo ++ g ++ cutS s hi none)) ∧ Wordish (.str (cutS s none lo ++ cutS s hi none))) := fun lo hi => by
      have c1 := cut_len (s := s) (lo := none) (hi := lo)
      have c2 := cut_len (s := s) (lo := hi) (hi := none)
      have tb := ts.b
      refine ⟨by omega, by rw [len_app]; omega, by omega, wordish_str (ok_app (ok_app (cut_ok ts.a) g1) (cut_ok ts.a)) (by rw [len_app, len_app]; omega), wordish_str (ok_app (cut_ok ts.a) (cut_ok ts.a)) (by rw [len_app]; omega)⟩
    have h7' : F_l_choice [.o (.bag b6), .d (.lst [.str ("a" : Str), .str ("z" : Str), .str ("m" : Str), .str ("s" : Str), .str ("A" : Str), .str ("Z" : Str), .str ("0" : Str), .str ("9" : Str), .str ("_" : Str), .str (" " : Str), .str ("-" : Str), .str ("~" : Str), .str ("{" : Str), .str ("@" : Str)])] = some (.ret (.str g), [.bag b7]) := h7
    have key : ∃ y, Wordish y ∧ ∀ adr : Nat → Addr, DL.fin adr [.o (.bag b)] (m_l_word_of F_l_choice F_l_pick F_l_reserved F_l_spelled (ini adr [.o (.bag b)] 6)) = some (.ret y, [.bag b7]) := by
      unfold m_l_word_of
      generalize ifM (tstB (op2 ltD (getV 1) (M.ret (.int 4)))) (setM 2 (callM F_l_choice (refV 0 (consV (callM F_l_reserved (M.ret [])) (M.ret []))))) nxM = C at h4 ⊢
      by_cases s1_ : sp = 1
      · subst s1_
        obtain ⟨e1, e2, e3, w1, w2⟩ := pieces (some a) (some a)
        exact ⟨_, w1, fun adr => by simp [DL.ini, DL.agsF, DL.fin, DL.outs, DL.seqM, M.bnd, M.ret, M.opt, DL.op2, DL.op1, DL.getV, DL.setM, DL.ifM, DL.tstB, DL.asB, DL.retM, DL.nxM, DL.bltM, DL.consA, DL.consV, DL.refV, DL.callM, DL.argG, DL.refs, DL.putR, DL.mkTup, DL.mkLst, DL.andV, DL.orV, DL.notV, DL.andB, DL.orB, DL.notB, DL.isiM, DL.addD, DL.subD, DL.mulD, DL.gtD, DL.ltD, DL.geD, DL.leD, DL.fdivD, DL.modD, DL.powD, DL.negD, DL.intD, DL.lenD, DL.absD, DL.dropM, DL.parM, DL.eqD_int, DL.neD_int, PySem.sizeLine, h1, q7, h2, h3, h4, h5, h6, h7', z0, slice3, partN, partD, sliceD, e1, e2]⟩
      · by_cases s2_ : sp = 2
        · subst s2_
          obtain ⟨e1, e2, e3, w1, w2⟩ := pieces (some a) (some (a + 1))
          exact ⟨_, w2, fun adr => by simp [DL.ini, DL.agsF, DL.fin, DL.outs, DL.seqM, M.bnd, M.ret, M.opt, DL.op2, DL.op1, DL.getV, DL.setM, DL.ifM, DL.tstB, DL.asB, DL.retM, DL.nxM, DL.bltM, DL.consA, DL.consV, DL.refV, DL.callM, DL.argG, DL.refs, DL.putR, DL.mkTup, DL.mkLst, DL.andV, DL.orV, DL.notV, DL.andB, DL.orB, DL.notB, DL.isiM, DL.addD, DL.subD, DL.mulD, DL.gtD, DL.ltD, DL.geD, DL.leD, DL.fdivD, DL.modD, DL.powD, DL.negD, DL.intD, DL.lenD, DL.absD, DL.dropM, DL.parM, DL.eqD_int, DL.neD_int, PySem.sizeLine, h1, q7, h2, h3, h4, h5, h6, h7', z0, slice3, partN, partD, sliceD, e3]⟩
        · by_cases s3_ : sp = 3
          · subst s3_
            obtain ⟨e1, e2, e3, w1, w2⟩ := pieces (some a) (some (a + 1))
            exact ⟨_, w1, fun adr => by simp [DL.ini, DL.agsF, DL.fin, DL.outs, DL.seqM, M.bnd, M.ret, M.opt, DL.op2, DL.op1, DL.getV, DL.setM, DL.ifM, DL.tstB, DL.asB, DL.retM, DL.nxM, DL.bltM, DL.consA, DL.consV, DL.refV, DL.callM, DL.argG, DL.refs, DL.putR, DL.mkTup, DL.mkLst, DL.andV, DL.orV, DL.notV, DL.andB, DL.orB, DL.notB, DL.isiM, DL.addD, DL.subD, DL.mulD, DL.gtD, DL.ltD, DL.geD, DL.leD, DL.fdivD, DL.modD, DL.powD, DL.negD, DL.intD, DL.lenD, DL.absD, DL.dropM, DL.parM, DL.eqD_int, DL.neD_int, PySem.sizeLine, h1, q7, h2, h3, h4, h5, h6, h7', z0, slice3, partN, partD, sliceD, e1, e2]⟩
          · exact ⟨.str s, wordish_str ts.a (by have := ts.b; omega), fun adr => by simp [DL.ini, DL.agsF, DL.fin, DL.outs, DL.seqM, M.bnd, M.ret, M.opt, DL.op2, DL.op1, DL.getV, DL.setM, DL.ifM, DL.tstB, DL.asB, DL.retM, DL.nxM, DL.bltM, DL.consA, DL.consV, DL.refV, DL.callM, DL.argG, DL.refs, DL.putR, DL.mkTup, DL.mkLst, DL.andV, DL.orV, DL.notV, DL.andB, DL.orB, DL.notB, DL.isiM, DL.addD, DL.subD, DL.mulD, DL.gtD, DL.ltD, DL.geD, DL.leD, DL.fdivD, DL.modD, DL.powD, DL.negD, DL.intD, DL.lenD, DL.absD, DL.dropM, DL.parM, DL.eqD_int, DL.neD_int, PySem.sizeLine, h1, q7, h2, h3, h4, h5, h6, h7', z0, s1_, s2_, s3_]⟩
    obtain ⟨y, wy, hy⟩ := key
    exact ⟨y, b7, autoF_eq rfl hy, wy, n47⟩
/-! ### names and ratios asked for -/
theorem words_no : ∀ s ∈ wordsS, nameB s = false := by decide +kernel
theorem e_truth {a b : Bool} : F_l_truth [.d (.bl a), .d (.bl b)] = some (.ret (.bl (a == b)), []) := truth_r
theorem words_eq : wordsL = wordsS := rfl
theorem pl_words : (D.tup (wordsS.map .str)).pl = true := by
  show D.pls (wordsS.map .str) = true
  rw [pls_all, List.all_map]
  rfl
theorem e_names_right {b : Bag} (hb : 0 ≤ b.at_) : ∃ b', F_l_names_right [.o (.bag b)] = some (.ret (.bl true), [.bag b']) ∧ Nx b b' := by
  have key : Wp (m_l_names_right F_l_lists F_l_name_fits F_l_odd_ratio F_l_plain F_l_ratio_fits F_l_reserved F_l_truth F_l_word_of F_is_name F_is_ratio) (fun adr : Nat → Addr => ini adr [.o (.bag b)] 4) (Fin [.o (.bag b)] fun d os => ∃ b', d = .bl true ∧ os = [.bag b'] ∧ Nx b b') := by
    unfold m_l_names_right
    refine Wp.seq (Wp.forM (fun r e => ∃ (b1 : Bag) (s1 s2 : Sl), Nx b b1 ∧ e = fun adr => [.own (some (adr 0)) (.bag b1), s1, s2, .un]) ?_ ?_ ?_)
    · exact Wp.run (x := rangeL 0 4) (e' := fun adr => [.own (some (adr 0)) (.bag b), .un, .un, .un]) (fun adr => range1_run (n := 4) (by simp [DL.ini, DL.agsF, DL.fin, DL.outs, DL.seqM, M.bnd, M.ret, M.opt, DL.op2, DL.op1, DL.getV, DL.setM, DL.ifM, DL.tstB, DL.asB, DL.retM, DL.nxM, DL.bltM, DL.consA, DL.consV, DL.refV, DL.callM, DL.argG, DL.refs, DL.putR, DL.mkTup, DL.mkLst, DL.andV, DL.orV, DL.notV, DL.andB, DL.orB, DL.notB, DL.isiM, DL.addD, DL.subD, DL.mulD, DL.gtD, DL.ltD, DL.geD, DL.leD, DL.fdivD, DL.modD, DL.powD, DL.negD, DL.intD, DL.lenD, DL.absD, DL.dropM, DL.parM, DL.eqD_int, DL.neD_int, PySem.sizeLine]) (by decide)) ⟨b, .un, .un, .refl hb, rfl⟩
    · rintro e ⟨b1, s1, s2, n1, rfl⟩
      refine Wp.seq (Wp.forM (fun r e => (∀ x ∈ r, ∃ s ∈ wordsS, x = D.str s) ∧ ∃ s3, e = fun adr => [.own (some (adr 0)) (.bag b1), s1, s2, s3]) ?_ ?_ ?_)
      · have hr := e_reserved
        refine Wp.run (x := wordsS.map .str) (e' := fun adr => [.own (some (adr 0)) (.bag b1), s1, s2, .un]) (fun adr => ?_) ⟨fun x hx => ?_, .un, rfl⟩
        · generalize wordsS.map D.str = WL at hr
          simp [itSeq, seqOf, DL.ini, DL.agsF, DL.fin, DL.outs, DL.seqM, M.bnd, M.ret, M.opt, DL.op2, DL.op1, DL.getV, DL.setM, DL.ifM, DL.tstB, DL.asB, DL.retM, DL.nxM, DL.bltM, DL.consA, DL.consV, DL.refV, DL.callM, DL.argG, DL.refs, DL.putR, DL.mkTup, DL.mkLst, DL.andV, DL.orV, DL.notV, DL.andB, DL.orB, DL.notB, DL.isiM, DL.addD, DL.subD, DL.mulD, DL.gtD, DL.ltD, DL.geD, DL.leD, DL.fdivD, DL.modD, DL.powD, DL.negD, DL.intD, DL.lenD, DL.absD, DL.dropM, DL.parM, DL.eqD_int, DL.neD_int, PySem.sizeLine, hr]
        · obtain ⟨s, hs, rfl⟩ := List.mem_map.mp hx
          exact ⟨s, hs, rfl⟩
      · rintro e ⟨_, s3, rfl⟩
        have hr := e_reserved
        have hp : F_l_plain [.d (.tup (wordsS.map .str))] = some (.ret (.bl true), []) := by
          rw [e_plain rfl (by decide +kernel) (by decide +kernel), pl_words]
        have he : eqD (.lst (wordsS.map .str)) (.lst (wordsS.map .str)) = some (.bl true) := by
          unfold eqD
          rw [if_pos ⟨okEq_words_l, okEq_words_l⟩, eqv_refl _ (by decide +kernel)]
        rw [words_eq]
        refine Wp.run (x := .rt (.bl true)) (e' := fun adr => [.own (some (adr 0)) (.bag b1), s1, s2, s3]) (fun adr => ?_) ⟨[.bag b1], fun adr => by simp [outs], b1, rfl, rfl, n1⟩
        generalize wordsS.map D.str = WL at hr hp he
        simp [DL.ini, DL.agsF, DL.fin, DL.outs, DL.seqM, M.bnd, M.ret, M.opt, DL.op2, DL.op1, DL.getV, DL.setM, DL.ifM, DL.tstB, DL.asB, DL.retM, DL.nxM, DL.bltM, DL.consA, DL.consV, DL.refV, DL.callM, DL.argG, DL.refs, DL.putR, DL.mkTup, DL.mkLst, DL.andV, DL.orV, DL.notV, DL.andB, DL.orB, DL.notB, DL.isiM, DL.addD, DL.subD, DL.mulD, DL.gtD, DL.ltD, DL.geD, DL.leD, DL.fdivD, DL.modD, DL.powD, DL.negD, DL.intD, DL.lenD, DL.absD, DL.dropM, DL.parM, DL.eqD_int, DL.neD_int, PySem.sizeLine, DL.kit_int_int, DL.kit_int_bool, DL.kit_int_str, DL.kit_int_tuple, DL.kit_int_list, DL.kit_bool_int, DL.kit_bool_bool, DL.kit_bool_str, DL.kit_bool_tuple, DL.kit_bool_list, DL.kit_str_int, DL.kit_str_bool, DL.kit_str_str, DL.kit_str_tuple, DL.kit_str_list, DL.kit_tuple_int, DL.kit_tuple_bool, DL.kit_tuple_str, DL.kit_tuple_tuple, DL.kit_tuple_list, DL.kit_list_int, DL.kit_list_bool, DL.kit_list_str, DL.kit_list_tuple, DL.kit_list_list, DL.kit_none_int, DL.kit_none_bool, DL.kit_none_str, DL.kit_none_tuple, DL.kit_none_list, DL.D.ty, datM, listM, frzO, seqOf, hr, hp, he]
      · rintro d r e ⟨hw, s3, rfl⟩
        obtain ⟨s, hs, rfl⟩ := hw d List.mem_cons_self
        have hn : F_is_name [.d (.str s)] = some (.ret (.bl false), []) := by
          rw [e_is_name rfl (fun t e => by cases e; exact ⟨(words_txt s hs).1, Nat.le_trans (words_txt s hs).2 (by decide)⟩)]
          show some (Rt.ret (.bl (nameB s)), []) = _
          rw [words_no s hs]
        refine ⟨fun adr => [.own (some (adr 0)) (.bag b1), s1, s2, .dat (.str s)], fun adr => rfl, Wp.run (x := .nx) (e' := fun adr => [.own (some (adr 0)) (.bag b1), s1, s2, .dat (.str s)]) (fun adr => by simp [DL.ini, DL.agsF, DL.fin, DL.outs, DL.seqM, M.bnd, M.ret, M.opt, DL.op2, DL.op1, DL.getV, DL.setM, DL.ifM, DL.tstB, DL.asB, DL.retM, DL.nxM, DL.bltM, DL.consA, DL.consV, DL.refV, DL.callM, DL.argG, DL.refs, DL.putR, DL.mkTup, DL.mkLst, DL.andV, DL.orV, DL.notV, DL.andB, DL.orB, DL.notB, DL.isiM, DL.addD, DL.subD, DL.mulD, DL.gtD, DL.ltD, DL.geD, DL.leD, DL.fdivD, DL.modD, DL.powD, DL.negD, DL.intD, DL.lenD, DL.absD, DL.dropM, DL.parM, DL.eqD_int, DL.neD_int, PySem.sizeLine, hn, isntD]) ⟨fun x hx => hw x (List.mem_cons_of_mem _ hx), _, rfl⟩⟩
    · rintro d r e ⟨b1, s1, s2, n1, rfl⟩
      obtain ⟨x, b2, h2, wx, n2⟩ := e_word_of n1.ok
      obtain ⟨y, b3, h3, oy, n3⟩ := e_odd_ratio n2.ok
      have i1 := e_is_name wx.a wx.b
      have i2 := e_name_fits wx.a wx.b
      have i3 := e_is_ratio oy.c oy.e (by rw [oy.a]; exact oy.c)
      have i4 := e_ratio_fits oy.c
      have i5 := e_lists oy.c oy.e
      have i6 := e_is_ratio oy.d oy.f (by rw [oy.b]; exact oy.c)
      rw [oy.a] at i3
      rw [oy.b] at i6
      have t1 : F_l_truth [.d (.bl x.isName), .d (.bl x.isName)] = some (.ret (.bl true), []) := by rw [e_truth, beq_self_eq_true]
      have t2 : F_l_truth [.d (.bl (fitsB y)), .d (.bl (fitsB y))] = some (.ret (.bl true), []) := by rw [e_truth, beq_self_eq_true]
      refine ⟨fun adr => [.own (some (adr 0)) (.bag b1), .dat d, s2, .un], fun adr => rfl, Wp.run (x := .nx) (e' := fun adr => [.own (some (adr 0)) (.bag b3), .dat d, .dat y, .un]) (fun adr => by simp [DL.ini, DL.agsF, DL.fin, DL.outs, DL.seqM, M.bnd, M.ret, M.opt, DL.op2, DL.op1, DL.getV, DL.setM, DL.ifM, DL.tstB, DL.asB, DL.retM, DL.nxM, DL.bltM, DL.consA, DL.consV, DL.refV, DL.callM, DL.argG, DL.refs, DL.putR, DL.mkTup, DL.mkLst, DL.andV, DL.orV, DL.notV, DL.andB, DL.orB, DL.notB, DL.isiM, DL.addD, DL.subD, DL.mulD, DL.gtD, DL.ltD, DL.geD, DL.leD, DL.fdivD, DL.modD, DL.powD, DL.negD, DL.intD, DL.lenD, DL.absD, DL.dropM, DL.parM, DL.eqD_int, DL.neD_int, PySem.sizeLine, h2, h3, i1, i2, i3, i4, i5, i6, t1, t2]) ⟨b3, .dat d, .dat y, (n1.trans n2).trans n3, rfl⟩⟩
  obtain ⟨d, os, h, b', rfl, rfl, h2⟩ := Wp.fn (p := 1) rfl key
  exact ⟨b', h, h2⟩
end K01
set_option maxRecDepth 100000
set_option maxHeartbeats 4000000
namespace K01
open PySem L2 DL PyProof.Rows
/-! ### the law -/
theorem size_of {z : D} (h : z ∈ ([.int 0, .int 0, .int 1, .int 1, .int 2, .int 3] : List D)) : ∃ i : Int, z = .int i ∧ (i = 0 ∨ i = 1 ∨ i = 2 ∨ i = 3) := by
  simp only [List.mem_cons, List.not_mem_nil, or_false] at h
  rcases h with rfl | rfl | rfl | rfl | rfl | rfl
  · exact ⟨0, rfl, .inl rfl⟩
  · exact ⟨0, rfl, .inl rfl⟩
  · exact ⟨1, rfl, .inr (.inl rfl)⟩
  · exact ⟨1, rfl, .inr (.inl rfl)⟩
  · exact ⟨2, rfl, .inr (.inr (.inl rfl))⟩
  · exact ⟨3, rfl, .inr (.inr (.inr rfl))⟩
theorem law_runs (lc : Addr) (ns : List Int) : ∃ e, M_law (eLaw (bag0 lc ns)) = .ok (.rt (.bl true)) e := by
  have hb : 0 ≤ (bag0 lc ns).at_ := Int.le_refl 0
  generalize bag0 lc ns = b at hb
  have key : Wp M_law (fun _ : Unit => [.un, .own none (.bag b), .un, .un, .un, .un, .un, .un]) (fun fl e => fl = .rt (.bl true)) := by
    obtain ⟨z, b1, h1, hz0, n1⟩ := e_choice hb (xs := [.int 0, .int 0, .int 1, .int 1, .int 2, .int 3]) (by decide) (by decide)
    obtain ⟨z, rfl, hz⟩ := size_of hz0
    unfold M_law m_law
    refine Wp.seqR (e1 := fun _ => [.un, .own none (.bag b1), .dat (.int z), .un, .un, .un, .un, .un]) (fun _ => by simp [DL.ini, DL.agsF, DL.fin, DL.outs, DL.seqM, M.bnd, M.ret, M.opt, DL.op2, DL.op1, DL.getV, DL.setM, DL.ifM, DL.tstB, DL.asB, DL.retM, DL.nxM, DL.bltM, DL.consA, DL.consV, DL.refV, DL.callM, DL.argG, DL.refs, DL.putR, DL.mkTup, DL.mkLst, DL.andV, DL.orV, DL.notV, DL.andB, DL.orB, DL.notB, DL.isiM, DL.addD, DL.subD, DL.mulD, DL.gtD, DL.ltD, DL.geD, DL.leD, DL.fdivD, DL.modD, DL.powD, DL.negD, DL.intD, DL.lenD, DL.absD, DL.dropM, DL.parM, DL.eqD_int, DL.neD_int, PySem.sizeLine, h1]) ?_
    obtain ⟨many, b2, h2, m0, m7, n2⟩ := e_pick n1.ok (m := 7) (by decide) (by decide +kernel)
    obtain ⟨many, rfl⟩ := Int.eq_ofNat_of_zero_le m0
    have comp : Wp (compM [4] (itRange1 (consA (callM F_l_pick (refV 1 (consV (M.ret (.int 7)) (M.ret [])))) (M.ret []))) (gSet 4) (M.ret true) (callM F_l_drawn (refV 1 (consV (getV 2) (M.ret [])))))
        (fun _ : Unit => [.un, .own none (.bag b1), .dat (.int z), .un, .un, .un, .un, .un]) (fun o e => ∃ (rs : List Rat) (b3 : Bag), o = .lst (rs.map rT) ∧ (∀ q ∈ rs, Sm 131 q) ∧ rs.length ≤ 6 ∧ Nx b b3 ∧ e = fun _ => [.un, .own none (.bag b3), .dat (.int z), .un, .un, .un, .un, .un]) := by
      refine Wp.compM (fun r ys e => ∃ (rs : List Rat) (b3 : Bag), ys = rs.map rT ∧ (∀ q ∈ rs, Sm 131 q) ∧ r.length + rs.length ≤ 6 ∧ Nx b b3 ∧ e = fun _ => [.un, .own none (.bag b3), .dat (.int z), .un, .un, .un, .un, .un]) ?_ ?_ ?_
      · refine Wp.run (x := rangeL 0 many) (e' := fun _ => [.un, .own none (.bag b2), .dat (.int z), .un, .un, .un, .un, .un]) (fun _ => range1_run (by simp [DL.ini, DL.agsF, DL.fin, DL.outs, DL.seqM, M.bnd, M.ret, M.opt, DL.op2, DL.op1, DL.getV, DL.setM, DL.ifM, DL.tstB, DL.asB, DL.retM, DL.nxM, DL.bltM, DL.consA, DL.consV, DL.refV, DL.callM, DL.argG, DL.refs, DL.putR, DL.mkTup, DL.mkLst, DL.andV, DL.orV, DL.notV, DL.andB, DL.orB, DL.notB, DL.isiM, DL.addD, DL.subD, DL.mulD, DL.gtD, DL.ltD, DL.geD, DL.leD, DL.fdivD, DL.modD, DL.powD, DL.negD, DL.intD, DL.lenD, DL.absD, DL.dropM, DL.parM, DL.eqD_int, DL.neD_int, PySem.sizeLine, h2]) (by omega)) ⟨by rw [rangeL_length]; exact sz_le (by omega), [], b2, rfl, fun q hq => (List.not_mem_nil hq).elim, by rw [rangeL_length]; simp; omega, n1.trans n2, ?_⟩
        funext _
        simp [wipeE]
      · rintro ys e ⟨rs, b3, rfl, hs, hl, n3, rfl⟩
        refine ⟨rs, b3, rfl, hs, by simpa using hl, n3, ?_⟩
        funext _
        simp [wipeE]
      · rintro d r ys e ⟨rs, b3, rfl, hs, hl, n3, rfl⟩
        obtain ⟨q, b4, h4, sq, n4⟩ := e_drawn n3.ok hz
        refine ⟨fun _ => [.un, .own none (.bag b3), .dat (.int z), .un, .dat d, .un, .un, .un], fun _ => rfl, Wp.run (x := true) (e' := fun _ => [.un, .own none (.bag b3), .dat (.int z), .un, .dat d, .un, .un, .un]) (fun _ => rfl) ?_⟩
        rw [if_pos rfl]
        refine Wp.run (x := rT q) (e' := fun _ => [.un, .own none (.bag b4), .dat (.int z), .un, .dat d, .un, .un, .un]) (fun _ => by simp [DL.ini, DL.agsF, DL.fin, DL.outs, DL.seqM, M.bnd, M.ret, M.opt, DL.op2, DL.op1, DL.getV, DL.setM, DL.ifM, DL.tstB, DL.asB, DL.retM, DL.nxM, DL.bltM, DL.consA, DL.consV, DL.refV, DL.callM, DL.argG, DL.refs, DL.putR, DL.mkTup, DL.mkLst, DL.andV, DL.orV, DL.notV, DL.andB, DL.orB, DL.notB, DL.isiM, DL.addD, DL.subD, DL.mulD, DL.gtD, DL.ltD, DL.geD, DL.leD, DL.fdivD, DL.modD, DL.powD, DL.negD, DL.intD, DL.lenD, DL.absD, DL.dropM, DL.parM, DL.eqD_int, DL.neD_int, PySem.sizeLine, h4]) ⟨rs ++ [q], b4, by simp, fun y hy => ?_, by simp at hl ⊢; omega, n3.trans n4, ?_⟩
        · rcases List.mem_append.mp hy with h | h
          · exact hs y h
          · rw [List.mem_singleton.mp h]
            exact sq
        · funext _
          simp [wipeE]
    obtain ⟨o, e', hc, rs, b3, rfl, hs, hl, n3, rfl⟩ := comp
    refine Wp.seqR (e1 := fun _ => [.un, .own none (.bag b3), .dat (.int z), .own none (.lst (rs.map rT)), .un, .un, .un, .un]) (fun u => own_run (hc u)) ?_
    obtain ⟨p, b4, h4, sp, n4⟩ := e_drawn n3.ok hz
    obtain ⟨q0, b5, h5, sq0, n5⟩ := e_drawn n4.ok hz
    obtain ⟨w, b6, h6, w0, w6, n6⟩ := e_pick n5.ok (m := 6) (by decide) (by decide +kernel)
    refine Wp.seqR (e1 := fun _ => [.un, .own none (.bag b4), .dat (.int z), .own none (.lst (rs.map rT)), .un, .dat (rT p), .un, .un]) (fun _ => by simp [DL.ini, DL.agsF, DL.fin, DL.outs, DL.seqM, M.bnd, M.ret, M.opt, DL.op2, DL.op1, DL.getV, DL.setM, DL.ifM, DL.tstB, DL.asB, DL.retM, DL.nxM, DL.bltM, DL.consA, DL.consV, DL.refV, DL.callM, DL.argG, DL.refs, DL.putR, DL.mkTup, DL.mkLst, DL.andV, DL.orV, DL.notV, DL.andB, DL.orB, DL.notB, DL.isiM, DL.addD, DL.subD, DL.mulD, DL.gtD, DL.ltD, DL.geD, DL.leD, DL.fdivD, DL.modD, DL.powD, DL.negD, DL.intD, DL.lenD, DL.absD, DL.dropM, DL.parM, DL.eqD_int, DL.neD_int, PySem.sizeLine, h4]) ?_
    refine Wp.seqR (e1 := fun _ => [.un, .own none (.bag b5), .dat (.int z), .own none (.lst (rs.map rT)), .un, .dat (rT p), .dat (rT q0), .un]) (fun _ => by simp [DL.ini, DL.agsF, DL.fin, DL.outs, DL.seqM, M.bnd, M.ret, M.opt, DL.op2, DL.op1, DL.getV, DL.setM, DL.ifM, DL.tstB, DL.asB, DL.retM, DL.nxM, DL.bltM, DL.consA, DL.consV, DL.refV, DL.callM, DL.argG, DL.refs, DL.putR, DL.mkTup, DL.mkLst, DL.andV, DL.orV, DL.notV, DL.andB, DL.orB, DL.notB, DL.isiM, DL.addD, DL.subD, DL.mulD, DL.gtD, DL.ltD, DL.geD, DL.leD, DL.fdivD, DL.modD, DL.powD, DL.negD, DL.intD, DL.lenD, DL.absD, DL.dropM, DL.parM, DL.eqD_int, DL.neD_int, PySem.sizeLine, h5]) ?_
    refine Wp.seqR (e1 := fun _ => [.un, .own none (.bag b6), .dat (.int z), .own none (.lst (rs.map rT)), .un, .dat (rT p), .dat (rT q0), .dat (.int w)]) (fun _ => by simp [DL.ini, DL.agsF, DL.fin, DL.outs, DL.seqM, M.bnd, M.ret, M.opt, DL.op2, DL.op1, DL.getV, DL.setM, DL.ifM, DL.tstB, DL.asB, DL.retM, DL.nxM, DL.bltM, DL.consA, DL.consV, DL.refV, DL.callM, DL.argG, DL.refs, DL.putR, DL.mkTup, DL.mkLst, DL.andV, DL.orV, DL.notV, DL.andB, DL.orB, DL.notB, DL.isiM, DL.addD, DL.subD, DL.mulD, DL.gtD, DL.ltD, DL.geD, DL.leD, DL.fdivD, DL.modD, DL.powD, DL.negD, DL.intD, DL.lenD, DL.absD, DL.dropM, DL.parM, DL.eqD_int, DL.neD_int, PySem.sizeLine, h6]) ?_
    have n06 := ((n3.trans n4).trans n5).trans n6
    -- behind the second one
    have rest : ∀ (q : Rat), Sm 140 q → Wp (seqM (ifM (orB (notB (tstB (callM F_l_sums_right (refV 1 (consV (getV 3) (M.ret [])))))) (notB (tstB (callM F_l_two_right (consV (getV 5) (consV (getV 6) (M.ret []))))))) (retM (M.ret (.bl false))) nxM)
  (seqM (ifM (andB (tstB (op2 ltD (getV 2) (M.ret (.int 3)))) (notB (tstB (callM F_l_algebra (consV (getV 5) (consV (getV 6) (consV (callM F_l_drawn (refV 1 (consV (getV 2) (M.ret [])))) (M.ret [])))))))) (retM (M.ret (.bl false))) nxM)
  (seqM (ifM (notB (tstB (callM F_l_made_right (refV 1 (consV (getV 2) (M.ret [])))))) (retM (M.ret (.bl false))) nxM)
  (retM (callM F_l_names_right (refV 1 (M.ret [])))))))
        (fun _ : Unit => [.un, .own none (.bag b6), .dat (.int z), .own none (.lst (rs.map rT)), .un, .dat (rT p), .dat (rT q), .dat (.int w)]) (fun fl e => fl = .rt (.bl true)) := by
      intro q sq
      obtain ⟨b7, h7, n7⟩ := e_sums_right n06.ok hs hl
      have h8 := e_two (sp.mono (by decide)) (sq.mono (by decide))
      obtain ⟨t, b8, h9, st, n8⟩ := e_drawn n7.ok hz
      have h10 := e_algebra (sp.mono (by decide)) sq (st.mono (by decide))
      generalize rs.map rT = RS at h7 ⊢
      generalize rT p = P at h8 h10 ⊢
      generalize rT q = Q at h8 h10 ⊢
      generalize rT t = T at h9 h10
      have tail : ∀ b9 : Bag, 0 ≤ b9.at_ → Wp (seqM (ifM (notB (tstB (callM F_l_made_right (refV 1 (consV (getV 2) (M.ret [])))))) (retM (M.ret (.bl false))) nxM)
  (retM (callM F_l_names_right (refV 1 (M.ret []))))) (fun _ : Unit => [.un, .own none (.bag b9), .dat (.int z), .dat (.lst RS), .un, .dat P, .dat Q, .dat (.int w)]) (fun fl e => fl = .rt (.bl true)) := by
        intro b9 h
        obtain ⟨b10, g1, m1⟩ := e_made_right h hz
        obtain ⟨b11, g2, m2⟩ := e_names_right m1.ok
        exact Wp.run (x := .rt (.bl true)) (e' := fun _ => [.un, .own none (.bag b11), .dat (.int z), .dat (.lst RS), .un, .dat P, .dat Q, .dat (.int w)]) (fun _ => by simp [DL.ini, DL.agsF, DL.fin, DL.outs, DL.seqM, M.bnd, M.ret, M.opt, DL.op2, DL.op1, DL.getV, DL.setM, DL.ifM, DL.tstB, DL.asB, DL.retM, DL.nxM, DL.bltM, DL.consA, DL.consV, DL.refV, DL.callM, DL.argG, DL.refs, DL.putR, DL.mkTup, DL.mkLst, DL.andV, DL.orV, DL.notV, DL.andB, DL.orB, DL.notB, DL.isiM, DL.addD, DL.subD, DL.mulD, DL.gtD, DL.ltD, DL.geD, DL.leD, DL.fdivD, DL.modD, DL.powD, DL.negD, DL.intD, DL.lenD, DL.absD, DL.dropM, DL.parM, DL.eqD_int, DL.neD_int, PySem.sizeLine, g1, g2]) rfl
      refine Wp.seqR (e1 := fun _ => [.un, .own none (.bag b7), .dat (.int z), .dat (.lst RS), .un, .dat P, .dat Q, .dat (.int w)]) (fun _ => by simp [DL.ini, DL.agsF, DL.fin, DL.outs, DL.seqM, M.bnd, M.ret, M.opt, DL.op2, DL.op1, DL.getV, DL.setM, DL.ifM, DL.tstB, DL.asB, DL.retM, DL.nxM, DL.bltM, DL.consA, DL.consV, DL.refV, DL.callM, DL.argG, DL.refs, DL.putR, DL.mkTup, DL.mkLst, DL.andV, DL.orV, DL.notV, DL.andB, DL.orB, DL.notB, DL.isiM, DL.addD, DL.subD, DL.mulD, DL.gtD, DL.ltD, DL.geD, DL.leD, DL.fdivD, DL.modD, DL.powD, DL.negD, DL.intD, DL.lenD, DL.absD, DL.dropM, DL.parM, DL.eqD_int, DL.neD_int, PySem.sizeLine, h7, h8]) ?_
      by_cases z3 : z < 3
      · refine Wp.seqR (e1 := fun _ => [.un, .own none (.bag b8), .dat (.int z), .dat (.lst RS), .un, .dat P, .dat Q, .dat (.int w)]) (fun _ => by simp [DL.ini, DL.agsF, DL.fin, DL.outs, DL.seqM, M.bnd, M.ret, M.opt, DL.op2, DL.op1, DL.getV, DL.setM, DL.ifM, DL.tstB, DL.asB, DL.retM, DL.nxM, DL.bltM, DL.consA, DL.consV, DL.refV, DL.callM, DL.argG, DL.refs, DL.putR, DL.mkTup, DL.mkLst, DL.andV, DL.orV, DL.notV, DL.andB, DL.orB, DL.notB, DL.isiM, DL.addD, DL.subD, DL.mulD, DL.gtD, DL.ltD, DL.geD, DL.leD, DL.fdivD, DL.modD, DL.powD, DL.negD, DL.intD, DL.lenD, DL.absD, DL.dropM, DL.parM, DL.eqD_int, DL.neD_int, PySem.sizeLine, z3, h9, h10]) ?_
        exact tail b8 n8.ok
      · refine Wp.seqR (e1 := fun _ => [.un, .own none (.bag b7), .dat (.int z), .dat (.lst RS), .un, .dat P, .dat Q, .dat (.int w)]) (fun _ => by simp [DL.ini, DL.agsF, DL.fin, DL.outs, DL.seqM, M.bnd, M.ret, M.opt, DL.op2, DL.op1, DL.getV, DL.setM, DL.ifM, DL.tstB, DL.asB, DL.retM, DL.nxM, DL.bltM, DL.consA, DL.consV, DL.refV, DL.callM, DL.argG, DL.refs, DL.putR, DL.mkTup, DL.mkLst, DL.andV, DL.orV, DL.notV, DL.andB, DL.orB, DL.notB, DL.isiM, DL.addD, DL.subD, DL.mulD, DL.gtD, DL.ltD, DL.geD, DL.leD, DL.fdivD, DL.modD, DL.powD, DL.negD, DL.intD, DL.lenD, DL.absD, DL.dropM, DL.parM, DL.eqD_int, DL.neD_int, PySem.sizeLine, z3]) ?_
        exact tail b7 n7.ok
    generalize (seqM (ifM (orB (notB (tstB (callM F_l_sums_right (refV 1 (consV (getV 3) (M.ret [])))))) (notB (tstB (callM F_l_two_right (consV (getV 5) (consV (getV 6) (M.ret []))))))) (retM (M.ret (.bl false))) nxM)
  (seqM (ifM (andB (tstB (op2 ltD (getV 2) (M.ret (.int 3)))) (notB (tstB (callM F_l_algebra (consV (getV 5) (consV (getV 6) (consV (callM F_l_drawn (refV 1 (consV (getV 2) (M.ret [])))) (M.ret [])))))))) (retM (M.ret (.bl false))) nxM)
  (seqM (ifM (notB (tstB (callM F_l_made_right (refV 1 (consV (getV 2) (M.ret [])))))) (retM (M.ret (.bl false))) nxM)
  (retM (callM F_l_names_right (refV 1 (M.ret []))))))) = C at rest ⊢
    have go : ∀ q, Sm 140 q → Wp C (fun _ : Unit => [.un, .own none (.bag b6), .dat (.int z), .own none (.lst (rs.map rT)), .un, .dat (rT p), .dat (rT q), .dat (.int w)]) (fun fl e => fl = .rt (.bl true)) := rest
    have up : Sm 140 q0 := sq0.mono (by decide)
    by_cases c0 : w = 0
    · subst c0
      refine Wp.seqR (e1 := fun _ => [.un, .own none (.bag b6), .dat (.int z), .own none (.lst (rs.map rT)), .un, .dat (rT p), .dat (rT p), .dat (.int 0)]) (fun _ => by simp [DL.ini, DL.agsF, DL.fin, DL.outs, DL.seqM, M.bnd, M.ret, M.opt, DL.op2, DL.op1, DL.getV, DL.setM, DL.ifM, DL.tstB, DL.asB, DL.retM, DL.nxM, DL.bltM, DL.consA, DL.consV, DL.refV, DL.callM, DL.argG, DL.refs, DL.putR, DL.mkTup, DL.mkLst, DL.andV, DL.orV, DL.notV, DL.andB, DL.orB, DL.notB, DL.isiM, DL.addD, DL.subD, DL.mulD, DL.gtD, DL.ltD, DL.geD, DL.leD, DL.fdivD, DL.modD, DL.powD, DL.negD, DL.intD, DL.lenD, DL.absD, DL.dropM, DL.parM, DL.eqD_int, DL.neD_int, PySem.sizeLine]) ?_
      refine Wp.seqR (e1 := fun _ => [.un, .own none (.bag b6), .dat (.int z), .own none (.lst (rs.map rT)), .un, .dat (rT p), .dat (rT p), .dat (.int 0)]) (fun _ => by simp [DL.ini, DL.agsF, DL.fin, DL.outs, DL.seqM, M.bnd, M.ret, M.opt, DL.op2, DL.op1, DL.getV, DL.setM, DL.ifM, DL.tstB, DL.asB, DL.retM, DL.nxM, DL.bltM, DL.consA, DL.consV, DL.refV, DL.callM, DL.argG, DL.refs, DL.putR, DL.mkTup, DL.mkLst, DL.andV, DL.orV, DL.notV, DL.andB, DL.orB, DL.notB, DL.isiM, DL.addD, DL.subD, DL.mulD, DL.gtD, DL.ltD, DL.geD, DL.leD, DL.fdivD, DL.modD, DL.powD, DL.negD, DL.intD, DL.lenD, DL.absD, DL.dropM, DL.parM, DL.eqD_int, DL.neD_int, PySem.sizeLine]) ?_
      refine Wp.seqR (e1 := fun _ => [.un, .own none (.bag b6), .dat (.int z), .own none (.lst (rs.map rT)), .un, .dat (rT p), .dat (rT p), .dat (.int 0)]) (fun _ => by simp [DL.ini, DL.agsF, DL.fin, DL.outs, DL.seqM, M.bnd, M.ret, M.opt, DL.op2, DL.op1, DL.getV, DL.setM, DL.ifM, DL.tstB, DL.asB, DL.retM, DL.nxM, DL.bltM, DL.consA, DL.consV, DL.refV, DL.callM, DL.argG, DL.refs, DL.putR, DL.mkTup, DL.mkLst, DL.andV, DL.orV, DL.notV, DL.andB, DL.orB, DL.notB, DL.isiM, DL.addD, DL.subD, DL.mulD, DL.gtD, DL.ltD, DL.geD, DL.leD, DL.fdivD, DL.modD, DL.powD, DL.negD, DL.intD, DL.lenD, DL.absD, DL.dropM, DL.parM, DL.eqD_int, DL.neD_int, PySem.sizeLine]) ?_
      exact go p (sp.mono (by decide))
    · by_cases c1 : w = 1
      · subst c1
        have e1 : D.tup [.int (-p.num), .int p.den] = rT (-p) := by unfold rT; rw [Rat.neg_num, Rat.neg_den]
        refine Wp.seqR (e1 := fun _ => [.un, .own none (.bag b6), .dat (.int z), .own none (.lst (rs.map rT)), .un, .dat (rT p), .dat (rT q0), .dat (.int 1)]) (fun _ => by simp [DL.ini, DL.agsF, DL.fin, DL.outs, DL.seqM, M.bnd, M.ret, M.opt, DL.op2, DL.op1, DL.getV, DL.setM, DL.ifM, DL.tstB, DL.asB, DL.retM, DL.nxM, DL.bltM, DL.consA, DL.consV, DL.refV, DL.callM, DL.argG, DL.refs, DL.putR, DL.mkTup, DL.mkLst, DL.andV, DL.orV, DL.notV, DL.andB, DL.orB, DL.notB, DL.isiM, DL.addD, DL.subD, DL.mulD, DL.gtD, DL.ltD, DL.geD, DL.leD, DL.fdivD, DL.modD, DL.powD, DL.negD, DL.intD, DL.lenD, DL.absD, DL.dropM, DL.parM, DL.eqD_int, DL.neD_int, PySem.sizeLine]) ?_
        refine Wp.seqR (e1 := fun _ => [.un, .own none (.bag b6), .dat (.int z), .own none (.lst (rs.map rT)), .un, .dat (rT p), .dat (rT (-p)), .dat (.int 1)]) (fun _ => by rw [← e1]; simp [DL.ini, DL.agsF, DL.fin, DL.outs, DL.seqM, M.bnd, M.ret, M.opt, DL.op2, DL.op1, DL.getV, DL.setM, DL.ifM, DL.tstB, DL.asB, DL.retM, DL.nxM, DL.bltM, DL.consA, DL.consV, DL.refV, DL.callM, DL.argG, DL.refs, DL.putR, DL.mkTup, DL.mkLst, DL.andV, DL.orV, DL.notV, DL.andB, DL.orB, DL.notB, DL.isiM, DL.addD, DL.subD, DL.mulD, DL.gtD, DL.ltD, DL.geD, DL.leD, DL.fdivD, DL.modD, DL.powD, DL.negD, DL.intD, DL.lenD, DL.absD, DL.dropM, DL.parM, DL.eqD_int, DL.neD_int, PySem.sizeLine, (isR_t p).a, (isR_t p).b]) ?_
        refine Wp.seqR (e1 := fun _ => [.un, .own none (.bag b6), .dat (.int z), .own none (.lst (rs.map rT)), .un, .dat (rT p), .dat (rT (-p)), .dat (.int 1)]) (fun _ => by simp [DL.ini, DL.agsF, DL.fin, DL.outs, DL.seqM, M.bnd, M.ret, M.opt, DL.op2, DL.op1, DL.getV, DL.setM, DL.ifM, DL.tstB, DL.asB, DL.retM, DL.nxM, DL.bltM, DL.consA, DL.consV, DL.refV, DL.callM, DL.argG, DL.refs, DL.putR, DL.mkTup, DL.mkLst, DL.andV, DL.orV, DL.notV, DL.andB, DL.orB, DL.notB, DL.isiM, DL.addD, DL.subD, DL.mulD, DL.gtD, DL.ltD, DL.geD, DL.leD, DL.fdivD, DL.modD, DL.powD, DL.negD, DL.intD, DL.lenD, DL.absD, DL.dropM, DL.parM, DL.eqD_int, DL.neD_int, PySem.sizeLine]) ?_
        exact go (-p) (sm_neg (sp.mono (by decide)))
      · by_cases c2 : w = 2
        · subst c2
          refine Wp.seqR (e1 := fun _ => [.un, .own none (.bag b6), .dat (.int z), .own none (.lst (rs.map rT)), .un, .dat (rT p), .dat (rT q0), .dat (.int 2)]) (fun _ => by simp [DL.ini, DL.agsF, DL.fin, DL.outs, DL.seqM, M.bnd, M.ret, M.opt, DL.op2, DL.op1, DL.getV, DL.setM, DL.ifM, DL.tstB, DL.asB, DL.retM, DL.nxM, DL.bltM, DL.consA, DL.consV, DL.refV, DL.callM, DL.argG, DL.refs, DL.putR, DL.mkTup, DL.mkLst, DL.andV, DL.orV, DL.notV, DL.andB, DL.orB, DL.notB, DL.isiM, DL.addD, DL.subD, DL.mulD, DL.gtD, DL.ltD, DL.geD, DL.leD, DL.fdivD, DL.modD, DL.powD, DL.negD, DL.intD, DL.lenD, DL.absD, DL.dropM, DL.parM, DL.eqD_int, DL.neD_int, PySem.sizeLine]) ?_
          refine Wp.seqR (e1 := fun _ => [.un, .own none (.bag b6), .dat (.int z), .own none (.lst (rs.map rT)), .un, .dat (rT p), .dat (rT q0), .dat (.int 2)]) (fun _ => by simp [DL.ini, DL.agsF, DL.fin, DL.outs, DL.seqM, M.bnd, M.ret, M.opt, DL.op2, DL.op1, DL.getV, DL.setM, DL.ifM, DL.tstB, DL.asB, DL.retM, DL.nxM, DL.bltM, DL.consA, DL.consV, DL.refV, DL.callM, DL.argG, DL.refs, DL.putR, DL.mkTup, DL.mkLst, DL.andV, DL.orV, DL.notV, DL.andB, DL.orB, DL.notB, DL.isiM, DL.addD, DL.subD, DL.mulD, DL.gtD, DL.ltD, DL.geD, DL.leD, DL.fdivD, DL.modD, DL.powD, DL.negD, DL.intD, DL.lenD, DL.absD, DL.dropM, DL.parM, DL.eqD_int, DL.neD_int, PySem.sizeLine]) ?_
          refine Wp.seqR (e1 := fun _ => [.un, .own none (.bag b6), .dat (.int z), .own none (.lst (rs.map rT)), .un, .dat (rT p), .dat (rT (p.num : Rat)), .dat (.int 2)]) (fun _ => by
            have e1 : D.tup [.int p.num, .int 1] = rT (p.num : Rat) := rfl
            rw [← e1]
            simp [DL.ini, DL.agsF, DL.fin, DL.outs, DL.seqM, M.bnd, M.ret, M.opt, DL.op2, DL.op1, DL.getV, DL.setM, DL.ifM, DL.tstB, DL.asB, DL.retM, DL.nxM, DL.bltM, DL.consA, DL.consV, DL.refV, DL.callM, DL.argG, DL.refs, DL.putR, DL.mkTup, DL.mkLst, DL.andV, DL.orV, DL.notV, DL.andB, DL.orB, DL.notB, DL.isiM, DL.addD, DL.subD, DL.mulD, DL.gtD, DL.ltD, DL.geD, DL.leD, DL.fdivD, DL.modD, DL.powD, DL.negD, DL.intD, DL.lenD, DL.absD, DL.dropM, DL.parM, DL.eqD_int, DL.neD_int, PySem.sizeLine, (isR_t p).a, (isR_t p).b]) ?_
          exact go _ ⟨by have := sp.n; exact bd_up (b := 140) this (by decide), by show 1 < 2 ^ 140; decide⟩
        · refine Wp.seqR (e1 := fun _ => [.un, .own none (.bag b6), .dat (.int z), .own none (.lst (rs.map rT)), .un, .dat (rT p), .dat (rT q0), .dat (.int w)]) (fun _ => by simp [DL.ini, DL.agsF, DL.fin, DL.outs, DL.seqM, M.bnd, M.ret, M.opt, DL.op2, DL.op1, DL.getV, DL.setM, DL.ifM, DL.tstB, DL.asB, DL.retM, DL.nxM, DL.bltM, DL.consA, DL.consV, DL.refV, DL.callM, DL.argG, DL.refs, DL.putR, DL.mkTup, DL.mkLst, DL.andV, DL.orV, DL.notV, DL.andB, DL.orB, DL.notB, DL.isiM, DL.addD, DL.subD, DL.mulD, DL.gtD, DL.ltD, DL.geD, DL.leD, DL.fdivD, DL.modD, DL.powD, DL.negD, DL.intD, DL.lenD, DL.absD, DL.dropM, DL.parM, DL.eqD_int, DL.neD_int, PySem.sizeLine, c0]) ?_
          refine Wp.seqR (e1 := fun _ => [.un, .own none (.bag b6), .dat (.int z), .own none (.lst (rs.map rT)), .un, .dat (rT p), .dat (rT q0), .dat (.int w)]) (fun _ => by simp [DL.ini, DL.agsF, DL.fin, DL.outs, DL.seqM, M.bnd, M.ret, M.opt, DL.op2, DL.op1, DL.getV, DL.setM, DL.ifM, DL.tstB, DL.asB, DL.retM, DL.nxM, DL.bltM, DL.consA, DL.consV, DL.refV, DL.callM, DL.argG, DL.refs, DL.putR, DL.mkTup, DL.mkLst, DL.andV, DL.orV, DL.notV, DL.andB, DL.orB, DL.notB, DL.isiM, DL.addD, DL.subD, DL.mulD, DL.gtD, DL.ltD, DL.geD, DL.leD, DL.fdivD, DL.modD, DL.powD, DL.negD, DL.intD, DL.lenD, DL.absD, DL.dropM, DL.parM, DL.eqD_int, DL.neD_int, PySem.sizeLine, c1]) ?_
          refine Wp.seqR (e1 := fun _ => [.un, .own none (.bag b6), .dat (.int z), .own none (.lst (rs.map rT)), .un, .dat (rT p), .dat (rT q0), .dat (.int w)]) (fun _ => by simp [DL.ini, DL.agsF, DL.fin, DL.outs, DL.seqM, M.bnd, M.ret, M.opt, DL.op2, DL.op1, DL.getV, DL.setM, DL.ifM, DL.tstB, DL.asB, DL.retM, DL.nxM, DL.bltM, DL.consA, DL.consV, DL.refV, DL.callM, DL.argG, DL.refs, DL.putR, DL.mkTup, DL.mkLst, DL.andV, DL.orV, DL.notV, DL.andB, DL.orB, DL.notB, DL.isiM, DL.addD, DL.subD, DL.mulD, DL.gtD, DL.ltD, DL.geD, DL.leD, DL.fdivD, DL.modD, DL.powD, DL.negD, DL.intD, DL.lenD, DL.absD, DL.dropM, DL.parM, DL.eqD_int, DL.neD_int, PySem.sizeLine, c2]) ?_
          exact go q0 up
  obtain ⟨fl, e', h, rfl⟩ := key
  exact ⟨_, h ()⟩
section
variable {P : Program} {w : World} {K : PySem.W.Frag} {mg : Str → Option Value} {base : Heap}
theorem law_fin (T : Tx P K mg) {fd : FuncData} (Fu : Fun K "law" "law" s_law T.f_law fd) : FnOk P w K mg base (L2.CX P w) 10 T.f_law fd ["_law_script"] (spLaw K) :=
  law_by T (fun lc ns _ => law_runs lc ns) Fu
end
end K01
set_option maxRecDepth 100000
set_option maxHeartbeats 8000000
namespace K01
open PySem L2 DL PyProof.Rows

theorem all_mk {P : Program} {w : World} {K : PySem.W.Frag} {h : Heap} {mg : Str → Option Value} {fa : Addr} (X : K.In h) (G : h.Ns mainGlobals mg) (hfa : mg "law" = some (.ref fa))
    {f_l_pick : Addr} {oc_l_pick kV_l_pick dc_l_pick pm_l_pick cd_l_pick ct_l_pick : Value} {od_l_pick an_l_pick : Option Addr} {sl_l_pick : Array (Option Value)}
    {f_l_choice : Addr} {oc_l_choice kV_l_choice dc_l_choice pm_l_choice cd_l_choice ct_l_choice : Value} {od_l_choice an_l_choice : Option Addr} {sl_l_choice : Array (Option Value)}
    {f_l_number_of : Addr} {oc_l_number_of kV_l_number_of dc_l_number_of pm_l_number_of cd_l_number_of ct_l_number_of : Value} {od_l_number_of an_l_number_of : Option Addr} {sl_l_number_of : Array (Option Value)}
    {f_l_common : Addr} {oc_l_common kV_l_common dc_l_common pm_l_common cd_l_common ct_l_common : Value} {od_l_common an_l_common : Option Addr} {sl_l_common : Array (Option Value)}
    {f_l_ratio : Addr} {oc_l_ratio kV_l_ratio dc_l_ratio pm_l_ratio cd_l_ratio ct_l_ratio : Value} {od_l_ratio an_l_ratio : Option Addr} {sl_l_ratio : Array (Option Value)}
    {f_l_drawn : Addr} {oc_l_drawn kV_l_drawn dc_l_drawn pm_l_drawn cd_l_drawn ct_l_drawn : Value} {od_l_drawn an_l_drawn : Option Addr} {sl_l_drawn : Array (Option Value)}
    {f_l_reserved : Addr} {oc_l_reserved kV_l_reserved dc_l_reserved pm_l_reserved cd_l_reserved ct_l_reserved : Value} {od_l_reserved an_l_reserved : Option Addr} {sl_l_reserved : Array (Option Value)}
    {f_l_spelled : Addr} {oc_l_spelled kV_l_spelled dc_l_spelled pm_l_spelled cd_l_spelled ct_l_spelled : Value} {od_l_spelled an_l_spelled : Option Addr} {sl_l_spelled : Array (Option Value)}
    {f_l_word_of : Addr} {oc_l_word_of kV_l_word_of dc_l_word_of pm_l_word_of cd_l_word_of ct_l_word_of : Value} {od_l_word_of an_l_word_of : Option Addr} {sl_l_word_of : Array (Option Value)}
    {f_l_odd_ratio : Addr} {oc_l_odd_ratio kV_l_odd_ratio dc_l_odd_ratio pm_l_odd_ratio cd_l_odd_ratio ct_l_odd_ratio : Value} {od_l_odd_ratio an_l_odd_ratio : Option Addr} {sl_l_odd_ratio : Array (Option Value)}
    {f_l_integer : Addr} {oc_l_integer kV_l_integer dc_l_integer pm_l_integer cd_l_integer ct_l_integer : Value} {od_l_integer an_l_integer : Option Addr} {sl_l_integer : Array (Option Value)}
    {f_l_plain : Addr} {oc_l_plain kV_l_plain dc_l_plain pm_l_plain cd_l_plain ct_l_plain : Value} {od_l_plain an_l_plain : Option Addr} {sl_l_plain : Array (Option Value)}
    {f_l_truth : Addr} {oc_l_truth kV_l_truth dc_l_truth pm_l_truth cd_l_truth ct_l_truth : Value} {od_l_truth an_l_truth : Option Addr} {sl_l_truth : Array (Option Value)}
    {f_is_name : Addr} {oc_is_name kV_is_name dc_is_name pm_is_name cd_is_name ct_is_name : Value} {od_is_name an_is_name : Option Addr} {sl_is_name : Array (Option Value)}
    {f_l_name_fits : Addr} {oc_l_name_fits kV_l_name_fits dc_l_name_fits pm_l_name_fits cd_l_name_fits ct_l_name_fits : Value} {od_l_name_fits an_l_name_fits : Option Addr} {sl_l_name_fits : Array (Option Value)}
    {f_deep : Addr} {oc_deep kV_deep dc_deep pm_deep cd_deep ct_deep : Value} {od_deep an_deep : Option Addr} {sl_deep : Array (Option Value)}
    {f_common : Addr} {oc_common kV_common dc_common pm_common cd_common ct_common : Value} {od_common an_common : Option Addr} {sl_common : Array (Option Value)}
    {f_is_integer : Addr} {oc_is_integer kV_is_integer dc_is_integer pm_is_integer cd_is_integer ct_is_integer : Value} {od_is_integer an_is_integer : Option Addr} {sl_is_integer : Array (Option Value)}
    {f_rate_of : Addr} {oc_rate_of kV_rate_of dc_rate_of pm_rate_of cd_rate_of ct_rate_of : Value} {od_rate_of an_rate_of : Option Addr} {sl_rate_of : Array (Option Value)}
    {f_is_ratio : Addr} {oc_is_ratio kV_is_ratio dc_is_ratio pm_is_ratio cd_is_ratio ct_is_ratio : Value} {od_is_ratio an_is_ratio : Option Addr} {sl_is_ratio : Array (Option Value)}
    {f_l_ratio_fits : Addr} {oc_l_ratio_fits kV_l_ratio_fits dc_l_ratio_fits pm_l_ratio_fits cd_l_ratio_fits ct_l_ratio_fits : Value} {od_l_ratio_fits an_l_ratio_fits : Option Addr} {sl_l_ratio_fits : Array (Option Value)}
    {f_l_lists : Addr} {oc_l_lists kV_l_lists dc_l_lists pm_l_lists cd_l_lists ct_l_lists : Value} {od_l_lists an_l_lists : Option Addr} {sl_l_lists : Array (Option Value)}
    {f_l_names_right : Addr} {oc_l_names_right kV_l_names_right dc_l_names_right pm_l_names_right cd_l_names_right ct_l_names_right : Value} {od_l_names_right an_l_names_right : Option Addr} {sl_l_names_right : Array (Option Value)}
    {f_l_one_in : Addr} {oc_l_one_in kV_l_one_in dc_l_one_in pm_l_one_in cd_l_one_in ct_l_one_in : Value} {od_l_one_in an_l_one_in : Option Addr} {sl_l_one_in : Array (Option Value)}
    {f_ratio : Addr} {oc_ratio kV_ratio dc_ratio pm_ratio cd_ratio ct_ratio : Value} {od_ratio an_ratio : Option Addr} {sl_ratio : Array (Option Value)}
    {dT_ratio : Addr} {cT_ratio : Value} {dd_ratio : Option Addr} {nT_ratio : Nat} {sT_ratio : Array (Option Value)} {tk_ratio : Tok}
    {f_l_made : Addr} {oc_l_made kV_l_made dc_l_made pm_l_made cd_l_made ct_l_made : Value} {od_l_made an_l_made : Option Addr} {sl_l_made : Array (Option Value)}
    {f_l_made_right : Addr} {oc_l_made_right kV_l_made_right dc_l_made_right pm_l_made_right cd_l_made_right ct_l_made_right : Value} {od_l_made_right an_l_made_right : Option Addr} {sl_l_made_right : Array (Option Value)}
    {f_plus : Addr} {oc_plus kV_plus dc_plus pm_plus cd_plus ct_plus : Value} {od_plus an_plus : Option Addr} {sl_plus : Array (Option Value)}
    {f_l_sum : Addr} {oc_l_sum kV_l_sum dc_l_sum pm_l_sum cd_l_sum ct_l_sum : Value} {od_l_sum an_l_sum : Option Addr} {sl_l_sum : Array (Option Value)}
    {f_l_plus : Addr} {oc_l_plus kV_l_plus dc_l_plus pm_l_plus cd_l_plus ct_l_plus : Value} {od_l_plus an_l_plus : Option Addr} {sl_l_plus : Array (Option Value)}
    {f_l_tuples : Addr} {oc_l_tuples kV_l_tuples dc_l_tuples pm_l_tuples cd_l_tuples ct_l_tuples : Value} {od_l_tuples an_l_tuples : Option Addr} {sl_l_tuples : Array (Option Value)}
    {f_l_shuffled : Addr} {oc_l_shuffled kV_l_shuffled dc_l_shuffled pm_l_shuffled cd_l_shuffled ct_l_shuffled : Value} {od_l_shuffled an_l_shuffled : Option Addr} {sl_l_shuffled : Array (Option Value)}
    {f_l_sums_right : Addr} {oc_l_sums_right kV_l_sums_right dc_l_sums_right pm_l_sums_right cd_l_sums_right ct_l_sums_right : Value} {od_l_sums_right an_l_sums_right : Option Addr} {sl_l_sums_right : Array (Option Value)}
    {f_write_ratio : Addr} {oc_write_ratio kV_write_ratio dc_write_ratio pm_write_ratio cd_write_ratio ct_write_ratio : Value} {od_write_ratio an_write_ratio : Option Addr} {sl_write_ratio : Array (Option Value)}
    {f_minus : Addr} {oc_minus kV_minus dc_minus pm_minus cd_minus ct_minus : Value} {od_minus an_minus : Option Addr} {sl_minus : Array (Option Value)}
    {f_times : Addr} {oc_times kV_times dc_times pm_times cd_times ct_times : Value} {od_times an_times : Option Addr} {sl_times : Array (Option Value)}
    {f_less : Addr} {oc_less kV_less dc_less pm_less cd_less ct_less : Value} {od_less an_less : Option Addr} {sl_less : Array (Option Value)}
    {f_l_text : Addr} {oc_l_text kV_l_text dc_l_text pm_l_text cd_l_text ct_l_text : Value} {od_l_text an_l_text : Option Addr} {sl_l_text : Array (Option Value)}
    {f_l_two_right : Addr} {oc_l_two_right kV_l_two_right dc_l_two_right pm_l_two_right cd_l_two_right ct_l_two_right : Value} {od_l_two_right an_l_two_right : Option Addr} {sl_l_two_right : Array (Option Value)}
    {f_l_algebra : Addr} {oc_l_algebra kV_l_algebra dc_l_algebra pm_l_algebra cd_l_algebra ct_l_algebra : Value} {od_l_algebra an_l_algebra : Option Addr} {sl_l_algebra : Array (Option Value)}
    {f_law : Addr} {oc_law kV_law dc_law pm_law cd_law ct_law : Value} {od_law an_law : Option Addr} {sl_law : Array (Option Value)}
    {f_l_bag_of : Addr} {oc_l_bag_of kV_l_bag_of dc_l_bag_of pm_l_bag_of cd_l_bag_of ct_l_bag_of : Value} {od_l_bag_of an_l_bag_of : Option Addr} {sl_l_bag_of : Array (Option Value)}
    {C_StrawError C_BadRatio C_BadFace i_BadRatio cc_BadRatio cda_BadRatio N_BadRatio w_a : Addr}
    {nm_BadRatio q_BadRatio : Str} {bs_BadRatio bm_BadRatio su_BadRatio : List Value} {sn_BadRatio : List Str} {ab_BadRatio : Bool} {co_BadRatio : Option Bool} {dd_BadRatio : Option Addr} {m0_BadRatio m1_BadRatio m2_BadRatio m3_BadRatio m5_BadRatio : Option Value}
    {cl1 : Value} {cd1 : Option Addr} {cs1 : Array (Option Value)} {cl2 : Value} {cd2 : Option Addr} {cs2 : Array (Option Value)} {vs2 : Array Value} {file2 : Str} {tf2 : Tok}
    {oc3 dc3 pm3 ct3 : Value} {od3 an3 : Option Addr} {sl3 : Array (Option Value)}
    {oW : Obj} {iW : Array Value} {kW : Nat} {tk_LETTERS : Tok}
    (a_l_pick : PySem.W.nsIn K mainGlobals "_law_pick" = some (some (.ref f_l_pick)))
    (l_l_pick : K.lookup f_l_pick = some ⟨oc_l_pick, od_l_pick, .func (PySem.W.fnOf "_law_pick" "_law_pick" (defArgs s_l_pick) (defBody s_l_pick) (defScope s_l_pick) .none kV_l_pick dc_l_pick pm_l_pick an_l_pick cd_l_pick ct_l_pick), sl_l_pick⟩)
    (c_l_pick : PySem.W.codeIn K cd_l_pick "_law_pick" = true)
    (k_l_pick : PySem.W.keepIn K (.ref f_l_pick) = true)
    (a_l_choice : PySem.W.nsIn K mainGlobals "_law_choice" = some (some (.ref f_l_choice)))
    (l_l_choice : K.lookup f_l_choice = some ⟨oc_l_choice, od_l_choice, .func (PySem.W.fnOf "_law_choice" "_law_choice" (defArgs s_l_choice) (defBody s_l_choice) (defScope s_l_choice) .none kV_l_choice dc_l_choice pm_l_choice an_l_choice cd_l_choice ct_l_choice), sl_l_choice⟩)
    (c_l_choice : PySem.W.codeIn K cd_l_choice "_law_choice" = true)
    (k_l_choice : PySem.W.keepIn K (.ref f_l_choice) = true)
    (a_l_number_of : PySem.W.nsIn K mainGlobals "_law_number_of" = some (some (.ref f_l_number_of)))
    (l_l_number_of : K.lookup f_l_number_of = some ⟨oc_l_number_of, od_l_number_of, .func (PySem.W.fnOf "_law_number_of" "_law_number_of" (defArgs s_l_number_of) (defBody s_l_number_of) (defScope s_l_number_of) .none kV_l_number_of dc_l_number_of pm_l_number_of an_l_number_of cd_l_number_of ct_l_number_of), sl_l_number_of⟩)
    (c_l_number_of : PySem.W.codeIn K cd_l_number_of "_law_number_of" = true)
    (k_l_number_of : PySem.W.keepIn K (.ref f_l_number_of) = true)
    (a_l_common : PySem.W.nsIn K mainGlobals "_law_common" = some (some (.ref f_l_common)))
    (l_l_common : K.lookup f_l_common = some ⟨oc_l_common, od_l_common, .func (PySem.W.fnOf "_law_common" "_law_common" (defArgs s_l_common) (defBody s_l_common) (defScope s_l_common) .none kV_l_common dc_l_common pm_l_common an_l_common cd_l_common ct_l_common), sl_l_common⟩)
    (c_l_common : PySem.W.codeIn K cd_l_common "_law_common" = true)
    (k_l_common : PySem.W.keepIn K (.ref f_l_common) = true)
    (a_l_ratio : PySem.W.nsIn K mainGlobals "_law_ratio" = some (some (.ref f_l_ratio)))
    (l_l_ratio : K.lookup f_l_ratio = some ⟨oc_l_ratio, od_l_ratio, .func (PySem.W.fnOf "_law_ratio" "_law_ratio" (defArgs s_l_ratio) (defBody s_l_ratio) (defScope s_l_ratio) .none kV_l_ratio dc_l_ratio pm_l_ratio an_l_ratio cd_l_ratio ct_l_ratio), sl_l_ratio⟩)
    (c_l_ratio : PySem.W.codeIn K cd_l_ratio "_law_ratio" = true)
    (k_l_ratio : PySem.W.keepIn K (.ref f_l_ratio) = true)
    (a_l_drawn : PySem.W.nsIn K mainGlobals "_law_drawn" = some (some (.ref f_l_drawn)))
    (l_l_drawn : K.lookup f_l_drawn = some ⟨oc_l_drawn, od_l_drawn, .func (PySem.W.fnOf "_law_drawn" "_law_drawn" (defArgs s_l_drawn) (defBody s_l_drawn) (defScope s_l_drawn) .none kV_l_drawn dc_l_drawn pm_l_drawn an_l_drawn cd_l_drawn ct_l_drawn), sl_l_drawn⟩)
    (c_l_drawn : PySem.W.codeIn K cd_l_drawn "_law_drawn" = true)
    (k_l_drawn : PySem.W.keepIn K (.ref f_l_drawn) = true)
    (a_l_reserved : PySem.W.nsIn K mainGlobals "_law_reserved" = some (some (.ref f_l_reserved)))
    (l_l_reserved : K.lookup f_l_reserved = some ⟨oc_l_reserved, od_l_reserved, .func (PySem.W.fnOf "_law_reserved" "_law_reserved" (defArgs s_l_reserved) (defBody s_l_reserved) (defScope s_l_reserved) .none kV_l_reserved dc_l_reserved pm_l_reserved an_l_reserved cd_l_reserved ct_l_reserved), sl_l_reserved⟩)
    (c_l_reserved : PySem.W.codeIn K cd_l_reserved "_law_reserved" = true)
    (k_l_reserved : PySem.W.keepIn K (.ref f_l_reserved) = true)
    (a_l_spelled : PySem.W.nsIn K mainGlobals "_law_spelled" = some (some (.ref f_l_spelled)))
    (l_l_spelled : K.lookup f_l_spelled = some ⟨oc_l_spelled, od_l_spelled, .func (PySem.W.fnOf "_law_spelled" "_law_spelled" (defArgs s_l_spelled) (defBody s_l_spelled) (defScope s_l_spelled) .none kV_l_spelled dc_l_spelled pm_l_spelled an_l_spelled cd_l_spelled ct_l_spelled), sl_l_spelled⟩)
    (c_l_spelled : PySem.W.codeIn K cd_l_spelled "_law_spelled" = true)
    (k_l_spelled : PySem.W.keepIn K (.ref f_l_spelled) = true)
    (a_l_word_of : PySem.W.nsIn K mainGlobals "_law_word_of" = some (some (.ref f_l_word_of)))
    (l_l_word_of : K.lookup f_l_word_of = some ⟨oc_l_word_of, od_l_word_of, .func (PySem.W.fnOf "_law_word_of" "_law_word_of" (defArgs s_l_word_of) (defBody s_l_word_of) (defScope s_l_word_of) .none kV_l_word_of dc_l_word_of pm_l_word_of an_l_word_of cd_l_word_of ct_l_word_of), sl_l_word_of⟩)
    (c_l_word_of : PySem.W.codeIn K cd_l_word_of "_law_word_of" = true)
    (k_l_word_of : PySem.W.keepIn K (.ref f_l_word_of) = true)
    (a_l_odd_ratio : PySem.W.nsIn K mainGlobals "_law_odd_ratio" = some (some (.ref f_l_odd_ratio)))
    (l_l_odd_ratio : K.lookup f_l_odd_ratio = some ⟨oc_l_odd_ratio, od_l_odd_ratio, .func (PySem.W.fnOf "_law_odd_ratio" "_law_odd_ratio" (defArgs s_l_odd_ratio) (defBody s_l_odd_ratio) (defScope s_l_odd_ratio) .none kV_l_odd_ratio dc_l_odd_ratio pm_l_odd_ratio an_l_odd_ratio cd_l_odd_ratio ct_l_odd_ratio), sl_l_odd_ratio⟩)
    (c_l_odd_ratio : PySem.W.codeIn K cd_l_odd_ratio "_law_odd_ratio" = true)
    (k_l_odd_ratio : PySem.W.keepIn K (.ref f_l_odd_ratio) = true)
    (a_l_integer : PySem.W.nsIn K mainGlobals "_law_integer" = some (some (.ref f_l_integer)))
    (l_l_integer : K.lookup f_l_integer = some ⟨oc_l_integer, od_l_integer, .func (PySem.W.fnOf "_law_integer" "_law_integer" (defArgs s_l_integer) (defBody s_l_integer) (defScope s_l_integer) .none kV_l_integer dc_l_integer pm_l_integer an_l_integer cd_l_integer ct_l_integer), sl_l_integer⟩)
    (c_l_integer : PySem.W.codeIn K cd_l_integer "_law_integer" = true)
    (k_l_integer : PySem.W.keepIn K (.ref f_l_integer) = true)
    (a_l_plain : PySem.W.nsIn K mainGlobals "_law_plain" = some (some (.ref f_l_plain)))
    (l_l_plain : K.lookup f_l_plain = some ⟨oc_l_plain, od_l_plain, .func (PySem.W.fnOf "_law_plain" "_law_plain" (defArgs s_l_plain) (defBody s_l_plain) (defScope s_l_plain) .none kV_l_plain dc_l_plain pm_l_plain an_l_plain cd_l_plain ct_l_plain), sl_l_plain⟩)
    (c_l_plain : PySem.W.codeIn K cd_l_plain "_law_plain" = true)
    (k_l_plain : PySem.W.keepIn K (.ref f_l_plain) = true)
    (a_l_truth : PySem.W.nsIn K mainGlobals "_law_truth" = some (some (.ref f_l_truth)))
    (l_l_truth : K.lookup f_l_truth = some ⟨oc_l_truth, od_l_truth, .func (PySem.W.fnOf "_law_truth" "_law_truth" (defArgs s_l_truth) (defBody s_l_truth) (defScope s_l_truth) .none kV_l_truth dc_l_truth pm_l_truth an_l_truth cd_l_truth ct_l_truth), sl_l_truth⟩)
    (c_l_truth : PySem.W.codeIn K cd_l_truth "_law_truth" = true)
    (k_l_truth : PySem.W.keepIn K (.ref f_l_truth) = true)
    (a_is_name : PySem.W.nsIn K mainGlobals "is_name" = some (some (.ref f_is_name)))
    (l_is_name : K.lookup f_is_name = some ⟨oc_is_name, od_is_name, .func (PySem.W.fnOf "is_name" "is_name" (defArgs s_is_name) (defBody s_is_name) (defScope s_is_name) .none kV_is_name dc_is_name pm_is_name an_is_name cd_is_name ct_is_name), sl_is_name⟩)
    (c_is_name : PySem.W.codeIn K cd_is_name "is_name" = true)
    (k_is_name : PySem.W.keepIn K (.ref f_is_name) = true)
    (a_l_name_fits : PySem.W.nsIn K mainGlobals "_law_name_fits" = some (some (.ref f_l_name_fits)))
    (l_l_name_fits : K.lookup f_l_name_fits = some ⟨oc_l_name_fits, od_l_name_fits, .func (PySem.W.fnOf "_law_name_fits" "_law_name_fits" (defArgs s_l_name_fits) (defBody s_l_name_fits) (defScope s_l_name_fits) .none kV_l_name_fits dc_l_name_fits pm_l_name_fits an_l_name_fits cd_l_name_fits ct_l_name_fits), sl_l_name_fits⟩)
    (c_l_name_fits : PySem.W.codeIn K cd_l_name_fits "_law_name_fits" = true)
    (k_l_name_fits : PySem.W.keepIn K (.ref f_l_name_fits) = true)
    (a_deep : PySem.W.nsIn K mainGlobals "deep" = some (some (.ref f_deep)))
    (l_deep : K.lookup f_deep = some ⟨oc_deep, od_deep, .func (PySem.W.fnOf "deep" "deep" (defArgs s_deep) (defBody s_deep) (defScope s_deep) .none kV_deep dc_deep pm_deep an_deep cd_deep ct_deep), sl_deep⟩)
    (c_deep : PySem.W.codeIn K cd_deep "deep" = true)
    (k_deep : PySem.W.keepIn K (.ref f_deep) = true)
    (a_common : PySem.W.nsIn K mainGlobals "common" = some (some (.ref f_common)))
    (l_common : K.lookup f_common = some ⟨oc_common, od_common, .func (PySem.W.fnOf "common" "common" (defArgs s_common) (defBody s_common) (defScope s_common) .none kV_common dc_common pm_common an_common cd_common ct_common), sl_common⟩)
    (c_common : PySem.W.codeIn K cd_common "common" = true)
    (k_common : PySem.W.keepIn K (.ref f_common) = true)
    (a_is_integer : PySem.W.nsIn K mainGlobals "is_integer" = some (some (.ref f_is_integer)))
    (l_is_integer : K.lookup f_is_integer = some ⟨oc_is_integer, od_is_integer, .func (PySem.W.fnOf "is_integer" "is_integer" (defArgs s_is_integer) (defBody s_is_integer) (defScope s_is_integer) .none kV_is_integer dc_is_integer pm_is_integer an_is_integer cd_is_integer ct_is_integer), sl_is_integer⟩)
    (c_is_integer : PySem.W.codeIn K cd_is_integer "is_integer" = true)
    (k_is_integer : PySem.W.keepIn K (.ref f_is_integer) = true)
    (a_rate_of : PySem.W.nsIn K mainGlobals "rate_of" = some (some (.ref f_rate_of)))
    (l_rate_of : K.lookup f_rate_of = some ⟨oc_rate_of, od_rate_of, .func (PySem.W.fnOf "rate_of" "rate_of" (defArgs s_rate_of) (defBody s_rate_of) (defScope s_rate_of) .none kV_rate_of dc_rate_of pm_rate_of an_rate_of cd_rate_of ct_rate_of), sl_rate_of⟩)
    (c_rate_of : PySem.W.codeIn K cd_rate_of "rate_of" = true)
    (k_rate_of : PySem.W.keepIn K (.ref f_rate_of) = true)
    (a_is_ratio : PySem.W.nsIn K mainGlobals "is_ratio" = some (some (.ref f_is_ratio)))
    (l_is_ratio : K.lookup f_is_ratio = some ⟨oc_is_ratio, od_is_ratio, .func (PySem.W.fnOf "is_ratio" "is_ratio" (defArgs s_is_ratio) (defBody s_is_ratio) (defScope s_is_ratio) .none kV_is_ratio dc_is_ratio pm_is_ratio an_is_ratio cd_is_ratio ct_is_ratio), sl_is_ratio⟩)
    (c_is_ratio : PySem.W.codeIn K cd_is_ratio "is_ratio" = true)
    (k_is_ratio : PySem.W.keepIn K (.ref f_is_ratio) = true)
    (a_l_ratio_fits : PySem.W.nsIn K mainGlobals "_law_ratio_fits" = some (some (.ref f_l_ratio_fits)))
    (l_l_ratio_fits : K.lookup f_l_ratio_fits = some ⟨oc_l_ratio_fits, od_l_ratio_fits, .func (PySem.W.fnOf "_law_ratio_fits" "_law_ratio_fits" (defArgs s_l_ratio_fits) (defBody s_l_ratio_fits) (defScope s_l_ratio_fits) .none kV_l_ratio_fits dc_l_ratio_fits pm_l_ratio_fits an_l_ratio_fits cd_l_ratio_fits ct_l_ratio_fits), sl_l_ratio_fits⟩)
    (c_l_ratio_fits : PySem.W.codeIn K cd_l_ratio_fits "_law_ratio_fits" = true)
    (k_l_ratio_fits : PySem.W.keepIn K (.ref f_l_ratio_fits) = true)
    (a_l_lists : PySem.W.nsIn K mainGlobals "_law_lists" = some (some (.ref f_l_lists)))
    (l_l_lists : K.lookup f_l_lists = some ⟨oc_l_lists, od_l_lists, .func (PySem.W.fnOf "_law_lists" "_law_lists" (defArgs s_l_lists) (defBody s_l_lists) (defScope s_l_lists) .none kV_l_lists dc_l_lists pm_l_lists an_l_lists cd_l_lists ct_l_lists), sl_l_lists⟩)
    (c_l_lists : PySem.W.codeIn K cd_l_lists "_law_lists" = true)
    (k_l_lists : PySem.W.keepIn K (.ref f_l_lists) = true)
    (a_l_names_right : PySem.W.nsIn K mainGlobals "_law_names_right" = some (some (.ref f_l_names_right)))
    (l_l_names_right : K.lookup f_l_names_right = some ⟨oc_l_names_right, od_l_names_right, .func (PySem.W.fnOf "_law_names_right" "_law_names_right" (defArgs s_l_names_right) (defBody s_l_names_right) (defScope s_l_names_right) .none kV_l_names_right dc_l_names_right pm_l_names_right an_l_names_right cd_l_names_right ct_l_names_right), sl_l_names_right⟩)
    (c_l_names_right : PySem.W.codeIn K cd_l_names_right "_law_names_right" = true)
    (k_l_names_right : PySem.W.keepIn K (.ref f_l_names_right) = true)
    (a_l_one_in : PySem.W.nsIn K mainGlobals "_law_one_in" = some (some (.ref f_l_one_in)))
    (l_l_one_in : K.lookup f_l_one_in = some ⟨oc_l_one_in, od_l_one_in, .func (PySem.W.fnOf "_law_one_in" "_law_one_in" (defArgs s_l_one_in) (defBody s_l_one_in) (defScope s_l_one_in) .none kV_l_one_in dc_l_one_in pm_l_one_in an_l_one_in cd_l_one_in ct_l_one_in), sl_l_one_in⟩)
    (c_l_one_in : PySem.W.codeIn K cd_l_one_in "_law_one_in" = true)
    (k_l_one_in : PySem.W.keepIn K (.ref f_l_one_in) = true)
    (a_ratio : PySem.W.nsIn K mainGlobals "ratio" = some (some (.ref f_ratio)))
    (l_ratio : K.lookup f_ratio = some ⟨oc_ratio, od_ratio, .func (PySem.W.fnOf "ratio" "ratio" (defArgs s_ratio) (defBody s_ratio) (defScope s_ratio) (.ref dT_ratio) kV_ratio dc_ratio pm_ratio an_ratio cd_ratio ct_ratio), sl_ratio⟩)
    (c_ratio : PySem.W.codeIn K cd_ratio "ratio" = true)
    (k_ratio : PySem.W.keepIn K (.ref f_ratio) = true)
    (t_ratio : K.lookup dT_ratio = some ⟨cT_ratio, dd_ratio, .seq [.int 1 tk_ratio].toArray nT_ratio, sT_ratio⟩)
    (a_l_made : PySem.W.nsIn K mainGlobals "_law_made" = some (some (.ref f_l_made)))
    (l_l_made : K.lookup f_l_made = some ⟨oc_l_made, od_l_made, .func (PySem.W.fnOf "_law_made" "_law_made" (defArgs s_l_made) (defBody s_l_made) (defScope s_l_made) .none kV_l_made dc_l_made pm_l_made an_l_made cd_l_made ct_l_made), sl_l_made⟩)
    (c_l_made : PySem.W.codeIn K cd_l_made "_law_made" = true)
    (k_l_made : PySem.W.keepIn K (.ref f_l_made) = true)
    (a_l_made_right : PySem.W.nsIn K mainGlobals "_law_made_right" = some (some (.ref f_l_made_right)))
    (l_l_made_right : K.lookup f_l_made_right = some ⟨oc_l_made_right, od_l_made_right, .func (PySem.W.fnOf "_law_made_right" "_law_made_right" (defArgs s_l_made_right) (defBody s_l_made_right) (defScope s_l_made_right) .none kV_l_made_right dc_l_made_right pm_l_made_right an_l_made_right cd_l_made_right ct_l_made_right), sl_l_made_right⟩)
    (c_l_made_right : PySem.W.codeIn K cd_l_made_right "_law_made_right" = true)
    (k_l_made_right : PySem.W.keepIn K (.ref f_l_made_right) = true)
    (a_plus : PySem.W.nsIn K mainGlobals "plus" = some (some (.ref f_plus)))
    (l_plus : K.lookup f_plus = some ⟨oc_plus, od_plus, .func (PySem.W.fnOf "plus" "plus" (defArgs s_plus) (defBody s_plus) (defScope s_plus) .none kV_plus dc_plus pm_plus an_plus cd_plus ct_plus), sl_plus⟩)
    (c_plus : PySem.W.codeIn K cd_plus "plus" = true)
    (k_plus : PySem.W.keepIn K (.ref f_plus) = true)
    (a_l_sum : PySem.W.nsIn K mainGlobals "_law_sum" = some (some (.ref f_l_sum)))
    (l_l_sum : K.lookup f_l_sum = some ⟨oc_l_sum, od_l_sum, .func (PySem.W.fnOf "_law_sum" "_law_sum" (defArgs s_l_sum) (defBody s_l_sum) (defScope s_l_sum) .none kV_l_sum dc_l_sum pm_l_sum an_l_sum cd_l_sum ct_l_sum), sl_l_sum⟩)
    (c_l_sum : PySem.W.codeIn K cd_l_sum "_law_sum" = true)
    (k_l_sum : PySem.W.keepIn K (.ref f_l_sum) = true)
    (a_l_plus : PySem.W.nsIn K mainGlobals "_law_plus" = some (some (.ref f_l_plus)))
    (l_l_plus : K.lookup f_l_plus = some ⟨oc_l_plus, od_l_plus, .func (PySem.W.fnOf "_law_plus" "_law_plus" (defArgs s_l_plus) (defBody s_l_plus) (defScope s_l_plus) .none kV_l_plus dc_l_plus pm_l_plus an_l_plus cd_l_plus ct_l_plus), sl_l_plus⟩)
    (c_l_plus : PySem.W.codeIn K cd_l_plus "_law_plus" = true)
    (k_l_plus : PySem.W.keepIn K (.ref f_l_plus) = true)
    (a_l_tuples : PySem.W.nsIn K mainGlobals "_law_tuples" = some (some (.ref f_l_tuples)))
    (l_l_tuples : K.lookup f_l_tuples = some ⟨oc_l_tuples, od_l_tuples, .func (PySem.W.fnOf "_law_tuples" "_law_tuples" (defArgs s_l_tuples) (defBody s_l_tuples) (defScope s_l_tuples) .none kV_l_tuples dc_l_tuples pm_l_tuples an_l_tuples cd_l_tuples ct_l_tuples), sl_l_tuples⟩)
    (c_l_tuples : PySem.W.codeIn K cd_l_tuples "_law_tuples" = true)
    (k_l_tuples : PySem.W.keepIn K (.ref f_l_tuples) = true)
    (a_l_shuffled : PySem.W.nsIn K mainGlobals "_law_shuffled" = some (some (.ref f_l_shuffled)))
    (l_l_shuffled : K.lookup f_l_shuffled = some ⟨oc_l_shuffled, od_l_shuffled, .func (PySem.W.fnOf "_law_shuffled" "_law_shuffled" (defArgs s_l_shuffled) (defBody s_l_shuffled) (defScope s_l_shuffled) .none kV_l_shuffled dc_l_shuffled pm_l_shuffled an_l_shuffled cd_l_shuffled ct_l_shuffled), sl_l_shuffled⟩)
    (c_l_shuffled : PySem.W.codeIn K cd_l_shuffled "_law_shuffled" = true)
    (k_l_shuffled : PySem.W.keepIn K (.ref f_l_shuffled) = true)
    (a_l_sums_right : PySem.W.nsIn K mainGlobals "_law_sums_right" = some (some (.ref f_l_sums_right)))
    (l_l_sums_right : K.lookup f_l_sums_right = some ⟨oc_l_sums_right, od_l_sums_right, .func (PySem.W.fnOf "_law_sums_right" "_law_sums_right" (defArgs s_l_sums_right) (defBody s_l_sums_right) (defScope s_l_sums_right) .none kV_l_sums_right dc_l_sums_right pm_l_sums_right an_l_sums_right cd_l_sums_right ct_l_sums_right), sl_l_sums_right⟩)
    (c_l_sums_right : PySem.W.codeIn K cd_l_sums_right "_law_sums_right" = true)
    (k_l_sums_right : PySem.W.keepIn K (.ref f_l_sums_right) = true)
    (a_write_ratio : PySem.W.nsIn K mainGlobals "write_ratio" = some (some (.ref f_write_ratio)))
    (l_write_ratio : K.lookup f_write_ratio = some ⟨oc_write_ratio, od_write_ratio, .func (PySem.W.fnOf "write_ratio" "write_ratio" (defArgs s_write_ratio) (defBody s_write_ratio) (defScope s_write_ratio) .none kV_write_ratio dc_write_ratio pm_write_ratio an_write_ratio cd_write_ratio ct_write_ratio), sl_write_ratio⟩)
    (c_write_ratio : PySem.W.codeIn K cd_write_ratio "write_ratio" = true)
    (k_write_ratio : PySem.W.keepIn K (.ref f_write_ratio) = true)
    (a_minus : PySem.W.nsIn K mainGlobals "minus" = some (some (.ref f_minus)))
    (l_minus : K.lookup f_minus = some ⟨oc_minus, od_minus, .func (PySem.W.fnOf "minus" "minus" (defArgs s_minus) (defBody s_minus) (defScope s_minus) .none kV_minus dc_minus pm_minus an_minus cd_minus ct_minus), sl_minus⟩)
    (c_minus : PySem.W.codeIn K cd_minus "minus" = true)
    (k_minus : PySem.W.keepIn K (.ref f_minus) = true)
    (a_times : PySem.W.nsIn K mainGlobals "times" = some (some (.ref f_times)))
    (l_times : K.lookup f_times = some ⟨oc_times, od_times, .func (PySem.W.fnOf "times" "times" (defArgs s_times) (defBody s_times) (defScope s_times) .none kV_times dc_times pm_times an_times cd_times ct_times), sl_times⟩)
    (c_times : PySem.W.codeIn K cd_times "times" = true)
    (k_times : PySem.W.keepIn K (.ref f_times) = true)
    (a_less : PySem.W.nsIn K mainGlobals "less" = some (some (.ref f_less)))
    (l_less : K.lookup f_less = some ⟨oc_less, od_less, .func (PySem.W.fnOf "less" "less" (defArgs s_less) (defBody s_less) (defScope s_less) .none kV_less dc_less pm_less an_less cd_less ct_less), sl_less⟩)
    (c_less : PySem.W.codeIn K cd_less "less" = true)
    (k_less : PySem.W.keepIn K (.ref f_less) = true)
    (a_l_text : PySem.W.nsIn K mainGlobals "_law_text" = some (some (.ref f_l_text)))
    (l_l_text : K.lookup f_l_text = some ⟨oc_l_text, od_l_text, .func (PySem.W.fnOf "_law_text" "_law_text" (defArgs s_l_text) (defBody s_l_text) (defScope s_l_text) .none kV_l_text dc_l_text pm_l_text an_l_text cd_l_text ct_l_text), sl_l_text⟩)
    (c_l_text : PySem.W.codeIn K cd_l_text "_law_text" = true)
    (k_l_text : PySem.W.keepIn K (.ref f_l_text) = true)
    (a_l_two_right : PySem.W.nsIn K mainGlobals "_law_two_right" = some (some (.ref f_l_two_right)))
    (l_l_two_right : K.lookup f_l_two_right = some ⟨oc_l_two_right, od_l_two_right, .func (PySem.W.fnOf "_law_two_right" "_law_two_right" (defArgs s_l_two_right) (defBody s_l_two_right) (defScope s_l_two_right) .none kV_l_two_right dc_l_two_right pm_l_two_right an_l_two_right cd_l_two_right ct_l_two_right), sl_l_two_right⟩)
    (c_l_two_right : PySem.W.codeIn K cd_l_two_right "_law_two_right" = true)
    (k_l_two_right : PySem.W.keepIn K (.ref f_l_two_right) = true)
    (a_l_algebra : PySem.W.nsIn K mainGlobals "_law_algebra" = some (some (.ref f_l_algebra)))
    (l_l_algebra : K.lookup f_l_algebra = some ⟨oc_l_algebra, od_l_algebra, .func (PySem.W.fnOf "_law_algebra" "_law_algebra" (defArgs s_l_algebra) (defBody s_l_algebra) (defScope s_l_algebra) .none kV_l_algebra dc_l_algebra pm_l_algebra an_l_algebra cd_l_algebra ct_l_algebra), sl_l_algebra⟩)
    (c_l_algebra : PySem.W.codeIn K cd_l_algebra "_law_algebra" = true)
    (k_l_algebra : PySem.W.keepIn K (.ref f_l_algebra) = true)
    (a_law : PySem.W.nsIn K mainGlobals "law" = some (some (.ref f_law)))
    (l_law : K.lookup f_law = some ⟨oc_law, od_law, .func (PySem.W.fnOf "law" "law" (defArgs s_law) (defBody s_law) (defScope s_law) .none kV_law dc_law pm_law an_law cd_law ct_law), sl_law⟩)
    (c_law : PySem.W.codeIn K cd_law "law" = true)
    (k_law : PySem.W.keepIn K (.ref f_law) = true)
    (a_l_bag_of : PySem.W.nsIn K mainGlobals "_law_bag_of" = some (some (.ref f_l_bag_of)))
    (l_l_bag_of : K.lookup f_l_bag_of = some ⟨oc_l_bag_of, od_l_bag_of, .func (PySem.W.fnOf "_law_bag_of" "_law_bag_of" (defArgs s_l_bag_of) (defBody s_l_bag_of) (defScope s_l_bag_of) .none kV_l_bag_of dc_l_bag_of pm_l_bag_of an_l_bag_of cd_l_bag_of ct_l_bag_of), sl_l_bag_of⟩)
    (c_l_bag_of : PySem.W.codeIn K cd_l_bag_of "_law_bag_of" = true)
    (k_l_bag_of : PySem.W.keepIn K (.ref f_l_bag_of) = true)
    (z_abs : PySem.W.nsIn K mainGlobals "abs" = some none)
    (z_all : PySem.W.nsIn K mainGlobals "all" = some none)
    (z_bool : PySem.W.nsIn K mainGlobals "bool" = some none)
    (z_int : PySem.W.nsIn K mainGlobals "int" = some none)
    (z_isinstance : PySem.W.nsIn K mainGlobals "isinstance" = some none)
    (z_len : PySem.W.nsIn K mainGlobals "len" = some none)
    (z_list : PySem.W.nsIn K mainGlobals "list" = some none)
    (z_range : PySem.W.nsIn K mainGlobals "range" = some none)
    (z_str : PySem.W.nsIn K mainGlobals "str" = some none)
    (z_tuple : PySem.W.nsIn K mainGlobals "tuple" = some none)
    (a_StrawError : PySem.W.nsIn K mainGlobals "StrawError" = some (some (.ref C_StrawError)))
    (a_BadRatio : PySem.W.nsIn K mainGlobals "BadRatio" = some (some (.ref C_BadRatio)))
    (a_BadFace : PySem.W.nsIn K mainGlobals "BadFace" = some (some (.ref C_BadFace)))
    (x_L : K.lookup C_BadRatio = some (excClassObj nm_BadRatio q_BadRatio C_BadRatio N_BadRatio bs_BadRatio bm_BadRatio true sn_BadRatio su_BadRatio ab_BadRatio co_BadRatio dd_BadRatio m0_BadRatio m1_BadRatio m2_BadRatio m3_BadRatio m5_BadRatio "ValueError.__new__"))
    (x_bm : PySem.HandSPX.refsVE bm_BadRatio = true)
    (x_sa : PySem.W.findIn K (.ref C_BadRatio) "__setattr__" = some (some (.builtin "object.__setattr__")))
    (x_top : PySem.W.findIn K (.ref C_BadRatio) "top" = some none)
    (x_bottom : PySem.W.findIn K (.ref C_BadRatio) "bottom" = some none)
    (x_iC : PySem.W.findIn K (.ref C_BadRatio) "__init__" = some (some (.ref i_BadRatio)))
    (x_tC : PySem.W.typeIn K (.ref i_BadRatio) = some (.type "function"))
    (x_kC : PySem.W.keepIn K (.ref C_BadRatio) = true)
    (x_eC : PySem.W.subIn K (.ref C_BadRatio) (.type "BaseException") = some true)
    (x_ty : PySem.W.typeIn K (.ref C_BadRatio) = some (.type "type"))
    (x_su : PySem.W.ks_superIn K C_BadRatio C_BadRatio "__init__" = some (some (.builtin "ValueError.__init__")))
    (x_sB : PySem.W.subIn K (.ref C_BadRatio) (.type "ValueError") = some true)
    (x_op : PySem.W.nsIn K cStatics "thirdparty.any" = some none)
    (x_fn : K.lookup i_BadRatio = some ⟨oc3, od3, .func (PySem.W.ksFn "__init__" "BadRatio.__init__" (L2.defArgs (clsSt (top 2) 0)) (L2.defBody (clsSt (top 2) 0)) (L2.defScope (clsSt (top 2) 0)) .none .none dc3 pm3 an3 (.ref cda_BadRatio) ct3 cc_BadRatio), sl3⟩)
    (x_cell : K.lookup cc_BadRatio = some ⟨cl1, cd1, .cell (some (.ref C_BadRatio)), cs1⟩)
    (x_code : K.lookup cda_BadRatio = some ⟨cl2, cd2, .fields vs2, cs2⟩)
    (x_vs : vs2[2]? = some (.str file2 tf2))
    (x_file : ((P.main.file : Str) == file2) = true)
    (x_tops : (P.main.scope.names.lookup ("super" : Str)).isSome = false)
    (z_super : PySem.W.nsIn K mainGlobals "super" = some none)
    (x_cd : PySem.W.codeIn K (.ref cda_BadRatio) "BadRatio.__init__" = true)
    (x_ga : PySem.W.findIn K (.ref C_BadRatio) "__getattribute__" = some (some (.builtin "BaseException.__getattribute__")))
    (x_gg : PySem.W.findIn K (.ref C_BadRatio) "__getattr__" = some none)
    (x_hd : PySem.W.hasDictIn K C_BadRatio = true)
    (x_ha : PySem.W.findIn K (.ref C_BadRatio) "__class__" = some (some (.builtin "object.__class__")))
    (x_hn : PySem.W.specialIn K (.builtin "object.__class__") "__get__" = some (some (.builtin "getset_descriptor.__get__")))
    (x_ht : PySem.W.takesIn K (.builtin "object.__class__") = some true)
    (x_hm : PySem.W.mroIn K C_BadRatio (.type "object") = some true)
    (x_xm : PySem.W.exmOne K (.ref C_BadRatio) (.ref C_BadRatio) = some true)
    (x_k1 : PySem.W.kitOne K (.ref C_BadRatio) (.ref C_StrawError) = some true)
    (x_k2 : PySem.W.kitOne K (.ref C_BadRatio) (.type "ValueError") = some true)
    (x_k3 : PySem.W.kitOne K (.ref C_BadRatio) (.ref C_BadFace) = some false)
    (z_ValueError : PySem.W.nsIn K mainGlobals "ValueError" = some none)
    (a_WORDS : PySem.W.nsIn K mainGlobals "WORDS" = some (some (.ref w_a)))
    (w_l : K.lookup w_a = some oW)
    (w_c : oW.cls = .type "tuple")
    (w_d : oW.data = .seq iW kW)
    (w_v : Vals (wordsL.map V.str) iW.toList)
    (a_LETTERS : PySem.W.nsIn K mainGlobals "LETTERS" = some (some (.str letters tk_LETTERS))) :
    ∃ fd : FuncData, (∀ (s : Shared) (v : Value), BindsTo s fd ⟨[v], []⟩ [("_law_script", v)]) ∧ ∀ base : Heap, K.In base → base.Ns mainGlobals mg → FnOk P w K mg base (L2.CX P w) 10 fa fd ["_law_script"] (spLaw K) := by
  have e : fa = f_law := by
    have q := hfa.symm.trans (PySem.W.mg_of X G a_law)
    cases q
    rfl
  rw [e]
  clear hfa e
  have hT : ∃ T : Tx P K mg, T.f_law = f_law := ⟨{
      f_l_pick := f_l_pick,
      u_l_pick := ⟨⟨_, fun_mk (st := s_l_pick) l_l_pick c_l_pick k_l_pick, (fun_mk (st := s_l_pick) l_l_pick c_l_pick k_l_pick).binds (ps := ["_law_bag", "_law_many"]) fun _ _ _ _ _ _ us hl => match us, hl with | [_, _], _ => rfl⟩, PySem.W.mg_of X G a_l_pick⟩,
      f_l_choice := f_l_choice,
      u_l_choice := ⟨⟨_, fun_mk (st := s_l_choice) l_l_choice c_l_choice k_l_choice, (fun_mk (st := s_l_choice) l_l_choice c_l_choice k_l_choice).binds (ps := ["_law_bag", "_law_things"]) fun _ _ _ _ _ _ us hl => match us, hl with | [_, _], _ => rfl⟩, PySem.W.mg_of X G a_l_choice⟩,
      f_l_number_of := f_l_number_of,
      u_l_number_of := ⟨⟨_, fun_mk (st := s_l_number_of) l_l_number_of c_l_number_of k_l_number_of, (fun_mk (st := s_l_number_of) l_l_number_of c_l_number_of k_l_number_of).binds (ps := ["_law_bag", "_law_size"]) fun _ _ _ _ _ _ us hl => match us, hl with | [_, _], _ => rfl⟩, PySem.W.mg_of X G a_l_number_of⟩,
      f_l_common := f_l_common,
      u_l_common := ⟨⟨_, fun_mk (st := s_l_common) l_l_common c_l_common k_l_common, (fun_mk (st := s_l_common) l_l_common c_l_common k_l_common).binds (ps := ["_law_first", "_law_second"]) fun _ _ _ _ _ _ us hl => match us, hl with | [_, _], _ => rfl⟩, PySem.W.mg_of X G a_l_common⟩,
      f_l_ratio := f_l_ratio,
      u_l_ratio := ⟨⟨_, fun_mk (st := s_l_ratio) l_l_ratio c_l_ratio k_l_ratio, (fun_mk (st := s_l_ratio) l_l_ratio c_l_ratio k_l_ratio).binds (ps := ["_law_top", "_law_under"]) fun _ _ _ _ _ _ us hl => match us, hl with | [_, _], _ => rfl⟩, PySem.W.mg_of X G a_l_ratio⟩,
      f_l_drawn := f_l_drawn,
      u_l_drawn := ⟨⟨_, fun_mk (st := s_l_drawn) l_l_drawn c_l_drawn k_l_drawn, (fun_mk (st := s_l_drawn) l_l_drawn c_l_drawn k_l_drawn).binds (ps := ["_law_bag", "_law_size"]) fun _ _ _ _ _ _ us hl => match us, hl with | [_, _], _ => rfl⟩, PySem.W.mg_of X G a_l_drawn⟩,
      f_l_reserved := f_l_reserved,
      u_l_reserved := ⟨⟨_, fun_mk (st := s_l_reserved) l_l_reserved c_l_reserved k_l_reserved, (fun_mk (st := s_l_reserved) l_l_reserved c_l_reserved k_l_reserved).binds (ps := []) fun _ _ _ _ _ _ us hl => match us, hl with | [], _ => rfl⟩, PySem.W.mg_of X G a_l_reserved⟩,
      f_l_spelled := f_l_spelled,
      u_l_spelled := ⟨⟨_, fun_mk (st := s_l_spelled) l_l_spelled c_l_spelled k_l_spelled, (fun_mk (st := s_l_spelled) l_l_spelled c_l_spelled k_l_spelled).binds (ps := ["_law_bag", "_law_many"]) fun _ _ _ _ _ _ us hl => match us, hl with | [_, _], _ => rfl⟩, PySem.W.mg_of X G a_l_spelled⟩,
      f_l_word_of := f_l_word_of,
      u_l_word_of := ⟨⟨_, fun_mk (st := s_l_word_of) l_l_word_of c_l_word_of k_l_word_of, (fun_mk (st := s_l_word_of) l_l_word_of c_l_word_of k_l_word_of).binds (ps := ["_law_bag"]) fun _ _ _ _ _ _ us hl => match us, hl with | [_], _ => rfl⟩, PySem.W.mg_of X G a_l_word_of⟩,
      f_l_odd_ratio := f_l_odd_ratio,
      u_l_odd_ratio := ⟨⟨_, fun_mk (st := s_l_odd_ratio) l_l_odd_ratio c_l_odd_ratio k_l_odd_ratio, (fun_mk (st := s_l_odd_ratio) l_l_odd_ratio c_l_odd_ratio k_l_odd_ratio).binds (ps := ["_law_bag"]) fun _ _ _ _ _ _ us hl => match us, hl with | [_], _ => rfl⟩, PySem.W.mg_of X G a_l_odd_ratio⟩,
      f_l_integer := f_l_integer,
      u_l_integer := ⟨⟨_, fun_mk (st := s_l_integer) l_l_integer c_l_integer k_l_integer, (fun_mk (st := s_l_integer) l_l_integer c_l_integer k_l_integer).binds (ps := ["_law_thing"]) fun _ _ _ _ _ _ us hl => match us, hl with | [_], _ => rfl⟩, PySem.W.mg_of X G a_l_integer⟩,
      f_l_plain := f_l_plain,
      u_l_plain := ⟨⟨_, fun_mk (st := s_l_plain) l_l_plain c_l_plain k_l_plain, (fun_mk (st := s_l_plain) l_l_plain c_l_plain k_l_plain).binds (ps := ["_law_thing"]) fun _ _ _ _ _ _ us hl => match us, hl with | [_], _ => rfl⟩, PySem.W.mg_of X G a_l_plain⟩,
      f_l_truth := f_l_truth,
      u_l_truth := ⟨⟨_, fun_mk (st := s_l_truth) l_l_truth c_l_truth k_l_truth, (fun_mk (st := s_l_truth) l_l_truth c_l_truth k_l_truth).binds (ps := ["_law_found", "_law_due"]) fun _ _ _ _ _ _ us hl => match us, hl with | [_, _], _ => rfl⟩, PySem.W.mg_of X G a_l_truth⟩,
      f_is_name := f_is_name,
      u_is_name := ⟨⟨_, fun_mk (st := s_is_name) l_is_name c_is_name k_is_name, (fun_mk (st := s_is_name) l_is_name c_is_name k_is_name).binds (ps := ["thing"]) fun _ _ _ _ _ _ us hl => match us, hl with | [_], _ => rfl⟩, PySem.W.mg_of X G a_is_name⟩,
      f_l_name_fits := f_l_name_fits,
      u_l_name_fits := ⟨⟨_, fun_mk (st := s_l_name_fits) l_l_name_fits c_l_name_fits k_l_name_fits, (fun_mk (st := s_l_name_fits) l_l_name_fits c_l_name_fits k_l_name_fits).binds (ps := ["_law_thing"]) fun _ _ _ _ _ _ us hl => match us, hl with | [_], _ => rfl⟩, PySem.W.mg_of X G a_l_name_fits⟩,
      f_deep := f_deep,
      u_deep := ⟨⟨_, fun_mk (st := s_deep) l_deep c_deep k_deep, (fun_mk (st := s_deep) l_deep c_deep k_deep).binds (ps := ["thing"]) fun _ _ _ _ _ _ us hl => match us, hl with | [_], _ => rfl⟩, PySem.W.mg_of X G a_deep⟩,
      f_common := f_common,
      u_common := ⟨⟨_, fun_mk (st := s_common) l_common c_common k_common, (fun_mk (st := s_common) l_common c_common k_common).binds (ps := ["first", "second"]) fun _ _ _ _ _ _ us hl => match us, hl with | [_, _], _ => rfl⟩, PySem.W.mg_of X G a_common⟩,
      f_is_integer := f_is_integer,
      u_is_integer := ⟨⟨_, fun_mk (st := s_is_integer) l_is_integer c_is_integer k_is_integer, (fun_mk (st := s_is_integer) l_is_integer c_is_integer k_is_integer).binds (ps := ["thing", "low", "high"]) fun _ _ _ _ _ _ us hl => match us, hl with | [_, _, _], _ => rfl⟩, PySem.W.mg_of X G a_is_integer⟩,
      f_rate_of := f_rate_of,
      u_rate_of := ⟨⟨_, fun_mk (st := s_rate_of) l_rate_of c_rate_of k_rate_of, (fun_mk (st := s_rate_of) l_rate_of c_rate_of k_rate_of).binds (ps := ["thing"]) fun _ _ _ _ _ _ us hl => match us, hl with | [_], _ => rfl⟩, PySem.W.mg_of X G a_rate_of⟩,
      f_is_ratio := f_is_ratio,
      u_is_ratio := ⟨⟨_, fun_mk (st := s_is_ratio) l_is_ratio c_is_ratio k_is_ratio, (fun_mk (st := s_is_ratio) l_is_ratio c_is_ratio k_is_ratio).binds (ps := ["thing"]) fun _ _ _ _ _ _ us hl => match us, hl with | [_], _ => rfl⟩, PySem.W.mg_of X G a_is_ratio⟩,
      f_l_ratio_fits := f_l_ratio_fits,
      u_l_ratio_fits := ⟨⟨_, fun_mk (st := s_l_ratio_fits) l_l_ratio_fits c_l_ratio_fits k_l_ratio_fits, (fun_mk (st := s_l_ratio_fits) l_l_ratio_fits c_l_ratio_fits k_l_ratio_fits).binds (ps := ["_law_thing"]) fun _ _ _ _ _ _ us hl => match us, hl with | [_], _ => rfl⟩, PySem.W.mg_of X G a_l_ratio_fits⟩,
      f_l_lists := f_l_lists,
      u_l_lists := ⟨⟨_, fun_mk (st := s_l_lists) l_l_lists c_l_lists k_l_lists, (fun_mk (st := s_l_lists) l_l_lists c_l_lists k_l_lists).binds (ps := ["_law_thing"]) fun _ _ _ _ _ _ us hl => match us, hl with | [_], _ => rfl⟩, PySem.W.mg_of X G a_l_lists⟩,
      f_l_names_right := f_l_names_right,
      u_l_names_right := ⟨⟨_, fun_mk (st := s_l_names_right) l_l_names_right c_l_names_right k_l_names_right, (fun_mk (st := s_l_names_right) l_l_names_right c_l_names_right k_l_names_right).binds (ps := ["_law_bag"]) fun _ _ _ _ _ _ us hl => match us, hl with | [_], _ => rfl⟩, PySem.W.mg_of X G a_l_names_right⟩,
      f_l_one_in := f_l_one_in,
      u_l_one_in := ⟨⟨_, fun_mk (st := s_l_one_in) l_l_one_in c_l_one_in k_l_one_in, (fun_mk (st := s_l_one_in) l_l_one_in c_l_one_in k_l_one_in).binds (ps := ["_law_bag", "_law_many"]) fun _ _ _ _ _ _ us hl => match us, hl with | [_, _], _ => rfl⟩, PySem.W.mg_of X G a_l_one_in⟩,
      f_ratio := f_ratio,
      u_ratio := ⟨⟨_, ⟨⟨_, _, _, _, _, _, _, _, _, _, rfl, l_ratio, c_ratio, .inr ⟨by decide, _, _, _, _, rfl, t_ratio, rfl, .cons ⟨_, rfl⟩ .nil⟩, .inl rfl⟩, k_ratio⟩⟩, PySem.W.mg_of X G a_ratio⟩,
      f_l_made := f_l_made,
      u_l_made := ⟨⟨_, fun_mk (st := s_l_made) l_l_made c_l_made k_l_made, (fun_mk (st := s_l_made) l_l_made c_l_made k_l_made).binds (ps := ["_law_top", "_law_low"]) fun _ _ _ _ _ _ us hl => match us, hl with | [_, _], _ => rfl⟩, PySem.W.mg_of X G a_l_made⟩,
      f_l_made_right := f_l_made_right,
      u_l_made_right := ⟨⟨_, fun_mk (st := s_l_made_right) l_l_made_right c_l_made_right k_l_made_right, (fun_mk (st := s_l_made_right) l_l_made_right c_l_made_right k_l_made_right).binds (ps := ["_law_bag", "_law_size"]) fun _ _ _ _ _ _ us hl => match us, hl with | [_, _], _ => rfl⟩, PySem.W.mg_of X G a_l_made_right⟩,
      f_plus := f_plus,
      u_plus := ⟨⟨_, fun_mk (st := s_plus) l_plus c_plus k_plus⟩, PySem.W.mg_of X G a_plus⟩,
      f_l_sum := f_l_sum,
      u_l_sum := ⟨⟨_, fun_mk (st := s_l_sum) l_l_sum c_l_sum k_l_sum, (fun_mk (st := s_l_sum) l_l_sum c_l_sum k_l_sum).binds (ps := ["_law_rows"]) fun _ _ _ _ _ _ us hl => match us, hl with | [_], _ => rfl⟩, PySem.W.mg_of X G a_l_sum⟩,
      f_l_plus := f_l_plus,
      u_l_plus := ⟨⟨_, fun_mk (st := s_l_plus) l_l_plus c_l_plus k_l_plus, (fun_mk (st := s_l_plus) l_l_plus c_l_plus k_l_plus).binds (ps := ["_law_first", "_law_second"]) fun _ _ _ _ _ _ us hl => match us, hl with | [_, _], _ => rfl⟩, PySem.W.mg_of X G a_l_plus⟩,
      f_l_tuples := f_l_tuples,
      u_l_tuples := ⟨⟨_, fun_mk (st := s_l_tuples) l_l_tuples c_l_tuples k_l_tuples, (fun_mk (st := s_l_tuples) l_l_tuples c_l_tuples k_l_tuples).binds (ps := ["_law_thing"]) fun _ _ _ _ _ _ us hl => match us, hl with | [_], _ => rfl⟩, PySem.W.mg_of X G a_l_tuples⟩,
      f_l_shuffled := f_l_shuffled,
      u_l_shuffled := ⟨⟨_, fun_mk (st := s_l_shuffled) l_l_shuffled c_l_shuffled k_l_shuffled, (fun_mk (st := s_l_shuffled) l_l_shuffled c_l_shuffled k_l_shuffled).binds (ps := ["_law_bag", "_law_things"]) fun _ _ _ _ _ _ us hl => match us, hl with | [_, _], _ => rfl⟩, PySem.W.mg_of X G a_l_shuffled⟩,
      f_l_sums_right := f_l_sums_right,
      u_l_sums_right := ⟨⟨_, fun_mk (st := s_l_sums_right) l_l_sums_right c_l_sums_right k_l_sums_right, (fun_mk (st := s_l_sums_right) l_l_sums_right c_l_sums_right k_l_sums_right).binds (ps := ["_law_bag", "_law_rows"]) fun _ _ _ _ _ _ us hl => match us, hl with | [_, _], _ => rfl⟩, PySem.W.mg_of X G a_l_sums_right⟩,
      f_write_ratio := f_write_ratio,
      u_write_ratio := ⟨⟨_, fun_mk (st := s_write_ratio) l_write_ratio c_write_ratio k_write_ratio, (fun_mk (st := s_write_ratio) l_write_ratio c_write_ratio k_write_ratio).binds (ps := ["ratio_told"]) fun _ _ _ _ _ _ us hl => match us, hl with | [_], _ => rfl⟩, PySem.W.mg_of X G a_write_ratio⟩,
      f_minus := f_minus,
      u_minus := ⟨⟨_, fun_mk (st := s_minus) l_minus c_minus k_minus, (fun_mk (st := s_minus) l_minus c_minus k_minus).binds (ps := ["first", "second"]) fun _ _ _ _ _ _ us hl => match us, hl with | [_, _], _ => rfl⟩, PySem.W.mg_of X G a_minus⟩,
      f_times := f_times,
      u_times := ⟨⟨_, fun_mk (st := s_times) l_times c_times k_times, (fun_mk (st := s_times) l_times c_times k_times).binds (ps := ["first", "second"]) fun _ _ _ _ _ _ us hl => match us, hl with | [_, _], _ => rfl⟩, PySem.W.mg_of X G a_times⟩,
      f_less := f_less,
      u_less := ⟨⟨_, fun_mk (st := s_less) l_less c_less k_less, (fun_mk (st := s_less) l_less c_less k_less).binds (ps := ["first", "second"]) fun _ _ _ _ _ _ us hl => match us, hl with | [_, _], _ => rfl⟩, PySem.W.mg_of X G a_less⟩,
      f_l_text := f_l_text,
      u_l_text := ⟨⟨_, fun_mk (st := s_l_text) l_l_text c_l_text k_l_text, (fun_mk (st := s_l_text) l_l_text c_l_text k_l_text).binds (ps := ["_law_told"]) fun _ _ _ _ _ _ us hl => match us, hl with | [_], _ => rfl⟩, PySem.W.mg_of X G a_l_text⟩,
      f_l_two_right := f_l_two_right,
      u_l_two_right := ⟨⟨_, fun_mk (st := s_l_two_right) l_l_two_right c_l_two_right k_l_two_right, (fun_mk (st := s_l_two_right) l_l_two_right c_l_two_right k_l_two_right).binds (ps := ["_law_one", "_law_two"]) fun _ _ _ _ _ _ us hl => match us, hl with | [_, _], _ => rfl⟩, PySem.W.mg_of X G a_l_two_right⟩,
      f_l_algebra := f_l_algebra,
      u_l_algebra := ⟨⟨_, fun_mk (st := s_l_algebra) l_l_algebra c_l_algebra k_l_algebra, (fun_mk (st := s_l_algebra) l_l_algebra c_l_algebra k_l_algebra).binds (ps := ["_law_one", "_law_two", "_law_third"]) fun _ _ _ _ _ _ us hl => match us, hl with | [_, _, _], _ => rfl⟩, PySem.W.mg_of X G a_l_algebra⟩,
      f_law := f_law,
      u_law := ⟨⟨_, fun_mk (st := s_law) l_law c_law k_law, (fun_mk (st := s_law) l_law c_law k_law).binds (ps := ["_law_script"]) fun _ _ _ _ _ _ us hl => match us, hl with | [_], _ => rfl⟩, PySem.W.mg_of X G a_law⟩,
      f_l_bag_of := f_l_bag_of,
      u_l_bag_of := ⟨⟨_, fun_mk (st := s_l_bag_of) l_l_bag_of c_l_bag_of k_l_bag_of, (fun_mk (st := s_l_bag_of) l_l_bag_of c_l_bag_of k_l_bag_of).binds (ps := ["_law_script"]) fun _ _ _ _ _ _ us hl => match us, hl with | [_], _ => rfl⟩, PySem.W.mg_of X G a_l_bag_of⟩,
      n_abs := PySem.W.mg_none_of X G z_abs,
      n_all := PySem.W.mg_none_of X G z_all,
      n_bool := PySem.W.mg_none_of X G z_bool,
      n_int := PySem.W.mg_none_of X G z_int,
      n_isinstance := PySem.W.mg_none_of X G z_isinstance,
      n_len := PySem.W.mg_none_of X G z_len,
      n_list := PySem.W.mg_none_of X G z_list,
      n_range := PySem.W.mg_none_of X G z_range,
      n_str := PySem.W.mg_none_of X G z_str,
      n_tuple := PySem.W.mg_none_of X G z_tuple,
      C_StrawError := C_StrawError,
      C_BadRatio := C_BadRatio,
      C_BadFace := C_BadFace,
      g_StrawError := PySem.W.mg_of X G a_StrawError,
      g_BadRatio := PySem.W.mg_of X G a_BadRatio,
      g_BadFace := PySem.W.mg_of X G a_BadFace,
      i_BadRatio := i_BadRatio,
      cc_BadRatio := cc_BadRatio,
      cda_BadRatio := cda_BadRatio,
      ex_BadRatio := {
        gC := PySem.W.mg_of X G a_BadRatio, cls := ⟨_, _, _, _, _, _, _, _, _, _, _, _, _, _, _, x_L, x_bm⟩, sa := x_sa, noN := (fun f hf => by
          rcases List.mem_cons.mp hf with rfl | hf
          · exact x_top
          · rcases List.mem_cons.mp hf with rfl | hf
            · exact x_bottom
            · cases hf),
        iC := x_iC, tC := x_tC, kC := x_kC, exC := x_eC, tyC := x_ty, su := x_su, sB := x_sB, op := x_op, cell := ⟨_, _, _, x_cell⟩, code := ⟨_, _, _, _, _, _, x_code, x_vs, x_file⟩, top := x_tops, sup := PySem.W.mg_none_of X G z_super,
        fn := ⟨_, _, _, _, _, _, _, x_fn⟩, cd := x_cd, bind := fun _ _ _ _ y us hl => match us, hl with | [_, _], _ => rfl,
        body := ⟨_, _, _, _, _, _, _, _, _, rfl, .cons (.cons .nil), fun env => ⟨_, rfl⟩, fun env => rfl⟩, hd := ⟨_, rfl, rfl⟩, sck := rfl, scc := rfl, scg := rfl, scn := by decide +kernel, scs := rfl, scf := by decide +kernel, scu := rfl, scx := rfl, nd := by decide, ndS := by decide, few := by decide, ndb := by decide },
      xf_BadRatio := ⟨x_ga, x_gg, x_eC, x_hd⟩,
      ec_BadRatio := ⟨x_ga, x_gg, x_eC, x_hd, x_ha, x_hn, x_ht, x_hm⟩,
      no_BadRatio_top := x_top,
      no_BadRatio_bottom := x_bottom,
      xm_BadRatio_BadRatio := x_xm,
      ke_BadRatio_StrawError := x_k1,
      ke_BadRatio_ValueError := x_k2,
      ke_BadRatio_BadFace := x_k3,
      a_WORDS := w_a,
      c_WORDS := PySem.W.mg_of X G a_WORDS,
      d_WORDS := fun H => .inr ⟨oW, iW, kW, w_l, w_c, w_d, (by have q := Vals.length w_v; have e : iW.size = 32 := (by rw [← Array.length_toList, ← q]; rfl); rw [e]; decide), w_v⟩,
      tk_LETTERS := tk_LETTERS,
      c_LETTERS := PySem.W.mg_of X G a_LETTERS,
      n_ValueError := PySem.W.mg_none_of X G z_ValueError }, rfl⟩
  obtain ⟨T, eT⟩ := hT
  have Fu := fun_mk (st := s_law) l_law c_law k_law
  rw [← eT] at Fu ⊢
  exact ⟨_, fun s v => .of_eq (by first | rfl | with_unfolding_all rfl), fun base _ _ => law_fin T Fu⟩
theorem walk {l : PySem.W.OpenLaw} {q : Program} {loose : List Str} {XP : (Str → Option Value) → Heap → Prop} {YP : World → Heap → Prop} {d : DefRec} {K : Params → PySem.W.Frag} (hn : l.most = some 63) (hdf : d.params.defaults = [])
    (hY : ∀ (w : World) (h : Heap), YP w h → (K w.params).In h)
    (F : ∀ (w : World) (mg : Str → Option Value) (fa : Addr) (h : Heap), (K w.params).In h → h.Ns mainGlobals mg → mg d.name = some (.ref fa) →
      ∃ fd : FuncData, (∀ (s : Shared) (u : Value), BindsTo s fd ⟨[u], []⟩ [("_law_script", u)]) ∧ ∀ base : Heap, (K w.params).In base → base.Ns mainGlobals mg → FnOk l.prog w (K w.params) mg base (L2.CX l.prog w) 10 fa fd ["_law_script"] (spLaw (K w.params))) :
    PySem.W.WalkO q loose XP YP l.row.toRowW d [] (fun f vs => PySem.call f vs) :=
  L2.walk_of (n := 63) (k := 10) (x := "_law_script") (CX := fun w => L2.CX l.prog w) (sp := fun w => spLaw (K w.params)) hn (by decide) hdf ⟨rfl, by decide, by decide⟩ hY F (fun _ _ a ns hl _ hS => ⟨a, ns, rfl, hl, hS, fun _ => rfl⟩) fun _ _ _ _ _ ⟨_, _, _, _, _, _, _, _, _, _, _, _, z⟩ => z
end K01
open PySem PySem.W PyProof.Rows in
set_option maxRecDepth 100000 in
set_option maxHeartbeats 0 in
theorem PySem.Challenge.cw_strawturn_k01_ratios_and_names_holds : PySem.Challenge.rw_strawturn_k01_ratios_and_names.Holds := by
  w_on; o_law; k_head; (case hw => w_witness2)
  k_fill
  refine K01.walk (l := PySem.Challenge.rw_strawturn_k01_ratios_and_names) rfl rfl (fun w h Y => PySem.W.kIn_of Y) ?F
  case F =>
    intro w mg fa h KX G hmg
    refine' K01.all_mk KX G hmg ?a_l_pick ?l_l_pick ?c_l_pick ?k_l_pick ?a_l_choice ?l_l_choice ?c_l_choice ?k_l_choice ?a_l_number_of ?l_l_number_of ?c_l_number_of ?k_l_number_of ?a_l_common ?l_l_common ?c_l_common ?k_l_common ?a_l_ratio ?l_l_ratio ?c_l_ratio ?k_l_ratio ?a_l_drawn ?l_l_drawn ?c_l_drawn ?k_l_drawn ?a_l_reserved ?l_l_reserved ?c_l_reserved ?k_l_reserved ?a_l_spelled ?l_l_spelled ?c_l_spelled ?k_l_spelled ?a_l_word_of ?l_l_word_of ?c_l_word_of ?k_l_word_of ?a_l_odd_ratio ?l_l_odd_ratio ?c_l_odd_ratio ?k_l_odd_ratio ?a_l_integer ?l_l_integer ?c_l_integer ?k_l_integer ?a_l_plain ?l_l_plain ?c_l_plain ?k_l_plain ?a_l_truth ?l_l_truth ?c_l_truth ?k_l_truth ?a_is_name ?l_is_name ?c_is_name ?k_is_name ?a_l_name_fits ?l_l_name_fits ?c_l_name_fits ?k_l_name_fits ?a_deep ?l_deep ?c_deep ?k_deep ?a_common ?l_common ?c_common ?k_common ?a_is_integer ?l_is_integer ?c_is_integer ?k_is_integer ?a_rate_of ?l_rate_of ?c_rate_of ?k_rate_of ?a_is_ratio ?l_is_ratio ?c_is_ratio ?k_is_ratio ?a_l_ratio_fits ?l_l_ratio_fits ?c_l_ratio_fits ?k_l_ratio_fits ?a_l_lists ?l_l_lists ?c_l_lists ?k_l_lists ?a_l_names_right ?l_l_names_right ?c_l_names_right ?k_l_names_right ?a_l_one_in ?l_l_one_in ?c_l_one_in ?k_l_one_in ?a_ratio ?l_ratio ?c_ratio ?k_ratio ?t_ratio ?a_l_made ?l_l_made ?c_l_made ?k_l_made ?a_l_made_right ?l_l_made_right ?c_l_made_right ?k_l_made_right ?a_plus ?l_plus ?c_plus ?k_plus ?a_l_sum ?l_l_sum ?c_l_sum ?k_l_sum ?a_l_plus ?l_l_plus ?c_l_plus ?k_l_plus ?a_l_tuples ?l_l_tuples ?c_l_tuples ?k_l_tuples ?a_l_shuffled ?l_l_shuffled ?c_l_shuffled ?k_l_shuffled ?a_l_sums_right ?l_l_sums_right ?c_l_sums_right ?k_l_sums_right ?a_write_ratio ?l_write_ratio ?c_write_ratio ?k_write_ratio ?a_minus ?l_minus ?c_minus ?k_minus ?a_times ?l_times ?c_times ?k_times ?a_less ?l_less ?c_less ?k_less ?a_l_text ?l_l_text ?c_l_text ?k_l_text ?a_l_two_right ?l_l_two_right ?c_l_two_right ?k_l_two_right ?a_l_algebra ?l_l_algebra ?c_l_algebra ?k_l_algebra ?a_law ?l_law ?c_law ?k_law ?a_l_bag_of ?l_l_bag_of ?c_l_bag_of ?k_l_bag_of ?z_abs ?z_all ?z_bool ?z_int ?z_isinstance ?z_len ?z_list ?z_range ?z_str ?z_tuple ?a_StrawError ?a_BadRatio ?a_BadFace ?x_L ?x_bm ?x_sa ?x_top ?x_bottom ?x_iC ?x_tC ?x_kC ?x_eC ?x_ty ?x_su ?x_sB ?x_op ?x_fn ?x_cell ?x_code ?x_vs ?x_file ?x_tops ?z_super ?x_cd ?x_ga ?x_gg ?x_hd ?x_ha ?x_hn ?x_ht ?x_hm ?x_xm ?x_k1 ?x_k2 ?x_k3 ?z_ValueError ?a_WORDS ?w_l ?w_c ?w_d ?w_v ?a_LETTERS
    (case a_l_pick => k_is)
    (case l_l_pick => k_is)
    (case c_l_pick => k_is)
    (case k_l_pick => k_is)
    (case a_l_choice => k_is)
    (case l_l_choice => k_is)
    (case c_l_choice => k_is)
    (case k_l_choice => k_is)
    (case a_l_number_of => k_is)
    (case l_l_number_of => k_is)
    (case c_l_number_of => k_is)
    (case k_l_number_of => k_is)
    (case a_l_common => k_is)
    (case l_l_common => k_is)
    (case c_l_common => k_is)
    (case k_l_common => k_is)
    (case a_l_ratio => k_is)
    (case l_l_ratio => k_is)
    (case c_l_ratio => k_is)
    (case k_l_ratio => k_is)
    (case a_l_drawn => k_is)
    (case l_l_drawn => k_is)
    (case c_l_drawn => k_is)
    (case k_l_drawn => k_is)
    (case a_l_reserved => k_is)
    (case l_l_reserved => k_is)
    (case c_l_reserved => k_is)
    (case k_l_reserved => k_is)
    (case a_l_spelled => k_is)
    (case l_l_spelled => k_is)
    (case c_l_spelled => k_is)
    (case k_l_spelled => k_is)
    (case a_l_word_of => k_is)
    (case l_l_word_of => k_is)
    (case c_l_word_of => k_is)
    (case k_l_word_of => k_is)
    (case a_l_odd_ratio => k_is)
    (case l_l_odd_ratio => k_is)
    (case c_l_odd_ratio => k_is)
    (case k_l_odd_ratio => k_is)
    (case a_l_integer => k_is)
    (case l_l_integer => k_is)
    (case c_l_integer => k_is)
    (case k_l_integer => k_is)
    (case a_l_plain => k_is)
    (case l_l_plain => k_is)
    (case c_l_plain => k_is)
    (case k_l_plain => k_is)
    (case a_l_truth => k_is)
    (case l_l_truth => k_is)
    (case c_l_truth => k_is)
    (case k_l_truth => k_is)
    (case a_is_name => k_is)
    (case l_is_name => k_is)
    (case c_is_name => k_is)
    (case k_is_name => k_is)
    (case a_l_name_fits => k_is)
    (case l_l_name_fits => k_is)
    (case c_l_name_fits => k_is)
    (case k_l_name_fits => k_is)
    (case a_deep => k_is)
    (case l_deep => k_is)
    (case c_deep => k_is)
    (case k_deep => k_is)
    (case a_common => k_is)
    (case l_common => k_is)
    (case c_common => k_is)
    (case k_common => k_is)
    (case a_is_integer => k_is)
    (case l_is_integer => k_is)
    (case c_is_integer => k_is)
    (case k_is_integer => k_is)
    (case a_rate_of => k_is)
    (case l_rate_of => k_is)
    (case c_rate_of => k_is)
    (case k_rate_of => k_is)
    (case a_is_ratio => k_is)
    (case l_is_ratio => k_is)
    (case c_is_ratio => k_is)
    (case k_is_ratio => k_is)
    (case a_l_ratio_fits => k_is)
    (case l_l_ratio_fits => k_is)
    (case c_l_ratio_fits => k_is)
    (case k_l_ratio_fits => k_is)
    (case a_l_lists => k_is)
    (case l_l_lists => k_is)
    (case c_l_lists => k_is)
    (case k_l_lists => k_is)
    (case a_l_names_right => k_is)
    (case l_l_names_right => k_is)
    (case c_l_names_right => k_is)
    (case k_l_names_right => k_is)
    (case a_l_one_in => k_is)
    (case l_l_one_in => k_is)
    (case c_l_one_in => k_is)
    (case k_l_one_in => k_is)
    (case a_ratio => k_is)
    (case l_ratio => k_is)
    (case c_ratio => k_is)
    (case k_ratio => k_is)
    (case t_ratio => k_is)
    (case a_l_made => k_is)
    (case l_l_made => k_is)
    (case c_l_made => k_is)
    (case k_l_made => k_is)
    (case a_l_made_right => k_is)
    (case l_l_made_right => k_is)
    (case c_l_made_right => k_is)
    (case k_l_made_right => k_is)
    (case a_plus => k_is)
    (case l_plus => k_is)
    (case c_plus => k_is)
    (case k_plus => k_is)
    (case a_l_sum => k_is)
    (case l_l_sum => k_is)
    (case c_l_sum => k_is)
    (case k_l_sum => k_is)
    (case a_l_plus => k_is)
    (case l_l_plus => k_is)
    (case c_l_plus => k_is)
    (case k_l_plus => k_is)
    (case a_l_tuples => k_is)
    (case l_l_tuples => k_is)
    (case c_l_tuples => k_is)
    (case k_l_tuples => k_is)
    (case a_l_shuffled => k_is)
    (case l_l_shuffled => k_is)
    (case c_l_shuffled => k_is)
    (case k_l_shuffled => k_is)
    (case a_l_sums_right => k_is)
    (case l_l_sums_right => k_is)
    (case c_l_sums_right => k_is)
    (case k_l_sums_right => k_is)
    (case a_write_ratio => k_is)
    (case l_write_ratio => k_is)
    (case c_write_ratio => k_is)
    (case k_write_ratio => k_is)
    (case a_minus => k_is)
    (case l_minus => k_is)
    (case c_minus => k_is)
    (case k_minus => k_is)
    (case a_times => k_is)
    (case l_times => k_is)
    (case c_times => k_is)
    (case k_times => k_is)
    (case a_less => k_is)
    (case l_less => k_is)
    (case c_less => k_is)
    (case k_less => k_is)
    (case a_l_text => k_is)
    (case l_l_text => k_is)
    (case c_l_text => k_is)
    (case k_l_text => k_is)
    (case a_l_two_right => k_is)
    (case l_l_two_right => k_is)
    (case c_l_two_right => k_is)
    (case k_l_two_right => k_is)
    (case a_l_algebra => k_is)
    (case l_l_algebra => k_is)
    (case c_l_algebra => k_is)
    (case k_l_algebra => k_is)
    (case a_law => k_is)
    (case l_law => k_is)
    (case c_law => k_is)
    (case k_law => k_is)
    (case a_l_bag_of => k_is)
    (case l_l_bag_of => k_is)
    (case c_l_bag_of => k_is)
    (case k_l_bag_of => k_is)
    (case z_abs => k_is)
    (case z_all => k_is)
    (case z_bool => k_is)
    (case z_int => k_is)
    (case z_isinstance => k_is)
    (case z_len => k_is)
    (case z_list => k_is)
    (case z_range => k_is)
    (case z_str => k_is)
    (case z_tuple => k_is)
    (case a_StrawError => k_is)
    (case a_BadRatio => k_is)
    (case a_BadFace => k_is)
    (case x_L => k_is)
    (case x_bm => first | rfl | decide +kernel)
    (case x_sa => k_is)
    (case x_top => k_is)
    (case x_bottom => k_is)
    (case x_iC => k_is)
    (case x_tC => k_is)
    (case x_kC => k_is)
    (case x_eC => k_is)
    (case x_ty => k_is)
    (case x_su => first | k_is | rfl | kernel_rfl)
    (case x_sB => k_is)
    (case x_op => k_is)
    (case x_fn => k_is)
    (case x_cell => k_is)
    (case x_code => k_is)
    (case x_vs => rfl)
    (case x_file => first | rfl | kernel_rfl | decide +kernel)
    (case x_tops => first | rfl | kernel_rfl | decide +kernel)
    (case z_super => k_is)
    (case x_cd => k_is)
    (case x_ga => k_is)
    (case x_gg => k_is)
    (case x_hd => k_is)
    (case x_ha => k_is)
    (case x_hn => k_is)
    (case x_ht => k_is)
    (case x_hm => k_is)
    (case x_xm => first | k_is | rfl | kernel_rfl)
    (case x_k1 => first | k_is | rfl | kernel_rfl)
    (case x_k2 => first | k_is | rfl | kernel_rfl)
    (case x_k3 => first | k_is | rfl | kernel_rfl)
    (case z_ValueError => k_is)
    (case a_WORDS => k_is)
    (case w_l => k_is)
    (case w_c => rfl)
    (case w_d => rfl)
    (case w_v => repeat (first | exact Paired.nil | refine Paired.cons ⟨_, rfl⟩ ?_))
    (case a_LETTERS => k_is)
