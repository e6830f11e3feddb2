import PyProof.Rows.All
import Wide.All
import OpenK.AllK
import Wide.FinOn
import PyProof.EqAt
import PyProof.EqKinds
import PyProof.TupleCall
import HandS.ExcCtx
import KE.KExcSuper
import KE.KExcIs
import HandS.IsInst
import HandS.ForMost
import HandS.ForExc
import HandS.Evl
import HandS.Wide
import HandS.WideBits
import HandS.Property
import HandS.Walk
import KE.GoesEnum
import KE.GoesMore
import HandS.SetFor
import HandS.HotCalls
import HandS.ExcInitHot
import KE.KEqDict
import PySem.Challenge.RW_primedeep_k77_choices_by_carries
set_option Elab.async false
set_option linter.all false
set_option maxRecDepth 100000
set_option maxHeartbeats 0
namespace PySem
namespace KX
open PySem.W PySem.Calls PyProof.Rows PySem.HandSPX
def supE (msg : Str) (k : Nat) (p0 p1 p2 p3 p4 : Pos) : Expr := .Call (.Attribute (.Call (.Name "super" p0) [] [] p1) "__init__" p2) [.Constant (.str msg) k p3] [] p4
def SupEv (env : Env) (msg : Str) (k : Nat) (p0 p1 p2 p3 p4 : Pos) : Prop := ∃ pl : Sem Bool, eval (supE msg k p0 p1 p2 p3 p4) env = (do
      let ov ← attributeBase (.Call (.Name "super" p0) [] [] p1) "__init__" env (eval (.Call (.Name "super" p0) [] [] p1) env)
      standAt p2.atName
      let (f, first) ← holding [ov] (getMethod ov "__init__" pl)
      callWith p4 f first (backTo p4 (starEach [.Constant (.str msg) k p3] env)) [])
def supS (msg : Str) (k : Nat) (p0 p1 p2 p3 p4 p5 : Pos) : Stmt :=
  .Expr (.Call (.Attribute (.Call (.Name "super" p0) [] [] p1) "__init__" p2) [.Constant (.str msg) k p3] [] p4) p5
def fldS (f : Str) (p0 p1 p2 p3 : Pos) : Stmt := .Assign [.Attribute (.Name "self" p0) f p1] (.Name f p2) p3
def args0 (p1 : Pos) : Arguments := { posonlyargs := [], args := [{ arg := "self", annotation := none, pos := p1 }], vararg := none, kwonlyargs := [], kw_defaults := [], kwarg := none, defaults := [] }
def args1 (f : Str) (p1 p2 : Pos) : Arguments := { posonlyargs := [], args := [{ arg := "self", annotation := none, pos := p1 }, { arg := f, annotation := none, pos := p2 }], vararg := none, kwonlyargs := [], kw_defaults := [], kwarg := none, defaults := [] }
def scope0 : Scope := { kind := .function, names := [(PySem.Str.ofString "self", .local), (PySem.Str.ofString "__class__", .free), (PySem.Str.ofString "super", .globalImplicit)], isGenerator := false, isCoroutine := false, more := [] }
def scope1 (f : Str) : Scope := { kind := .function, names := [(PySem.Str.ofString "self", .local), (f, .local), (PySem.Str.ofString "__class__", .free), (PySem.Str.ofString "super", .globalImplicit)], isGenerator := false, isCoroutine := false, more := [] }
structure ErrC (prog : Program) (K : Frag) (mg : Str → Option Value) (nm : Str) (C fI cc cda : Addr) : Prop where
  gC : mg nm = some (.ref C)
  cls : ∃ nm q N bs bm sn sub ab col dd k0 k1 k2 k3 k5, K.lookup C = some (excClassObj nm q C N bs bm true sn sub ab col dd k0 k1 k2 k3 k5 "ValueError.__new__") ∧ refsVE bm = true
  sa : findIn K (.ref C) "__setattr__" = some (some (.builtin "object.__setattr__"))
  ga : findIn K (.ref C) "__getattribute__" = some (some (.builtin "BaseException.__getattribute__"))
  gg : findIn K (.ref C) "__getattr__" = some none
  iC : findIn K (.ref C) "__init__" = some (some (.ref fI))
  tC : typeIn K (.ref fI) = some (.type "function")
  kC : keepIn K (.ref C) = true
  exC : subIn K (.ref C) (.type "BaseException") = some true
  exV : subIn K (.ref C) (.type "ValueError") = some true
  tyC : typeIn K (.ref C) = some (.type "type")
  hdC : hasDictIn K C = true
  mC : mroIn K C (.ref C) = some true
  sup : ks_superIn K C C "__init__" = some (some (.builtin "ValueError.__init__"))
  tp : nsIn K cStatics "thirdparty.any" = some none
  sg : mg "super" = none
  cell : ∃ cl cld csl, K.lookup cc = some ⟨cl, cld, .cell (some (.ref C)), csl⟩
  code : ∃ ccl cdd vs ccs file tf, K.lookup cda = some ⟨ccl, cdd, .fields vs, ccs⟩ ∧ vs[2]? = some (.str file tf) ∧ ((prog.main.file : Str) == file) = true
  top : (prog.main.scope.names.lookup ("super" : Str)).isSome = false
structure Err1 (prog : Program) (K : Frag) (mg : Str → Option Value) (nm f : Str) (C fI cc cda : Addr) : Prop extends ErrC prog K mg nm C fI cc cda where
  noN : findIn K (.ref C) f = some none
  nf : f ≠ "self" ∧ f ≠ "__debug__" ∧ f ≠ "__classdict__" ∧ f ≠ "super" ∧ f ≠ "__class__"
  fn : ∃ (oc : Value) (od : Option Addr) (doc pm : Value) (an : Option Addr) (ct : Value) (osl : Array (Option Value)) (qual msg : Str) (k : Nat) (p1 p2 q0 q1 q2 q3 q4 q5 r0 r1 r2 r3 : Pos),
    K.lookup fI = some ⟨oc, od, .func (ksFn "__init__" qual (args1 f p1 p2) [supS msg k q0 q1 q2 q3 q4 q5, fldS f r0 r1 r2 r3] (scope1 f) .none .none doc pm an (.ref cda) ct cc), osl⟩ ∧ codeIn K (.ref cda) qual = true ∧ ∀ (q : Str) (L : Addr), SupEv (ksEnv q (scope1 f) L fI (.ref cda) cc) msg k q0 q1 q2 q3 q4
structure Err0 (prog : Program) (K : Frag) (mg : Str → Option Value) (nm : Str) (C fI cc cda : Addr) : Prop extends ErrC prog K mg nm C fI cc cda where
  fn : ∃ (oc : Value) (od : Option Addr) (doc pm : Value) (an : Option Addr) (ct : Value) (osl : Array (Option Value)) (qual msg : Str) (k : Nat) (p1 q0 q1 q2 q3 q4 q5 : Pos),
    K.lookup fI = some ⟨oc, od, .func (ksFn "__init__" qual (args0 p1) [supS msg k q0 q1 q2 q3 q4 q5] scope0 .none .none doc pm an (.ref cda) ct cc), osl⟩ ∧ codeIn K (.ref cda) qual = true ∧ ∀ (q : Str) (L : Addr), SupEv (ksEnv q scope0 L fI (.ref cda) cc) msg k q0 q1 q2 q3 q4
theorem mod_keeps {K : Frag} {mg : Str → Option Value} {h h' : Heap} (M : L2.Mod K mg h) (k : ∀ b o, h.get? b = some o → h'.get? b = some o) : L2.Mod K mg h' :=
  ⟨M.kin.keeps k, M.glob.keeps k, by
    obtain ⟨mb, h1, h2⟩ := M.blt
    exact ⟨mb, h1.keeps k, h2⟩, M.nolimit.keeps k⟩
theorem one_size (v : Value) : [v].length ≤ sizeLine := by
  rw [sizeLine_eq]
  exact (by decide : 1 ≤ 16777216)
theorem nil_size : ([] : List Value).length ≤ sizeLine := Nat.zero_le _
section
variable {prog : Program} {w : World} {A : Around} {E : Value → Shared → Prop} {R : Result → Shared → Prop} {s : Shared} {K : Frag} {mg : Str → Option Value} {nm f : Str} {C fI cc cda : Addr}
theorem call_mw (T : ErrC prog K mg nm C fI cc cda) {u e t0 : Addr} {rest : List Value} {Q : Value → Shared → Prop} (X : K.In s.heap) (he : s.heap.get? e = some (excO C t0)) (hu : s.heap.get? u = some (kxs_mw "ValueError.__init__" e)) (hrest : rest.length ≤ sizeLine)
    (hq : ∀ h' t1, (∀ b o, b ≠ e → s.heap.get? b = some o → h'.get? b = some o) → h'.get? e = some (excO C t1) → Q .none { s with heap := h' }) : wpAny (model prog w) A (call (.ref u) rest) Q E s := by
  obtain ⟨nm, q, N, bs, bm, sn, sub, ab, col, dd, k0, k1, k2, k3, k5, hC, hbm⟩ := T.cls
  have hC' := X _ _ hC
  obtain ⟨hp, g, d, t, os⟩ := s
  refine wpAny_call (codeAny_of_tree ?_)
  show wpAny _ A.in1 (callAny (.ref u) ⟨rest, []⟩) _ _ _
  simp only [callAny]
  refine wpAny_bind (wpAny_load hu ?_)
  simp only [kxs_mw, show (Value.type "method-wrapper" == Value.type "method" || Value.type "method-wrapper" == Value.type "builtin_function_or_method" || Value.type "method-wrapper" == Value.type "method-wrapper") = true by decide, if_true]
  refine KFB.if_so (by decide) ?_
  refine wpAny_bind (check_bound_init F.excBase_ValueError.toExcCallFacts hC' he rfl ?_)
  refine wpAny_bind (wpAny_pure (wpAny_pure ?_))
  refine ⟨plainId_quiet F.excBase_ValueError.init.plain _, codeAny_builtin F.excBase_ValueError.initEntry ?_⟩
  exact exc_init_tree (cls := .ref C) (t0 := t0) (dv := none) (c2 := .none) (c3 := .none) (b4 := .bool false) he hrest fun h' k e' _ => hq h' _ k e'
theorem sup_step (T : ErrC prog K mg nm C fI cc cda) {body : List Stmt} {q : Str} {scope : Scope} {L x t0 : Addr} {m : Str → Option Value} {of : Obj} {fd : FuncData} {msg : Str} {k : Nat} {p0 p1 p2 p3 p4 p5 : Pos} {Q : Flow → Shared → Prop}
    (M : L2.Mod K mg s.heap) (hm : s.heap.Ns L m) (hself : m "self" = some (.ref x)) (hx : s.heap.get? x = some (excO C t0)) (hlx : K.lookup x = none)
    (hf : s.heap.get? fI = some of) (hfd : of.data = .func fd) (hp : ∃ a, (fd.params.posonlyargs ++ fd.params.args).head? = some a ∧ a.arg = "self")
    (hks : scope.names.lookup ("super" : Str) = some .globalImplicit) (hkc : scope.names.lookup ("__class__" : Str) = some .free) (hka : scope.names.lookup ("self" : Str) = some .local) (hk : scope.kind = .function)
    (hi : interactive (ksEnv q scope L fI (.ref cda) cc) = false) (hs : swapsWith (supE msg k p0 p1 p2 p3 p4) none p5.line (ksEnv q scope L fI (.ref cda) cc) = pure false) (hev : SupEv (ksEnv q scope L fI (.ref cda) cc) msg k p0 p1 p2 p3 p4)
    (hq : ∀ h' tk t1, (∀ b o, b ≠ x → s.heap.get? b = some o → h'.get? b = some o) → h'.get? x = some (excO C t1) → Q .next { s with heap := h', toks := tk }) :
    _root_.PySem.wpAt (model prog w) A (.func body (ksEnv q scope L fI (.ref cda) cc)) (exec (supS msg k p0 p1 p2 p3 p4 p5) (ksEnv q scope L fI (.ref cda) cc)) Q E s := by
  obtain ⟨nm', q', N, bs, bm, sn, sub, ab, col, dd, k0, k1, k2, k3, k5, hC, hbm⟩ := T.cls
  have hcl : clsIn K C = some { name := nm', bases := bs, mro := .ref C :: bm, ns := N, qualname := q', hasDict := true, slotNames := sn, subclasses := sub, abstract := ab, collection := col, hasDel := false } := by unfold clsIn; rw [hC] <;> rfl
  obtain ⟨cl, cld, csl, hcell⟩ := T.cell
  obtain ⟨ccl, cdd, vs, ccs, file, tf, hcode, hvs, hfile⟩ := T.code
  obtain ⟨ar, hp1, hp2⟩ := hp
  have X := M.kin
  have hxC : x ≠ C := fun z => by rw [z, hC] at hlx; cases hlx
  have hsup := T.sup
  unfold ks_superIn at hsup
  rw [hcl] at hsup
  obtain ⟨hh, g, d, t, os⟩ := s
  obtain ⟨pl, hev⟩ := hev
  refine ks_wpAt_Expr_any ?_ hi hs
  refine ks_wpAt_MethodCall ?_ hev
  refine ks_wpAt_super_base (env := ksEnv q scope L fI (.ref cda) cc) hks hkc (by decide) rfl hf hfd hp1 rfl (X _ _ hcode) rfl hvs hfile T.top ?_
  obtain ⟨mb, hb1, hb2⟩ := M.blt
  refine ks_loadName_global hk hks (loadGlobal_builtin (env := ksEnv q scope L fI (.ref cda) cc) M.glob T.sg hb1 ((hb2 _ (by decide +kernel)).trans (show bootBuiltins "super" = some (.type "super") by first | boot_by_name | rfl | kernel_rfl)) ⟨rfl, ?_⟩)
  refine wpAny_loadName_free hk hkc rfl ⟨_, X _ _ hcell, rfl⟩ ?_
  rw [hp2]
  refine wpAny_loadName_local hk hka hm hself ?_
  refine ks_wpAny_isType_cls (X _ _ hC) rfl ⟨rfl, ?_⟩
  refine ks_wpAny_call_super (X _ _ hC) rfl hx rfl (fun c e => by cases e) (looks_mroIn X T.mC) (fun h1 e1 k1' => ?_)
  have X1 : K.In h1 := X.keeps k1'
  have hx1 := k1' _ _ hx
  have I1 : InstAt h1 x (excO C t0) C none := ⟨hx1, rfl, rfl, trivial⟩
  have hI : Looks (model prog w) h1 (isInstance (.ref x) (.type "ValueError")) true := I1.type.andThen (looks_subIn X1 T.exV)
  refine kxs_getMethod kxs_ValueError e1 (looks_opaque X1 T.tp) (l₀ := .ref C :: bm) ?_ rfl X1 hsup hI hxC (by decide) ?_
  · exact fun A Q E s k q => wpAny_bind ((looks_clsIn X1 hcl) A _ E s k (wpAny_pure q))
  have hx2 : (h1.push (kxs_mw "ValueError.__init__" x)).get? x = some (excO C t0) := Heap.get?_push_of_some _ hx1
  have hu2 : (h1.push (kxs_mw "ValueError.__init__" x)).get? h1.objs.size = some (kxs_mw "ValueError.__init__" x) := Heap.get?_push_at rfl rfl
  have k2' : ∀ b o, hh.get? b = some o → (h1.push (kxs_mw "ValueError.__init__" x)).get? b = some o := fun b o e => Heap.get?_push_of_some _ (k1' b o e)
  refine kxs_callWith (i := "ValueError.__init__") (x := x) rfl ?_
  show wpAny _ _ (evalArgs _ true (backTo p4 (starEach [.Constant (.str msg) k p3] (ksEnv q scope L fI (.ref cda) cc))) []) _ _ _
  refine evalArgs_plain ?_
  show wpAny _ _ (spliced ((false, eval (.Constant (.str msg) k p3) (ksEnv q scope L fI (.ref cda) cc)) :: [])) _ _ _
  refine spliced_cons (Constant_str (spliced_nil ⟨hu2, ?_⟩))
  refine call_mw (s := ⟨h1.push (kxs_mw "ValueError.__init__" x), g, d, _, os⟩) T (X.keeps k2') hx2 hu2 (one_size _) fun h3 t1 k3' e3 => ?_
  exact hq h3 _ t1 (fun b o hb e => k3' b o hb (k2' b o e)) e3
structure Done1 (h h' : Heap) (x C dx : Addr) (f : Str) (v : Value) : Prop where
  keep : ∀ b o, b ≠ x → h.get? b = some o → h'.get? b = some o
  obj : ∃ t1 : Addr, h'.get? x = some { cls := .ref C, dict := some dx, data := .fields #[.ref t1, .none, .none, .none, .bool false, .none] }
  dbig : h.objs.size ≤ dx
  dne : dx ≠ x
  ns : h'.Ns1 dx (fun y => if y = f then some v else none)
structure FldOk (f : Str) : Prop where
  hsup : (scope1 f).names.lookup ("super" : Str) = some .globalImplicit
  hcls : (scope1 f).names.lookup ("__class__" : Str) = some .free
  hself : (scope1 f).names.lookup ("self" : Str) = some .local
  hf : (scope1 f).names.lookup f = some .local
  ne : f ≠ "self"
  hd : (f == ("__debug__" : Str)) = false
  inter : ∀ (q : Str) (L fI cda cc : Addr), interactive (ksEnv q (scope1 f) L fI (.ref cda) cc) = false
  sw : ∀ (q : Str) (L fI cda cc : Addr) msg k p0 p1 p2 p3 p4 n, swapsWith (supE msg k p0 p1 p2 p3 p4) none n (ksEnv q (scope1 f) L fI (.ref cda) cc) = pure false
  sw2 : ∀ (q : Str) (L fI cda cc : Addr) (r0 r1 r2 : Pos) n, swapsWith (.Name f r2) (some (.Attribute (.Name "self" r0) f r1)) n (ksEnv q (scope1 f) L fI (.ref cda) cc) = pure false
  bind : ∀ (s : Shared) qual body p1 p2 doc pm an cd ct cc (a b : Value), BindsTo s (ksFn "__init__" qual (args1 f p1 p2) body (scope1 f) .none .none doc pm an cd ct cc) ⟨[a, b], []⟩ [(PySem.Str.ofString "self", a), (f, b)]
  nc : ∀ x ∈ (scope1 f).names, x.2 ≠ .cell
  loc : ∀ (a b : Value), ∀ y ∈ [(PySem.Str.ofString "self", a), (f, b)], (scope1 f).names.lookup y.1 = some .local
theorem fld_number : FldOk "number" where
  hsup := by rfl
  hcls := by rfl
  hself := by rfl
  hf := by rfl
  ne := by decide
  hd := by decide
  inter := fun _ _ _ _ _ => rfl
  sw := fun _ _ _ _ _ _ _ _ _ _ _ _ _ => rfl
  sw2 := fun _ _ _ _ _ _ _ _ _ => rfl
  bind := fun _ _ _ _ _ _ _ _ _ _ _ _ _ => .of_eq (by first | rfl | with_unfolding_all rfl)
  nc := by decide
  loc := fun a b y hy => by
    rcases List.mem_cons.mp hy with rfl | hy
    · rfl
    · rcases List.mem_cons.mp hy with rfl | hy
      · rfl
      · cases hy
theorem own_init (T : Err1 prog K mg nm f C fI cc cda) (Fo : FldOk f) {x t0 : Addr} {v : Value} (M : L2.Mod K mg s.heap) (hx : s.heap.get? x = some (excO C t0)) (hnx : K.lookup x = none) (hroom : A.depth < recursionLimit)
    (hq : ∀ h' tk dx, Done1 s.heap h' x C dx f v → R (.ok (.ret .none)) { s with heap := h', toks := tk }) :
    codeAny (model prog w) A (.call (.ref fI) ⟨[.ref x, v], []⟩) R s := by
  obtain ⟨oc, od, doc, pm, an, ct, osl, qual, msg, k, p1, p2, q0, q1, q2, q3, q4, q5, r0, r1, r2, r3, ho, hcd, hev⟩ := T.fn
  obtain ⟨nm', q, N, bs, bm, sn, sub, ab, col, dd, k0, k1, k2, k3, k5, hC, hbm⟩ := T.cls
  have hcl : clsIn K C = some { name := nm', bases := bs, mro := .ref C :: bm, ns := N, qualname := q, hasDict := true, slotNames := sn, subclasses := sub, abstract := ab, collection := col, hasDel := false } := by unfold clsIn; rw [hC] <;> rfl
  have X := M.kin
  refine ks_codeAny_call_defAt (fd := ksFn "__init__" qual (args1 f p1 p2) [supS msg k q0 q1 q2 q3 q4 q5, fldS f r0 r1 r2 r3] (scope1 f) .none .none doc pm an (.ref cda) ct cc) (body := [supS msg k q0 q1 q2 q3 q4 q5, fldS f r0 r1 r2 r3])
    (binds := [(PySem.Str.ofString "self", .ref x), (f, v)]) hroom (X _ _ ho) rfl M.nolimit (codeRec_of X hcd) rfl (Fo.bind _ _ _ _ _ _ _ _ _ _ _ _ _) Fo.nc (Fo.loc _ _) (fun h₁ hn k₁ => ?_)
  show wpAt (model prog w) (A.deeper (ksEnv qual (scope1 f) s.heap.objs.size fI (.ref cda) cc)) (.func _ (ksEnv qual (scope1 f) s.heap.objs.size fI (.ref cda) cc)) (execs _ (ksEnv qual (scope1 f) s.heap.objs.size fI (.ref cda) cc)) _ _ _
  have M₁ := mod_keeps M k₁
  have hx₁ := k₁ _ _ hx
  have hL : s.heap.objs.size ≠ x := Nat.ne_of_gt (Heap.lt_size hx)
  have ms : (([(PySem.Str.ofString "self", Value.ref x), (f, v)] : List (Str × Value)).reverse.lookup ("self" : Str)) = some (.ref x) := by
    have e : (("self" : Str) == f) = false := by
      rw [beq_eq_false_iff_ne]
      exact fun z => Fo.ne z.symm
    show ([(f, v), (PySem.Str.ofString "self", Value.ref x)] : List (Str × Value)).lookup ("self" : Str) = _
    simp [List.lookup, e]
  have mf : (([(PySem.Str.ofString "self", Value.ref x), (f, v)] : List (Str × Value)).reverse.lookup f) = some v := by
    show ([(f, v), (PySem.Str.ofString "self", Value.ref x)] : List (Str × Value)).lookup f = _
    simp [List.lookup]
  refine ks_wpAt_execs_cons ?_
  refine sup_step (s := { s with heap := h₁, toks := s.toks + 2 }) T.toErrC M₁ hn ms hx₁ hnx (M₁.kin _ _ ho) rfl ⟨_, rfl, rfl⟩ Fo.hsup Fo.hcls Fo.hself rfl (Fo.inter _ _ _ _ _) (Fo.sw _ _ _ _ _ _ _ _ _ _ _ _ _) (hev _ _) fun h₂ tk₂ t2 kk hx₂ => ?_
  have hn₂ : h₂.Ns s.heap.objs.size (fun y => ([(PySem.Str.ofString "self", Value.ref x), (f, v)] : List (Str × Value)).reverse.lookup y) := hn.at fun o e => kk _ o hL e
  have X₂ : K.In h₂ := fun a o e => kk a o (fun z => by rw [z, hnx] at e; cases e) (M₁.kin a o e)
  refine wpAt_of_wpAny ?_
  show wpAny _ _ (execs [fldS f r0 r1 r2 r3] _) _ _ _
  refine wpAny_execs_cons (plainObj_wpAny_Assign_Attribute ?_ (Fo.sw2 _ _ _ _ _ _ _ _ _))
  refine wpAny_Name (wpAny_loadName_local (env := ksEnv qual (scope1 f) s.heap.objs.size fI (.ref cda) cc) rfl Fo.hf hn₂ mf ?_) Fo.hd
  refine wpAny_Name (wpAny_loadName_local (env := ksEnv qual (scope1 f) s.heap.objs.size fI (.ref cda) cc) rfl Fo.hself hn₂ ms ?_) (by decide)
  refine set_plain X₂ (ox := excO C t2) (od := none) ⟨hx₂, rfl, rfl, trivial⟩ T.sa ?_
  refine exc_osa X₂ hx₂ hcl (show refsVE (.ref C :: bm) = true from hbm) rfl T.noN (fun h₃ tk₃ dx k₃ dn dne hx₃ hn₃ => ?_)
  show wpAny _ _ (execs _ _) _ _ _
  have z : s.heap.objs.size < h₂.objs.size := hn₂.lt
  exact wpAny_execs_nil (hq h₃ tk₃ dx ⟨fun b o hb e => k₃ b o hb (kk b o hb (k₁ b o e)), ⟨t2, hx₃⟩, Nat.le_of_lt (Nat.lt_of_lt_of_le z dn), dne, hn₃⟩)
structure Done0 (h h' : Heap) (x C : Addr) : Prop where
  keep : ∀ b o, b ≠ x → h.get? b = some o → h'.get? b = some o
  obj : ∃ t1 : Addr, h'.get? x = some { cls := .ref C, dict := none, data := .fields #[.ref t1, .none, .none, .none, .bool false, .none] }
theorem own_init0 (T : Err0 prog K mg nm C fI cc cda) {x t0 : Addr} (M : L2.Mod K mg s.heap) (hx : s.heap.get? x = some (excO C t0)) (hnx : K.lookup x = none) (hroom : A.depth < recursionLimit)
    (hq : ∀ h' tk, Done0 s.heap h' x C → R (.ok (.ret .none)) { s with heap := h', toks := tk }) :
    codeAny (model prog w) A (.call (.ref fI) ⟨[.ref x], []⟩) R s := by
  obtain ⟨oc, od, doc, pm, an, ct, osl, qual, msg, k, p1, q0, q1, q2, q3, q4, q5, ho, hcd, hev⟩ := T.fn
  have X := M.kin
  refine ks_codeAny_call_defAt (fd := ksFn "__init__" qual (args0 p1) [supS msg k q0 q1 q2 q3 q4 q5] scope0 .none .none doc pm an (.ref cda) ct cc) (body := [supS msg k q0 q1 q2 q3 q4 q5])
    (binds := [(PySem.Str.ofString "self", .ref x)]) hroom (X _ _ ho) rfl M.nolimit (codeRec_of X hcd) rfl (.of_eq (by first | rfl | with_unfolding_all rfl)) (show ∀ x ∈ scope0.names, x.2 ≠ .cell by decide) (fun y hy => by
      rcases List.mem_cons.mp hy with rfl | hy
      · rfl
      · cases hy) (fun h₁ hn k₁ => ?_)
  show _root_.PySem.wpAt (model prog w) (A.deeper (ksEnv qual scope0 s.heap.objs.size fI (.ref cda) cc)) (.func _ (ksEnv qual scope0 s.heap.objs.size fI (.ref cda) cc)) (execs _ (ksEnv qual scope0 s.heap.objs.size fI (.ref cda) cc)) _ _ _
  have M₁ := mod_keeps M k₁
  have hx₁ := k₁ _ _ hx
  have ms : (([(PySem.Str.ofString "self", Value.ref x)] : List (Str × Value)).reverse.lookup ("self" : Str)) = some (.ref x) := by
    show ([(PySem.Str.ofString "self", Value.ref x)] : List (Str × Value)).lookup ("self" : Str) = _
    simp [List.lookup]
  refine ks_wpAt_execs_cons ?_
  refine sup_step (s := { s with heap := h₁, toks := s.toks + 1 }) T.toErrC M₁ hn ms hx₁ hnx (M₁.kin _ _ ho) rfl ⟨_, rfl, rfl⟩ rfl rfl rfl rfl rfl rfl (hev _ _) fun h₂ tk₂ t2 kk hx₂ => ?_
  refine wpAt_of_wpAny ?_
  show wpAny _ _ (execs [] _) _ _ _
  exact wpAny_execs_nil (hq h₂ tk₂ ⟨fun b o hb e => kk b o hb (k₁ b o e), t2, hx₂⟩)
structure Made1 (h h' : Heap) (e C d : Addr) (f : Str) (v : Value) : Prop where
  keep : ∀ b o, h.get? b = some o → h'.get? b = some o
  new : h.objs.size ≤ e
  obj : ∃ oe vs, h'.get? e = some oe ∧ oe.cls = .ref C ∧ oe.dict = some d ∧ oe.data = .fields vs ∧ vs[1]? = some .none ∧ vs[2]? = some .none
  dbig : h.objs.size ≤ d
  dne : d ≠ e
  ns : h'.Ns1 d (fun y => if y = f then some v else none)
structure Made0 (h h' : Heap) (e C : Addr) : Prop where
  keep : ∀ b o, h.get? b = some o → h'.get? b = some o
  new : h.objs.size ≤ e
  obj : ∃ oe vs, h'.get? e = some oe ∧ oe.cls = .ref C ∧ oe.dict = none ∧ oe.data = .fields vs ∧ vs[1]? = some .none ∧ vs[2]? = some .none
theorem own_made (T : Err1 prog K mg nm f C fI cc cda) (Fo : FldOk f) {v : Value} (M : L2.Mod K mg s.heap) (hroom : A.depth + 1 < recursionLimit)
    (hq : ∀ h' tk e d, Made1 s.heap h' e C d f v → R (.ok (.ret (.ref e))) { s with heap := h', toks := tk }) :
    codeAny (model prog w) A (.call (.ref C) ⟨[v], []⟩) R s := by
  obtain ⟨nm', q, N, bs, bm, sn, sub, ab, col, dd, k0, k1, k2, k3, k5, hC, hbm⟩ := T.cls
  obtain ⟨hp, g, dr, tk, os⟩ := s
  have X := M.kin
  have k : ∀ b o, hp.get? b = some o → ((hp.push (kdv_tup [v])).push (excO C hp.objs.size)).get? b = some o := fun b o e => Heap.get?_push_of_some _ (Heap.get?_push_of_some _ e)
  have hget : ((hp.push (kdv_tup [v])).push (excO C hp.objs.size)).get? (hp.objs.size + 1) = some (excO C hp.objs.size) := by heap_get
  have hnx : K.lookup (hp.objs.size + 1) = none := by
    cases e : K.lookup (hp.objs.size + 1) with
    | none => rfl
    | some o =>
      have z : hp.get? (hp.objs.size + 1) = some o := X _ _ e
      exact absurd (Nat.lt_of_succ_lt (Heap.lt_size z)) (Nat.lt_irrefl _)
  refine call_own F.excBase_ValueError (fun X => refsVE_contains X bm hbm) (X _ _ hC) (looks_findIn X T.iC) (fun self => bind_fn X self T.tC) (one_size v) ?_
  refine own_init (s := ⟨(hp.push (kdv_tup [v])).push (excO C hp.objs.size), g, dr, tk, os⟩) T Fo (mod_keeps M k) hget hnx ?_ fun h' tk' dx ⟨k', hx, dn, dne, hns⟩ => ?_
  · show A.depth + 1 < recursionLimit
    exact hroom
  · have old : ∀ b o, hp.get? b = some o → h'.get? b = some o := fun b o e => k' b o (Nat.ne_of_lt (Nat.lt_succ_of_lt (Heap.lt_size e))) (k b o e)
    have z : hp.objs.size + 1 + 1 ≤ dx := by
      first
        | (simpa only [Heap.size_push] using dn)
        | exact dn
        | (have q := dn; rw [Heap.size_push, Heap.size_push] at q; exact q)
    obtain ⟨t1, hx⟩ := hx
    exact ⟨rfl, hq h' tk' (hp.objs.size + 1) dx ⟨old, Nat.le_succ _, ⟨_, _, hx, rfl, rfl, rfl, rfl, rfl⟩, Nat.le_trans (Nat.le_trans (Nat.le_succ _) (Nat.le_succ _)) z, dne, hns⟩⟩
theorem own_made0 (T : Err0 prog K mg nm C fI cc cda) (M : L2.Mod K mg s.heap) (hroom : A.depth + 1 < recursionLimit)
    (hq : ∀ h' tk e, Made0 s.heap h' e C → R (.ok (.ret (.ref e))) { s with heap := h', toks := tk }) :
    codeAny (model prog w) A (.call (.ref C) ⟨[], []⟩) R s := by
  obtain ⟨nm', q, N, bs, bm, sn, sub, ab, col, dd, k0, k1, k2, k3, k5, hC, hbm⟩ := T.cls
  obtain ⟨hp, g, dr, tk, os⟩ := s
  have X := M.kin
  have k : ∀ b o, hp.get? b = some o → ((hp.push (kdv_tup [])).push (excO C hp.objs.size)).get? b = some o := fun b o e => Heap.get?_push_of_some _ (Heap.get?_push_of_some _ e)
  have hget : ((hp.push (kdv_tup [])).push (excO C hp.objs.size)).get? (hp.objs.size + 1) = some (excO C hp.objs.size) := by heap_get
  have hnx : K.lookup (hp.objs.size + 1) = none := by
    cases e : K.lookup (hp.objs.size + 1) with
    | none => rfl
    | some o =>
      have z : hp.get? (hp.objs.size + 1) = some o := X _ _ e
      exact absurd (Nat.lt_of_succ_lt (Heap.lt_size z)) (Nat.lt_irrefl _)
  refine call_own F.excBase_ValueError (fun X => refsVE_contains X bm hbm) (X _ _ hC) (looks_findIn X T.iC) (fun self => bind_fn X self T.tC) nil_size ?_
  refine own_init0 (s := ⟨(hp.push (kdv_tup [])).push (excO C hp.objs.size), g, dr, tk, os⟩) T (mod_keeps M k) hget hnx ?_ fun h' tk' ⟨k', hx⟩ => ?_
  · show A.depth + 1 < recursionLimit
    exact hroom
  · have old : ∀ b o, hp.get? b = some o → h'.get? b = some o := fun b o e => k' b o (Nat.ne_of_lt (Nat.lt_succ_of_lt (Heap.lt_size e))) (k b o e)
    obtain ⟨t1, hx⟩ := hx
    exact ⟨rfl, hq h' tk' (hp.objs.size + 1) ⟨old, Nat.le_succ _, ⟨_, _, hx, rfl, rfl, rfl, rfl, rfl⟩⟩⟩
end
end KX
end PySem
namespace L2
open PySem PySem.Spec PyProof.Rows
theorem relO_one {f : Str} {v : V} {v' : Value} (r : RelV v v') (y : Str) : RelO (List.lookup y [(f, v)]) (if y = f then some v' else none) := by
  by_cases hw : y = f
  · subst hw
    rw [if_pos rfl]
    have q : List.lookup y [(y, v)] = some v := by simp [List.lookup]
    rw [q]
    exact r
  · rw [if_neg hw]
    have qw : (y == f) = false := by simpa using hw
    have q2 : List.lookup y [(f, v)] = none := by simp [List.lookup, qw]
    rw [q2]
    trivial
section
variable {X : Cx} {nm f : Str} {C fI cc cda : Addr}
def tMk1 (C : Addr) (f : Str) (ta : TA) : St → Hp → XK → Prop := fun σ H Q => ta σ H fun vs H1 => ∃ v, vs = [v] ∧ ∀ d, H1 d = none → Q (.ref C) (some d) (upd H1 d (.xd [(f, v)]))
def tMk0 (C : Addr) : St → Hp → XK → Prop := fun _ H Q => Q (.ref C) none H
theorem base_mod {pins : List (Addr × Obj)} {σ : St} {H : Hp} {s : Shared} (I : Inv X pins σ H s) : Mod X.K X.mg s.heap := PySem.KX.mod_keeps I.mod I.bk
theorem pmk_err1 {a : Expr} {ta : TA} {p pos : Pos} {k : Nat} (T : PySem.KX.Err1 X.prog X.K X.mg nm f C fI cc cda) (Fo : PySem.KX.FldOk f) (hr : Room k X.A) (ha : PA X [a] ta) (hg : Gl X nm) (hdb : (nm == ("__debug__" : Str)) = false := by decide)
    (he : starEach (a :: []) X.env = (false, eval a X.env) :: starEach [] X.env := by rfl) (hpl : (backTo pos (starEach [] X.env)).any (·.1) = false := by rfl) :
    L2N.PMk X (.Call (.Name nm p) [a] [] pos) (tMk1 C f ta) := by
  intro pins s σ H Q I h
  refine wpAny_Call_Name_kw (ld_glob I hg T.gC ?_ hdb)
  refine PySem.W.callWith_K (h₀ := X.base) I.ok.mod.kin T.kC (thn (ha.run pos pins s σ H _ I h) fun us s1 hh => ?_) he hpl
  obtain ⟨vs, H1, I1, r1, v, ev, q1⟩ := hh
  subst ev
  refine ⟨I1.kIn, ?_⟩
  cases r1 with
  | cons rv rn =>
    rename_i v' us'
    cases rn
    show wpAny _ _ (call (.ref C) [v']) _ _ _
    have hM := base_mod I1
    obtain ⟨hp, g, dr, tk, os⟩ := s1
    refine wpAny_call (PySem.KX.own_made T Fo hM (by have := hr.dp; omega) fun h' tk' e d M => ?_)
    show L2N.MkP X pins σ Q (.ref e) ⟨h', g, dr, tk', os⟩
    obtain ⟨oe, fv, hoe, hc, hd, hdat, h1, h2⟩ := M.obj
    have hns := M.ns
    obtain ⟨G', g1, g2⟩ := restrict h' fun b => decide (b ≠ e)
    have gk : ∀ b, b ≠ e → G'.get? b = h'.get? b := fun b hb => g1 b (decide_eq_true hb)
    have ge : G'.get? e = none := g2 e (by simp)
    have old : ∀ b o, hp.get? b = some o → G'.get? b = some o := fun b o q => (gk b (Nat.ne_of_lt (Nat.lt_of_lt_of_le (Heap.lt_size q) M.new))).trans (M.keep b o q)
    have ob : ObjOk X.prog X.w (upd H1 d (.xd [(f, v)])) G' d (.xd [(f, v)]) := ⟨_, hns.at (fun o q => (gk d M.dne).trans q), fun y => relO_one rv y⟩
    have J : Inv X pins σ (upd H1 d (.xd [(f, v)])) ⟨G', g, dr, tk', os⟩ := I1.laid (t' := tk') old M.dbig ob
    refine ⟨e, oe, fv, ⟨G', g, dr, tk', os⟩, _, .ref C, some d, rfl, J, fun b o q => ?_, ge, hoe, ⟨hc, hd, fun q e => by rw [hdat] at e; cases e; exact h2⟩, hdat, h1, ?_, rfl, I1.bare, raises_own T.exC T.tyC, q1 d (I1.hok.fresh M.dbig)⟩
    · by_cases hb : b = e
      · have q' : G'.get? b = some o := q
        rw [hb, ge] at q'; cases q'
      · exact (gk b hb).symm.trans q
    · rw [upd_ne (Ne.symm M.dne)]
      exact I1.hok.fresh M.new
theorem pmk_err0 {p pos : Pos} {k : Nat} (T : PySem.KX.Err0 X.prog X.K X.mg nm C fI cc cda) (hr : Room k X.A) (hg : Gl X nm) (hdb : (nm == ("__debug__" : Str)) = false := by decide) :
    L2N.PMk X (.Call (.Name nm p) [] [] pos) (tMk0 C) := by
  intro pins s σ H Q I h
  refine wpAny_Call_Name_kw (ld_glob I hg T.gC ?_ hdb)
  refine PySem.W.callWith_K0 I.kIn T.kC ?_
  have hM := base_mod I
  obtain ⟨hp, g, dr, tk, os⟩ := s
  refine wpAny_call (PySem.KX.own_made0 T hM (by have := hr.dp; omega) fun h' tk' e M => ?_)
  show L2N.MkP X pins σ Q (.ref e) ⟨h', g, dr, tk', os⟩
  obtain ⟨oe, fv, hoe, hc, hd, hdat, h1, h2⟩ := M.obj
  obtain ⟨G', g1, g2⟩ := restrict h' fun b => decide (b ≠ e)
  have gk : ∀ b, b ≠ e → G'.get? b = h'.get? b := fun b hb => g1 b (decide_eq_true hb)
  have ge : G'.get? e = none := g2 e (by simp)
  have old : ∀ b o, hp.get? b = some o → G'.get? b = some o := fun b o q => (gk b (Nat.ne_of_lt (Nat.lt_of_lt_of_le (Heap.lt_size q) M.new))).trans (M.keep b o q)
  have J : Inv X pins σ H ⟨G', g, dr, tk', os⟩ := I.kept (t' := tk') old
  refine ⟨e, oe, fv, ⟨G', g, dr, tk', os⟩, _, .ref C, none, rfl, J, fun b o q => ?_, ge, hoe, ⟨hc, hd, fun q e => by rw [hdat] at e; cases e; exact h2⟩, hdat, h1, ?_, rfl, I.bare, raises_own T.exC T.tyC, h⟩
  · by_cases hb : b = e
    · have q' : G'.get? b = some o := q
      rw [hb, ge] at q'; cases q'
    · exact (gk b hb).symm.trans q
  · exact I.hok.fresh M.new
def tRaise1 (C : Addr) (f : Str) (W : WX) (ta : TA) : TS := fun _ σ H => tMk1 C f ta σ H fun cls d H' => W cls d σ H'
def tRaise0 (C : Addr) (W : WX) : TS := fun _ σ H => tMk0 C σ H fun cls d H' => W cls d σ H'
theorem ps_raise1 {a : Expr} {ta : TA} {W : WX} {p pos pos2 : Pos} {k : Nat} (hc : X.calm = true) (T : PySem.KX.Err1 X.prog X.K X.mg nm f C fI cc cda) (Fo : PySem.KX.FldOk f) (hr : Room k X.A) (tk : L2N.Takes X W) (ha : PA X [a] ta) (hg : Gl X nm) (hdb : (nm == ("__debug__" : Str)) = false := by decide)
    (he : starEach (a :: []) X.env = (false, eval a X.env) :: starEach [] X.env := by rfl) (hpl : (backTo pos (starEach [] X.env)).any (·.1) = false := by rfl) :
    PS X (.Raise (some (.Call (.Name nm p) [a] [] pos)) none pos2) (tRaise1 C f W ta) := L2N.ps_raise hc tk (pmk_err1 T Fo hr ha hg hdb he hpl)
theorem ps_raise0 {W : WX} {p pos pos2 : Pos} {k : Nat} (hc : X.calm = true) (T : PySem.KX.Err0 X.prog X.K X.mg nm C fI cc cda) (hr : Room k X.A) (tk : L2N.Takes X W) (hg : Gl X nm) (hdb : (nm == ("__debug__" : Str)) = false := by decide) :
    PS X (.Raise (some (.Call (.Name nm p) [] [] pos)) none pos2) (tRaise0 C W) := L2N.ps_raise hc tk (pmk_err0 T hr hg hdb)
def tErrF (a C : Addr) (cls : Value) (d : Option Addr) (f : Str) (te : TE) : TE := fun σ H Q => te σ H fun x H1 => x = .ref a ∧ cls = .ref C ∧ ∃ (dd : Addr) (fs : List (Str × V)) (v : V), d = some dd ∧ H1 dd = some (.xd fs) ∧ fs.lookup f = some v ∧ Q v H1
theorem pe_errF {a : Addr} {oe : Obj} {cls : Value} {d : Option Addr} {pn : List (Addr × Obj)} {e : Expr} {te : TE} {pos : Pos} (T : PySem.KX.ErrC X.prog X.K X.mg nm C fI cc cda) (hno : PySem.W.findIn X.K (.ref C) f = some none) (hz : Zc cls d oe) (hf : ∃ vs, oe.data = .fields vs) (he : PE (X.suite a ((a, oe) :: pn)) e te)
    (hb : attributeBase e f X.env (eval e X.env) = eval e X.env := by rfl) :
    PE (X.suite a ((a, oe) :: pn)) (.Attribute e f pos) (tErrF a C cls d f te) := by
  refine ⟨fun pins s σ H Q I h => ?_⟩
  refine attr_of hb (thn (he.run pins s σ H _ I h) fun u s1 hh => ?_)
  obtain ⟨x, H1, I1, rx, ex, ec, dd, fs, v, ed, ea, l, q⟩ := hh
  subst ex
  obtain rfl : u = Value.ref a := rx
  subst ec
  subst ed
  obtain ⟨ha, _⟩ := I1.pin (a, oe) (List.mem_append_left _ List.mem_cons_self)
  obtain ⟨vs, hd⟩ := hf
  have hx : ObjOk X.prog X.w H1 s1.heap dd (.xd fs) := I1.hok dd _ ea
  obtain ⟨mA, hns, hr⟩ := hx
  obtain ⟨od, ho, hl⟩ := lookIn_ns hns
  obtain ⟨u, hu, ru⟩ := RelO.some_of (v := v) (o := mA f) (by rw [← l]; exact hr f)
  have J : PySem.W.InstAt s1.heap a oe C (some od) := ⟨ha, hz.1, by unfold PySem.W.notCls; rw [hd] <;> rfl, by rw [hz.2]; exact ho⟩
  exact HandSPX.exc_get I1.kIn J T.ga T.gg T.exC (PySem.W.findObj_own T.hdC hno rfl (by rw [hl, hu])) (handed_of ru) ⟨v, H1, I1.tok _, ru, q⟩
structure ErrI (K : PySem.W.Frag) (C : Addr) : Prop where
  cl : (PySem.W.clsIn K C).isSome = true
  ga : PySem.W.findIn K (.ref C) "__getattribute__" = some (some (.builtin "BaseException.__getattribute__"))
  gg : PySem.W.findIn K (.ref C) "__getattr__" = some none
  ex : PySem.W.subIn K (.ref C) (.type "BaseException") = some true
  ha : PySem.W.findIn K (.ref C) "__class__" = some (some (.builtin "object.__class__"))
  hn : PySem.W.specialIn K (.builtin "object.__class__") "__get__" = some (some (.builtin "getset_descriptor.__get__"))
  ht : PySem.W.takesIn K (.builtin "object.__class__") = some true
  hm : PySem.W.mroIn K C (.type "object") = some true
def rIsErr (K : PySem.W.Frag) (C a : Addr) (cls : Value) (d : Option Addr) : List V → Hp → VK → Prop := fun xs H Q => ∃ (c : V) (u : Value) (b : Bool), xs = [.ref a, c] ∧ cls = .ref C ∧ ErrI K C ∧ ClsV c u ∧ PySem.W.kitOne K (.ref C) u = some b ∧ (∀ dd, d = some dd → ∃ fs, H dd = some (.xd fs)) ∧ Q (.bl b) H
theorem call_isErr {a C : Addr} {oe : Obj} {cls : Value} {d : Option Addr} {pn : List (Addr × Obj)} (hz : Zc cls d oe) (hf : ∃ vs, oe.data = .fields vs) : CallR (X.suite a ((a, oe) :: pn)) (.builtin "isinstance") (rIsErr X.K C a cls d) := by
  intro pins s σ H xs us Q I r h
  obtain ⟨c, cv, b, rfl, ec, T, hcv, e, hdd, q⟩ := h
  subst ec
  obtain ⟨u1, u2, rfl, rx, rt⟩ := vals2 r
  cases (show u1 = Value.ref a from rx)
  have ec := hcv.eq rt
  subst ec
  obtain ⟨hget, _⟩ := I.pin (a, oe) (List.mem_append.mpr (.inl List.mem_cons_self))
  obtain ⟨vs, hv⟩ := hf
  have J : ∃ od, PySem.W.InstAt s.heap a oe C od := by
    have nc : PySem.W.notCls oe = true := by unfold PySem.W.notCls; rw [hv] <;> rfl
    cases d with
    | none => exact ⟨none, hget, hz.1, nc, by rw [hz.2]; exact True.intro⟩
    | some dd =>
      obtain ⟨fs, hfs⟩ := hdd dd rfl
      have hx : ObjOk X.prog X.w H s.heap dd (.xd fs) := I.hok dd _ hfs
      obtain ⟨mA, hns, hr⟩ := hx
      obtain ⟨od, ho, hl⟩ := lookIn_ns hns
      exact ⟨some od, hget, hz.1, nc, by rw [hz.2]; exact ho⟩
  obtain ⟨od, J⟩ := J
  exact PySem.W.kia_one (PySem.W.kitx_exc T.cl T.ga T.gg T.ex T.ha T.hn T.ht T.hm) I.kIn J e (fun z => nomatch z) fun tk => ⟨.bl b, H, I.tok tk, rfl, q⟩
end
end L2
namespace PySem
namespace KX
open PySem.W PySem.Calls PyProof.Rows PySem.HandSPX
theorem err1_mk {prog : Program} {K : Frag} {mg : Str → Option Value} {h : Heap} {nm f : Str} {C fI cc cda : Addr} (X : K.In h) (G : h.Ns mainGlobals mg)
    {nm' q qual msg cf : Str} {N : Addr} {bs bm sub : List Value} {sn : List Str} {ab : Bool} {col : Option Bool} {dd : Option Addr} {k0 k1 k2 k3 k5 : Option Value}
    {oc doc pm ct cl ccl : Value} {od an cld cdd : Option Addr} {osl csl ccs : Array (Option Value)} {vs : Array Value} {tf : Tok} {k : Nat} {p1 p2 q0 q1 q2 q3 q4 q5 r0 r1 r2 r3 : Pos}
    (gC : nsIn K mainGlobals nm = some (some (.ref C))) (xc : K.lookup C = some (excClassObj nm' q C N bs bm true sn sub ab col dd k0 k1 k2 k3 k5 "ValueError.__new__")) (xr : refsVE bm = true)
    (xs : findIn K (.ref C) "__setattr__" = some (some (.builtin "object.__setattr__"))) (xg : findIn K (.ref C) "__getattribute__" = some (some (.builtin "BaseException.__getattribute__"))) (xgg : findIn K (.ref C) "__getattr__" = some none)
    (xi : findIn K (.ref C) "__init__" = some (some (.ref fI))) (xt : typeIn K (.ref fI) = some (.type "function")) (xk : keepIn K (.ref C) = true)
    (xe : subIn K (.ref C) (.type "BaseException") = some true) (xv : subIn K (.ref C) (.type "ValueError") = some true) (xy : typeIn K (.ref C) = some (.type "type")) (xh : hasDictIn K C = true)
    (xm : mroIn K C (.ref C) = some true) (xu : ks_superIn K C C "__init__" = some (some (.builtin "ValueError.__init__"))) (tp : nsIn K cStatics "thirdparty.any" = some none) (sg : nsIn K mainGlobals "super" = some none)
    (xl : K.lookup cc = some ⟨cl, cld, .cell (some (.ref C)), csl⟩) (xw : K.lookup cda = some ⟨ccl, cdd, .fields vs, ccs⟩) (xw2 : vs[2]? = some (.str cf tf)) (xw3 : ((prog.main.file : Str) == cf) = true)
    (top : (prog.main.scope.names.lookup ("super" : Str)).isSome = false) (xn : findIn K (.ref C) f = some none) (nf : f ≠ "self" ∧ f ≠ "__debug__" ∧ f ≠ "__classdict__" ∧ f ≠ "super" ∧ f ≠ "__class__")
    (xf : K.lookup fI = some ⟨oc, od, .func (ksFn "__init__" qual (args1 f p1 p2) [supS msg k q0 q1 q2 q3 q4 q5, fldS f r0 r1 r2 r3] (scope1 f) .none .none doc pm an (.ref cda) ct cc), osl⟩) (xd : codeIn K (.ref cda) qual = true)
    (hev : ∀ (q : Str) (L : Addr), SupEv (ksEnv q (scope1 f) L fI (.ref cda) cc) msg k q0 q1 q2 q3 q4) : Err1 prog K mg nm f C fI cc cda :=
  { gC := mg_of X G gC, cls := ⟨_, _, _, _, _, _, _, _, _, _, _, _, _, _, _, xc, xr⟩, sa := xs, ga := xg, gg := xgg, iC := xi, tC := xt, kC := xk, exC := xe, exV := xv, tyC := xy, hdC := xh, mC := xm, sup := xu, tp := tp, sg := mg_none_of X G sg,
    cell := ⟨_, _, _, xl⟩, code := ⟨_, _, _, _, _, _, xw, xw2, xw3⟩, top := top, noN := xn, nf := nf, fn := ⟨_, _, _, _, _, _, _, _, _, _, _, _, _, _, _, _, _, _, _, _, _, _, xf, xd, hev⟩ }
def intsOf : List Value → List (Option Int)
  | [] => []
  | .int i _ :: r => some i :: intsOf r
  | _ :: r => none :: intsOf r
theorem vals_of_ints : ∀ {us : List Value} {ns : List Int}, intsOf us = ns.map some → L2.Vals (ns.map L2.V.int) us
  | [], [], _ => .nil
  | [], _ :: _, e => by cases e
  | u :: us, ns, e => by
    cases u with
    | int i t =>
      cases ns with
      | nil => cases e
      | cons n ns =>
        have e1 : some i :: intsOf us = some n :: ns.map some := e
        have h1 : i = n := by injection e1 with a b; injection a
        have h2 : intsOf us = ns.map some := by injection e1
        rw [h1]
        exact .cons ⟨t, rfl⟩ (vals_of_ints h2)
    | _ =>
      cases ns with
      | nil => cases e
      | cons n ns =>
        have e1 : (none : Option Int) :: intsOf us = some n :: ns.map some := e
        injection e1 with a b
        cases a
end KX
end PySem
namespace KR
open PySem PySem.Spec L2 Evl
section
variable {X : Cx} {K : PySem.W.Frag} {σ : L2.St} {H : Hp} {D : Ends} {t u : TT} {ts us tw : TS} {te ta tb tc : TE} {r r' : R2} {Q : VK} {QB : Bool → Hp → Prop} {i : Nat} {v x y : V} {A B : Prop}
theorem seq (h : ts { D with nx := us D } σ H) : tSeq ts us D σ H := h
theorem asg (h : te σ H fun v H1 => D.nx (σ.set i (some v)) H1) : tAsg te (gName i) D σ H := h
theorem asgG {g : TG} (h : te σ H fun v H1 => g v σ H1 D.nx) : tAsg te g D σ H := h
theorem drop (h : te σ H fun _ H1 => D.nx σ H1) : tDrop te D σ H := h
theorem ret (h : te σ H D.rt) : tRet te D σ H := h
theorem retN (h : D.rt .non H) : tRetN D σ H := h
theorem next (h : D.nx σ H) : tNext D σ H := h
theorem brk (h : D.bk σ H) : tBreak D σ H := h
theorem cont (h : D.ct σ H) : tCont D σ H := h
theorem ifs (h : t σ H fun b H1 => if b = true then ts D σ H1 else us D σ H1) : tIfS t ts us D σ H := h
theorem aug {ti : TIp} (hx : σ[i]? = some (some x)) (h : te σ H fun y H1 => ti x y H1 fun z H2 => D.nx (σ.set i (some z)) H2) : tAug i te ti D σ H := ⟨x, hx, h⟩
theorem ipI {f : Int → Int → Int} {a b : Int} {Q : VK} (h : Q (.int (f a b)) H) : L2.ipI f (.int a) (.int b) H Q := ⟨a, b, rfl, rfl, h⟩
theorem var (hx : σ[i]? = some (some v)) (h : Q v H) : tVar i σ H Q := ⟨v, hx, h⟩
theorem con (h : Q v H) : tC v σ H Q := h
theorem op (h : ta σ H fun x H1 => tb σ H1 fun y H2 => r x y H2 Q) : tOp r ta tb σ H Q := h
theorem un {ru : V → Hp → VK → Prop} (h : ta σ H fun x H1 => ru x H1 Q) : tUn ru ta σ H Q := h
theorem opI0 {g : Int → Int → V} {a b : Int} (h : Q (g a b) H) : rI0 g (.int a) (.int b) H Q := ⟨a, b, rfl, rfl, h⟩
theorem opI {C : Int → Int → Prop} {g : Int → Int → V} {a b : Int} (hc : C a b) (h : Q (g a b) H) : rI C g (.int a) (.int b) H Q := ⟨a, b, rfl, rfl, hc, h⟩
theorem unI {g : Int → V} {a : Int} (h : Q (g a) H) : rU g (.int a) H Q := ⟨a, rfl, h⟩
theorem eqS (hs : scal x y = true) (h : Q (.bl (decide (x = y))) H) : rEq x y H Q := ⟨hs, h⟩
theorem neS (hs : scal x y = true) (h : Q (.bl (!decide (x = y))) H) : rNe x y H Q := ⟨hs, h⟩
theorem eqI {a b : Int} (h : Q (.bl (decide (a = b))) H) : rEq (.int a) (.int b) H Q := ⟨rfl, by
  have e : decide (V.int a = V.int b) = decide (a = b) := by
    by_cases z : a = b
    · rw [decide_eq_true z, z, decide_eq_true rfl]
    · rw [decide_eq_false z, decide_eq_false (fun q => z (V.int.inj q))]
  rw [e]; exact h⟩
theorem neI {a b : Int} (h : Q (.bl (!decide (a = b))) H) : rNe (.int a) (.int b) H Q := ⟨rfl, by
  have e : decide (V.int a = V.int b) = decide (a = b) := by
    by_cases z : a = b
    · rw [decide_eq_true z, z, decide_eq_true rfl]
    · rw [decide_eq_false z, decide_eq_false (fun q => z (V.int.inj q))]
  rw [e]; exact h⟩
theorem test (h : te σ H fun x H' => ∃ k, x = .bl k ∧ QB k H') : tTest te σ H QB := h
theorem tb' (h : te σ H fun x H' => ∃ k, x = .bl k ∧ QB k H') : tB te σ H QB := h
theorem exbl {b : Bool} {QP : Bool → Prop} (h : QP b) : ∃ k, V.bl b = .bl k ∧ QP k := ⟨b, rfl, h⟩
theorem and' (h : t σ H fun c H1 => if c = true then u σ H1 QB else QB false H1) : tAnd t u σ H QB := h
theorem or' (h : t σ H fun c H1 => if c = true then QB true H1 else u σ H1 QB) : tOr t u σ H QB := h
theorem not' (h : t σ H fun c H1 => QB (!c) H1) : tNot t σ H QB := h
theorem chain (h : ta σ H fun x H1 => tb σ H1 fun y H2 => r x y H2 fun z H3 => ∃ k, z = .bl k ∧ (if k = true then tc σ H3 fun w' H4 => r' y w' H4 Q else Q (.bl false) H3)) : tChain r r' ta tb tc σ H Q := h
theorem iteD {p : Prop} [Decidable p] (h1 : p → A) (h2 : ¬ p → B) : if decide p = true then A else B := by
  by_cases h : p
  · rw [if_pos (decide_eq_true h)]; exact h1 h
  · rw [if_neg (by rw [decide_eq_false h]; decide)]; exact h2 h
theorem iteND {p : Prop} [Decidable p] (h1 : ¬ p → A) (h2 : p → B) : if (!decide p) = true then A else B := by
  by_cases h : p
  · rw [decide_eq_true h, if_neg (by decide)]; exact h2 h
  · rw [decide_eq_false h, if_pos (by decide)]; exact h1 h
theorem iteDT {p : Prop} [Decidable p] (hp : p) (h1 : A) : if decide p = true then A else B := by rw [if_pos (decide_eq_true hp)]; exact h1
theorem iteDF {p : Prop} [Decidable p] (hp : ¬ p) (h1 : B) : if decide p = true then A else B := by rw [if_neg (by rw [decide_eq_false hp]; decide)]; exact h1
theorem iteNF (h1 : A) : if (!false) = true then A else B := by rw [if_pos (by decide)]; exact h1
theorem iteNT (h1 : B) : if (!true) = true then A else B := by rw [if_neg (by decide)]; exact h1
theorem iteB {b : Bool} (h1 : b = true → A) (h2 : b = false → B) : if b = true then A else B := by
  cases b with
  | true => exact h1 rfl
  | false => exact h2 rfl
theorem nil {Q : List V → Hp → Prop} (h : Q [] H) : tNil σ H Q := h
theorem cons {tr : TA} {Q : List V → Hp → Prop} (h : te σ H fun x H1 => tr σ H1 fun xs H2 => Q (x :: xs) H2) : tCons te tr σ H Q := h
theorem call {sp : Sp} {dvs : List V} {E : XK} {tg : TA} (h : tg σ H fun vs H1 => sp (vs ++ dvs) H1 Q E) : tCall sp dvs E tg σ H Q := h
theorem cb {rc : List V → Hp → VK → Prop} {tg : TA} (h : tg σ H fun vs H1 => rc vs H1 Q) : tCB rc tg σ H Q := h
theorem tup {tg : TA} (h : tg σ H fun xs H1 => xs.length ≤ sizeLine ∧ ∀ p, H1 p = none → Q (.ref p) (upd H1 p (.tup xs))) : tTup tg σ H Q := h
theorem lst {tg : TA} (h : tg σ H fun xs H1 => xs.length ≤ sizeLine ∧ ∀ p, H1 p = none → Q (.ref p) (upd H1 p (.lst xs))) : tLst tg σ H Q := h
theorem ifx (h : t σ H fun c H1 => if c = true then ta σ H1 Q else tb σ H1 Q) : tIf t ta tb σ H Q := h
theorem andV (h : ta σ H fun x H1 => ∃ c, x = .bl c ∧ if c = true then tb σ H1 Q else Q (.bl false) H1) : tAndV ta tb σ H Q := h
theorem orV (h : ta σ H fun x H1 => ∃ c, x = .bl c ∧ if c = true then Q (.bl true) H1 else tb σ H1 Q) : tOrV ta tb σ H Q := h
theorem notV (h : ta σ H fun x H1 => ∃ c, x = .bl c ∧ Q (.bl (!c)) H1) : tNotV ta σ H Q := h
theorem ixL {a : Addr} {xs : List V} {k : Int} (hs : SqL K H a xs) (ha : atI xs k = some v) (h : Q v H) : rIxL K (.ref a) (.int k) H Q := ⟨a, xs, k, v, rfl, rfl, hs, ha, h⟩
theorem ixT {a : Addr} {xs : List V} {k : Int} (hs : SqT K H a xs) (ha : atI xs k = some v) (h : Q v H) : rIxT K (.ref a) (.int k) H Q := ⟨a, xs, k, v, rfl, rfl, hs, ha, h⟩
theorem sub {to ti : TE} {tst : TSet} {Qs : L2.St → Hp → Prop} (h : to σ H fun o H1 => ti σ H1 fun i H2 => tst o i v H2 fun H3 => Qs σ H3) : gSub to ti tst v σ H Qs := h
theorem setL {a : Addr} {xs : List V} {j : Nat} {QH : Hp → Prop} (hl : H a = some (.lst xs)) (hj : j < xs.length) (h : QH (upd H a (.lst (xs.set j v)))) : rSetL (.ref a) (.int (j : Int)) v H QH := ⟨a, xs, (j : Int), j, rfl, rfl, hl, ixN_nat hj, h⟩
theorem bits (h : ta σ H fun x H1 => ∃ i, x = .int i ∧ Q (.int (Builtin.Int.intBits i : Nat)) H1) : tBits ta σ H Q := h
theorem exint {a : Int} {QI : Int → Prop} (h : QI a) : ∃ i, V.int a = .int i ∧ QI i := ⟨a, rfl, h⟩
theorem prop {C : Addr} {sp : Sp} {dvs : List V} {E : XK} (h : ta σ H fun x H1 => ∃ a dx fs, x = .ref a ∧ H1 a = some (.ins C dx fs) ∧ sp (.ref a :: dvs) H1 Q E) : tProp C sp dvs E ta σ H Q := h
theorem fld {f : Str} (h : ta σ H fun x H1 => ∃ a C dx fs v, x = .ref a ∧ H1 a = some (.ins C dx fs) ∧ Cls K C ∧ NoAttr K C f ∧ fs.lookup f = some v ∧ Q v H1) : tFld K ta f σ H Q := h
theorem meth {C : Addr} {m : Str} {sp : Sp} {dvs : List V} {E : XK} {tg : TA} (h : ta σ H fun x H1 => ∃ a dx fs, x = .ref a ∧ H1 a = some (.ins C dx fs) ∧ fs.lookup m = none ∧ tg σ H1 fun vs H2 => sp (x :: (vs ++ dvs)) H2 Q E) : tMeth C m sp dvs E ta tg σ H Q := h
theorem cInt1 {a : Int} {P1 : Int → Prop} {P2 : Bool → Prop} (h : P1 a) : (∃ i, [V.int a] = [V.int i] ∧ P1 i) ∨ (∃ k, [V.int a] = [V.bl k] ∧ P2 k) := .inl ⟨a, rfl, h⟩
theorem cI1 {a : Int} {P1 : Int → Prop} (h : P1 a) : ∃ i, [V.int a] = [V.int i] ∧ P1 i := ⟨a, rfl, h⟩
theorem cI2 {a b : Int} {P1 : Int → Int → Prop} (h : P1 a b) : ∃ i j, [V.int a, V.int b] = [V.int i, V.int j] ∧ P1 i j := ⟨a, b, rfl, h⟩
theorem isN {x : V} {P1 : V → Prop} (h : P1 (.bl (decide (x = .non)))) : (V.non = .non ∧ P1 (.bl (decide (x = .non)))) := ⟨rfl, h⟩
theorem isi_ii {a : Int} (h : Q (.bl true) H) : rIsi K [V.int a, V.ty "int"] H Q := ⟨_, _, _, _, true, rfl, .ty _, .base (.int a), kit_ty (by decide +kernel), h⟩
theorem isi_ib {a : Int} (h : Q (.bl false) H) : rIsi K [V.int a, V.ty "bool"] H Q := ⟨_, _, _, _, false, rfl, .ty _, .base (.int a), kit_ty (by decide +kernel), h⟩
theorem isi_tt {a : Addr} {xs : List V} (hx : H a = some (.tup xs)) (h : Q (.bl true) H) : rIsi K [V.ref a, V.ty "tuple"] H Q := ⟨_, _, _, _, true, rfl, .ty _, .base (.tup hx), kit_ty (by decide +kernel), h⟩
theorem isi_nt (h : Q (.bl false) H) : rIsi K [V.non, V.ty "tuple"] H Q := ⟨_, _, _, _, false, rfl, .ty _, .base .non, kit_ty (by decide +kernel), h⟩
theorem isi_ni (h : Q (.bl false) H) : rIsi K [V.non, V.ty "int"] H Q := ⟨_, _, _, _, false, rfl, .ty _, .base .non, kit_ty (by decide +kernel), h⟩
theorem isi_ll {a : Addr} {xs : List V} (hx : H a = some (.lst xs)) (h : Q (.bl true) H) : rIsi K [V.ref a, V.ty "list"] H Q := ⟨_, _, _, _, true, rfl, .ty _, .base (.lst hx), kit_ty (by decide +kernel), h⟩
theorem isi_lt {a : Addr} {xs : List V} (hx : H a = some (.lst xs)) (h : Q (.bl false) H) : rIsi K [V.ref a, V.ty "tuple"] H Q := ⟨_, _, _, _, false, rfl, .ty _, .base (.lst hx), kit_ty (by decide +kernel), h⟩
theorem isi_tl {a : Addr} {xs : List V} (hx : H a = some (.tup xs)) (h : Q (.bl false) H) : rIsi K [V.ref a, V.ty "list"] H Q := ⟨_, _, _, _, false, rfl, .ty _, .base (.tup hx), kit_ty (by decide +kernel), h⟩
theorem raise1 {C : Addr} {f : Str} {W : WX} {tg : TA} (h : tg σ H fun vs H1 => ∃ v, vs = [v] ∧ ∀ d, H1 d = none → W (.ref C) (some d) σ (upd H1 d (.xd [(f, v)]))) : tRaise1 C f W tg D σ H := h
theorem raise0 {C : Addr} {W : WX} (h : W (.ref C) none σ H) : tRaise0 C W D σ H := h
theorem exv {v : V} {P1 : V → Prop} (h : P1 v) : ∃ y, [v] = [y] ∧ P1 y := ⟨v, rfl, h⟩
def Turn (W : Nat → L2.St → Hp → Prop) (m : Nat) (tb : TS) (D : Ends) (σ : L2.St) (H : Hp) : Prop := ∃ N : L2.St → Hp → Prop, (∀ σ' H', N σ' H' → ∃ m', m' < m ∧ W m' σ' H') ∧ tb { D with nx := N, ct := N, bk := D.nx } σ H
theorem whl {tt : TT} {tb : TS} (W : Nat → L2.St → Hp → Prop) (m0 : Nat) (h0 : W m0 σ H)
    (hs : ∀ m σ H, W m σ H → tt σ H fun b H1 => if b = true then Turn W m tb D σ H1 else D.nx σ H1) : tWhile tt tb D σ H := ⟨W, ⟨m0, h0⟩, hs⟩
theorem turn {tb : TS} {W : Nat → L2.St → Hp → Prop} {m : Nat} (h : tb { D with nx := fun σ' H' => ∃ m', m' < m ∧ W m' σ' H', ct := fun σ' H' => ∃ m', m' < m ∧ W m' σ' H', bk := D.nx } σ H) : Turn W m tb D σ H := ⟨_, fun _ _ z => z, h⟩
def FW (J : It) (g : TG) (tb : TS) (D : Ends) (σ : L2.St) (H1 : Hp) : Prop := ∃ W : Nat → Nat → L2.St → Hp → Prop, (∃ m, W 0 m σ H1) ∧ ∀ i m σ H, W i m σ H →
  (J.stop i H ∧ D.nx σ H) ∨ (J.go i H ∧ ∃ N : L2.St → Hp → Prop, (∀ σ' H', N σ' H' → ∃ m', m' < m ∧ W (i + 1) m' σ' H') ∧ ∀ x H', J.yld i H x H' → g x σ H' fun σ2 H2 => tb { D with nx := N, ct := N, bk := D.nx } σ2 H2)
theorem for' {wi : TI} {g : TG} {tb : TS} (h : wi σ H fun J H1 => FW J g tb D σ H1) : tFor wi g tb D σ H := h
theorem rng1 {tg : TA} {R : It → Hp → Prop} (h : tg σ H fun vs H1 => ∃ j : Int, vs = [.int j] ∧ -(2 ^ 62) ≤ j ∧ j < 2 ^ 62 ∧ R (Itr 0 j.toNat) H1) : iRng1 tg σ H R := h
theorem rng2 {tg : TA} {R : It → Hp → Prop} (h : tg σ H fun vs H1 => ∃ i j : Int, vs = [.int i, .int j] ∧ (-(2 ^ 62) ≤ i ∧ i < 2 ^ 62 ∧ -(2 ^ 62) ≤ j ∧ j < 2 ^ 62) ∧ R (Itr i (j - i).toNat) H1) : iRng2 tg σ H R := h
theorem rngI {z : Int} {g : TG} {tb : TS} (n : Nat) (e : z = (n : Int)) (hn : n < 2 ^ 62) (h : FW (Itr 0 n) g tb D σ H) : -(2 ^ 62) ≤ z ∧ z < 2 ^ 62 ∧ FW (Itr 0 z.toNat) g tb D σ H := by
  subst e
  exact ⟨by omega, by omega, h⟩
theorem rngNN {x y : Int} (a n : Nat) {g : TG} {tb : TS} (ex : x = (a : Int)) (ey : y = (n : Int)) (ha : a < 2 ^ 62) (hn : n < 2 ^ 62) (h : FW (Itr a (n - a)) g tb D σ H) :
    (-(2 ^ 62) ≤ x ∧ x < 2 ^ 62 ∧ -(2 ^ 62) ≤ y ∧ y < 2 ^ 62) ∧ FW (Itr x (y - x).toNat) g tb D σ H := by
  subst ex ey
  exact ⟨by omega, by
    have e : ((n : Int) - (a : Int)).toNat = n - a := by omega
    rw [e]; exact h⟩
theorem fwR {tb : TS} {n : Nat} (Pv : Nat → L2.St → Hp → Prop) (h0 : Pv 0 σ H)
    (hs : ∀ k σ H, k < n → Pv k σ H → tb { D with nx := Pv (k + 1), ct := Pv (k + 1), bk := D.nx } (σ.set i (some (.int (k : Int)))) H) (hd : ∀ σ H, Pv n σ H → D.nx σ H) : FW (Itr 0 n) (gName i) tb D σ H :=
  for_range (lo := 0) (n := n) Pv h0 (fun k σ' H' hk pk => by
    have e0 : (0 : Int) + (k : Int) = (k : Int) := Int.zero_add _
    show tb { D with nx := Pv (k + 1), ct := Pv (k + 1), bk := D.nx } (σ'.set i (some (.int ((0 : Int) + (k : Int))))) H'
    rw [e0]
    exact hs k σ' H' hk pk) hd
theorem fwRa {tb : TS} {a n : Nat} (Pv : Nat → L2.St → Hp → Prop) (h0 : Pv a σ H) (hn : a ≤ n)
    (hs : ∀ k σ H, a ≤ k → k < n → Pv k σ H → tb { D with nx := Pv (k + 1), ct := Pv (k + 1), bk := D.nx } (σ.set i (some (.int (k : Int)))) H) (hd : ∀ σ H, Pv n σ H → D.nx σ H) : FW (Itr a (n - a)) (gName i) tb D σ H :=
  for_range (lo := a) (n := n - a) (fun k => Pv (a + k)) h0 (fun k σ' H' hk pk => by
    have e0 : ((a : Nat) : Int) + (k : Int) = ((a + k : Nat) : Int) := rfl
    show tb { D with nx := Pv (a + (k + 1)), ct := Pv (a + (k + 1)), bk := D.nx } (σ'.set i (some (.int (((a : Nat) : Int) + (k : Int))))) H'
    rw [e0]
    exact hs (a + k) σ' H' (by omega) (by omega) pk) (fun σ' H' p => hd σ' H' (by
      have e : a + (n - a) = n := by omega
      rw [e] at p; exact p))
theorem ilist {tl : TE} {R : It → Hp → Prop} (h : tl σ H fun x H1 => ∃ a, x = .ref a ∧ (∃ xs, SqL K H1 a xs) ∧ R (Itl K a) H1) : iList K tl σ H R := h
theorem itup {tl : TE} {R : It → Hp → Prop} (h : tl σ H fun x H1 => ∃ a, x = .ref a ∧ (∃ xs, SqT K H1 a xs) ∧ R (Itt K a) H1) : iTup K tl σ H R := h
theorem ilistN {a : Addr} {xs : List V} {g : TG} {tb : TS} (hs : SqL K H a xs) (h : FW (Itl K a) g tb D σ H) : ∃ b, V.ref a = .ref b ∧ (∃ xs, SqL K H b xs) ∧ FW (Itl K b) g tb D σ H := ⟨a, rfl, ⟨xs, hs⟩, h⟩
theorem itupN {a : Addr} {xs : List V} {g : TG} {tb : TS} (hs : SqT K H a xs) (h : FW (Itt K a) g tb D σ H) : ∃ b, V.ref a = .ref b ∧ (∃ xs, SqT K H b xs) ∧ FW (Itt K b) g tb D σ H := ⟨a, rfl, ⟨xs, hs⟩, h⟩
theorem fwL {a : Addr} {xs : List V} {tb : TS} (Pv : Nat → L2.St → Hp → Prop) (h0 : Pv 0 σ H) (hl : ∀ k σ H, k ≤ xs.length → Pv k σ H → SqL K H a xs)
    (hs : ∀ k x σ H, xs[k]? = some x → Pv k σ H → tb { D with nx := Pv (k + 1), ct := Pv (k + 1), bk := D.nx } (σ.set i (some x)) H) (hd : ∀ σ H, Pv xs.length σ H → D.nx σ H) : FW (Itl K a) (gName i) tb D σ H :=
  for_list Pv h0 hl hs hd
theorem fwT {a : Addr} {xs : List V} {tb : TS} (Pv : Nat → L2.St → Hp → Prop) (h0 : Pv 0 σ H) (hl : ∀ k σ H, k ≤ xs.length → Pv k σ H → SqT K H a xs)
    (hs : ∀ k x σ H, xs[k]? = some x → Pv k σ H → tb { D with nx := Pv (k + 1), ct := Pv (k + 1), bk := D.nx } (σ.set i (some x)) H) (hd : ∀ σ H, Pv xs.length σ H → D.nx σ H) : FW (Itt K a) (gName i) tb D σ H :=
  for_tup Pv h0 hl hs hd
theorem par {j : Nat} {tg : TA} (h : tg σ H fun vs H1 => ∃ v w, vs = [v, w] ∧ D.nx ((σ.set i (some v)).set j (some w)) H1) : tPar i j tg D σ H := h
theorem parN {w : V} {Qn : V → V → Prop} (h : Qn v w) : ∃ a b, [v, w] = [a, b] ∧ Qn a b := ⟨v, w, rfl, h⟩
theorem pe_gI {z : Int} {s : Str} {pos : Pos} (hg : Gl X s) (hm : ∃ tk, X.mg s = some (.int z tk)) (hd : (s == ("__debug__" : Str)) = false := by decide) : PE X (.Name s pos) (tC (.int z)) := by
  obtain ⟨tk, hm⟩ := hm
  exact pe_glob hg hm ⟨tk, rfl⟩ hd
theorem cut {Mid : L2.St → Hp → Prop} (h : ts { D with nx := Mid } σ H) (k : ∀ σ' H', Mid σ' H' → us D σ' H') : tCut ts us D σ H := ⟨Mid, h, k⟩
end
end KR
namespace PySem
namespace KX
open Builtin
theorem meets_enum1 {v : Value} {o : Obj} {H : Heap → Prop} (B : Begins v o H) :
    Meets (Builtin.«enumerate.__new__» ⟨[.type "enumerate", v], []⟩) (fun _ R s => H s.heap ∧
      R (.ok (.ret (.ref (s.heap.push o).objs.size))) { s with heap := (s.heap.push o).push { cls := .type "enumerate", data := .fields #[.none, .bool false, .ref s.heap.objs.size, rawInt 0, .none, .none] } }) :=
  .of_wp fun prog w A R s h => by
    obtain ⟨hp, g, d, tk, os⟩ := s
    obtain ⟨h1, h⟩ := h
    have hsub := sub_enumerate
    have q1 : ∀ {A' : Around} {E : Value → Shared → Prop} {Q : Value → Shared → Prop}, Q (.ref hp.objs.size) ⟨hp.push o, g, d, tk, os⟩ → wpAny (model prog w) A' (pyIter v) Q E ⟨hp, g, d, tk, os⟩ := fun q => B.iter prog w _ _ ⟨hp, g, d, tk, os⟩ _ h1 q
    wp_walk using q1
    refine wpAny_stack_any fun st => wpAny_pure ?_
    split
    · rename_i c _ _ _ _ _
      cases (c == Value.type "enumerate")
      · wp_walk using q1
        exact ⟨_, rfl, h⟩
      · wp_walk using q1
        exact ⟨_, rfl, h⟩
    · wp_walk using q1
      exact ⟨_, rfl, h⟩
section
variable {prog : Program} {w : World} {A : Around} {E : Value → Shared → Prop} {s : Shared}
theorem call_enum1 {v : Value} {o : Obj} {H : Heap → Prop} {Q : Value → Shared → Prop} (B : Begins v o H) (h1 : H s.heap)
    (h : ∀ h', IsEnum h' (s.heap.objs.size + 1) s.heap.objs.size 0 .none → h'.get? s.heap.objs.size = some o → (∀ b o, s.heap.get? b = some o → h'.get? b = some o) → Q (.ref (s.heap.objs.size + 1)) { s with heap := h' }) :
    wpAny (model prog w) A (call (.type "enumerate") [v]) Q E s := by
  refine callType_new F.called_enumerate (by decide) (F.typeCall_enumerate_1 _) (F.newCall_enumerate_1 _) (fun obj => F.args_object_init_2 obj _) F.entry_enumerate_new (meets_enum1 B) ⟨h1, ?_⟩
  have hz : (s.heap.push o).objs.size = s.heap.objs.size + 1 := Heap.size_push ..
  show _ ∧ _
  rw [hz]
  have he : IsEnum ((s.heap.push o).push { cls := .type "enumerate", data := .fields #[.none, .bool false, .ref s.heap.objs.size, rawInt 0, .none, .none] }) (s.heap.objs.size + 1) s.heap.objs.size 0 .none := by
    have := Heap.get?_push_size (s.heap.push o) (o := { cls := .type "enumerate", data := .fields #[.none, .bool false, .ref s.heap.objs.size, rawInt 0, .none, .none] }) rfl
    rw [hz] at this
    exact this
  exact ⟨⟨_, he, rfl⟩, h _ he (Heap.get?_push_of_some _ (Heap.get?_push_size _ B.free)) fun b o x => Heap.get?_push_of_some _ (Heap.get?_push_of_some _ x)⟩
end
end KX
end PySem
namespace L2
open PySem PySem.Spec PyProof.Rows
def IteT (K : PySem.W.Frag) (a : Addr) : It :=
  ⟨fun i H => ∃ (xs : List V) (x : V), SqT K H a xs ∧ xs[i]? = some x, fun i H v H' => ∃ T x, v = .ref T ∧ H T = none ∧ H' = upd H T (.tup [.int (i : Nat), x]) ∧ ∀ xs, SqT K H a xs → xs[i]? = some x, fun i H => ∃ xs : List V, SqT K H a xs ∧ xs.length ≤ i⟩
theorem turn_enumT {P : Program} {w : World} {K : PySem.W.Frag} {elts : List Expr} {kk : Nat} {tpos : Pos} (a e it : Addr) :
    Turn P w K (.Tuple elts kk tpos) (IteT K a) [e, it] e (fun i h => (∃ old, IsEnum h e it ((i : Nat) : Int) old) ∧ h.IsTupleIter it a i ∧ e ≠ it) where
  mem := by simp
  obj := fun i h st b hb => by
    obtain ⟨⟨old, he⟩, ⟨o, ho, hc, hd⟩, _⟩ := st
    have e' : b = e ∨ b = it := by simpa using hb
    rcases e' with z | z
    · rw [z]; exact ⟨_, he, fun v q => nomatch q⟩
    · rw [z]; exact ⟨o, ho, fun v q => by rw [hd] at q; cases q⟩
  keep := fun i h h' st k => by
    obtain ⟨⟨old, he⟩, hi, hne⟩ := st
    exact ⟨⟨old, k e (by simp) _ he⟩, hi.at fun o q => k it (by simp) o q, hne⟩
  item := by
    intro X hP hw hK hc i pins s σ H E I hf st hg
    subst hP hw hK
    obtain ⟨⟨old, he⟩, hit, hne⟩ := st
    obtain ⟨xs, x, hq, hx⟩ := hg
    obtain ⟨its, rv, p, hz⟩ := I.tuple hq
    have pT : s.heap.IsTuple a its.toArray := p
    obtain ⟨u, hu, ru⟩ := rv.get hx
    have hel : e < s.heap.objs.size := Heap.lt_size he
    have hil : it < s.heap.objs.size := by
      obtain ⟨_, q, _⟩ := hit
      exact Heap.lt_size q
    have hia : a ≠ it := fun z => by
      obtain ⟨o, ho, hoc, _⟩ := hit
      obtain ⟨o2, ho2, hc2, _⟩ := pT
      rw [z, ho] at ho2
      cases ho2
      rw [hoc] at hc2
      injection hc2 with z2
      exact absurd z2 (by decide)
    have hea : e ≠ a := fun z => by
      obtain ⟨o2, ho2, hc2, _⟩ := pT
      rw [← z, he] at ho2
      cases ho2
      injection hc2 with z2
      exact absurd z2 (by decide)
    have hh : X.A.in1.handled = none := I.ok.hd hc
    have hlt : i < its.toArray.size := by
      have h1 := (List.getElem?_eq_some_iff.mp hu).1
      simpa using h1
    refine wpAny_pyNext_enum_itemD (Draws.tuple hh it a hia its.toArray) he ⟨hit, pT⟩ hlt hne (by simp [hne, hea]) fun y h' tk hy ho hit' hT hsz hk => ?_
    have ey : y = u := by
      have hy' : its.toArray[i]? = some y := hy
      have hy2 : its[i]? = some y := by simpa using hy'
      rw [hu] at hy2
      exact (Option.some.inj hy2).symm
    subst ey
    refine ⟨_, rfl, wpAny_letOwnedTupleGo_enum (s := { s with heap := h', toks := tk + 1 }) ho fun h'' he' sb => ?_⟩
    have hT2 : h''.get? s.heap.objs.size = some { cls := .type "tuple", data := .seq #[.int i tk, y] } := (sb.2 _ (Nat.ne_of_gt hel)).trans hT
    have new : ObjOk X.prog X.w (upd H s.heap.objs.size (.tup [.int (i : Nat), x])) h'' s.heap.objs.size (.tup [.int (i : Nat), x]) :=
      ⟨by show 2 ≤ sizeLine; decide, [.int i tk, y], .cons ⟨_, rfl⟩ (.cons ru .nil), ⟨_, hT2, rfl, _, rfl⟩⟩
    have I1 : Inv X pins σ (upd H s.heap.objs.size (.tup [.int (i : Nat), x])) { s with heap := h'', toks := tk + 1 } :=
      I.turnedNew (ch := [e, it]) (fun b ob hb q => (sb.2 b (fun z => hb (by simp [z]))).trans (hk b ob (fun z => hb (by simp [z])) (fun z => hb (by simp [z])) q)) hf (Nat.le_refl _) new
    refine ⟨.ref s.heap.objs.size, _, I1, rfl, ⟨_, x, rfl, I.hok.fresh (Nat.le_refl _), rfl, fun ys hy => by rw [I.tuple_inj hy hq]; exact hx⟩, ⟨⟨y, ?_⟩, hit'.1.at fun o q => (sb.2 it (Ne.symm hne)).trans q, hne⟩, fun b hb => ?_⟩
    · have e1 : ((i + 1 : Nat) : Int) = (i : Int) + 1 := by omega
      rw [e1]; exact he'
    · have hb' : b < s.heap.objs.size := by
        have e' : b = e ∨ b = it := by simpa using hb
        rcases e' with z | z
        · rw [z]; exact hel
        · rw [z]; exact hil
      rw [upd_ne (Nat.ne_of_lt hb')]
      exact (hf b hb).1
  done := by
    intro X hP hw hK hc i pins s σ H E I hf st hg
    subst hP hw hK
    obtain ⟨⟨old, he⟩, hit, hne⟩ := st
    obtain ⟨xs, hq, hx⟩ := hg
    obtain ⟨its, rv, p, hz⟩ := I.tuple hq
    have pT : s.heap.IsTuple a its.toArray := p
    obtain ⟨f0, f1, f2, f3, f4, f5⟩ := hf it (by simp)
    have hl := rv.length
    have hT : s.TypeIs (.ref e) "enumerate" := ⟨_, he, rfl⟩
    have hh : X.A.in1.handled = none := I.ok.hd hc
    unfold pyNext
    refine wpAny_bind (wpAny_attempt (wpAny_callSpecial?_slot (name := Str.ofString "__next__") hT F.slot_enumerate_next (wpAny_call_entry F.slot_enumerate_next hT F.entry_enumerate_next ?_ (F.args_enumerate_next_1 _))))
    show wpAny _ _ (field (.ref e) 2 >>= _) _ _ _
    refine wpAny_bind (wpAny_field he rfl (x := .ref it) rfl ?_)
    refine wpAny_bind (wpAny_nextOf_tuple_end hh hit pT (by simp; omega) fun h' x he' hx' => ?_)
    obtain ⟨o, ho, hc'⟩ := hx'
    refine wpAny_bind (wpAny_isInstance (T := "StopIteration") (b := true) ⟨o, ho, hc'⟩ isSubtype_stop ?_)
    exact wpAny_pure ⟨rfl, I.turned (t' := s.toks) (fun b o hb q => he' b o hb q) f0 f1 f3 f4 f5⟩
  self := fun A i s Q E st h => by
    obtain ⟨⟨_, he⟩, _⟩ := st
    exact wpAny_pyIter_enum he h
def iEnumT (K : PySem.W.Frag) (ta : TA) : TI := fun σ H R => ta σ H fun vs H1 => ∃ a xs, vs = [.ref a] ∧ SqT K H1 a xs ∧ R (IteT K a) H1
theorem pi_enumT {X : Cx} {e : Expr} {ta : TA} {p pos tpos : Pos} {elts : List Expr} {kk : Nat} (hg : Gl X "enumerate") (hm : X.mg "enumerate" = none) (ha : PA X [e] ta) (hs : starEach [e] X.env = [(false, eval e X.env)] := by rfl) :
    PI X (.Tuple elts kk tpos) (.Call (.Name "enumerate" p) [e] [] pos) (iEnumT X.K ta) := by
  refine ⟨fun pins s σ H R I h => ?_⟩
  refine Call_ (ld_blt I hg hm boot_enumerate (PyProof.Rows.callWith_type1 (thn (ha.run pos pins s σ H _ I h) fun us s1 ⟨vs, H1, I1, r1, q1⟩ => ?_) hs rfl))
  obtain ⟨a, xs, ex, hq, q⟩ := q1
  subst ex
  cases r1 with
  | cons r rr =>
    cases rr
    cases r
    obtain ⟨its, rv, p', hz⟩ := I1.tuple hq
    refine PySem.KX.call_enum1 (begins_tuple a its.toArray) (show s1.heap.IsTuple a its.toArray from p') fun h' he hit hk => wpAny_pyIter_enum he ?_
    have I2 : Inv X pins σ H1 { s1 with heap := h' } := I1.kept (t' := s1.toks) hk
    refine ⟨s1.heap.objs.size + 1, [s1.heap.objs.size + 1, s1.heap.objs.size], _, _, H1, rfl, I2, turn_enumT a (s1.heap.objs.size + 1) s1.heap.objs.size, ⟨⟨.none, he⟩, ⟨_, hit, rfl, rfl⟩, Nat.succ_ne_self _⟩, fun b hb => ?_, q⟩
    have e' : b = s1.heap.objs.size + 1 ∨ b = s1.heap.objs.size := by simpa using hb
    have hle : s1.heap.objs.size ≤ b := by
      rcases e' with z | z
      · rw [z]; exact Nat.le_add_right _ _
      · rw [z]; exact Nat.le_refl _
    exact I1.fpOk hle (I1.hok.fresh hle)
end L2
namespace KR
open PySem PySem.Spec L2
theorem ienT {K : PySem.W.Frag} {tg : TA} {σ : L2.St} {H : Hp} {R : It → Hp → Prop} (h : tg σ H fun vs H1 => ∃ a xs, vs = [.ref a] ∧ SqT K H1 a xs ∧ R (IteT K a) H1) : iEnumT K tg σ H R := h
theorem fwET {K : PySem.W.Frag} {D : Ends} {σ : L2.St} {H : Hp} {i j : Nat} {a : Addr} {xs : List V} {tb : TS} (Pv : Nat → L2.St → Hp → Prop) (h0 : Pv 0 σ H) (hl : ∀ k σ H, k ≤ xs.length → Pv k σ H → SqT K H a xs)
    (hs : ∀ k x σ H T, xs[k]? = some x → Pv k σ H → H T = none → tb { D with nx := Pv (k + 1), ct := Pv (k + 1), bk := D.nx } ((σ.set i (some (.int (k : Int)))).set j (some x)) (upd H T (.tup [.int (k : Int), x]))) (hd : ∀ σ H, Pv xs.length σ H → D.nx σ H) :
    FW (IteT K a) (gTup K 2 (gCons (gName i) (gCons (gName j) gNil))) tb D σ H := by
  refine ⟨fun k m σ H => m = xs.length - k ∧ k ≤ xs.length ∧ Pv k σ H, ⟨_, rfl, Nat.zero_le _, h0⟩, ?_⟩
  rintro k m σ H ⟨rfl, hk, p⟩
  have q := hl k σ H hk p
  by_cases hlt : k < xs.length
  · refine .inr ⟨⟨xs, xs[k], q, by simp [hlt]⟩, Pv (k + 1), fun σ' H' p' => ⟨xs.length - (k + 1), by omega, rfl, hlt, p'⟩, fun x H' hy => ?_⟩
    obtain ⟨T, y, rfl, nT, rfl, hy⟩ := hy
    exact ⟨T, _, rfl, .inl (.inl upd_same), rfl, _, _, rfl, _, _, rfl, rfl, hs k y σ H T (hy xs q) p nT⟩
  · exact .inl ⟨⟨xs, q, by omega⟩, hd σ H (by
      have e : k = xs.length := by omega
      rw [e] at p; exact p)⟩
end KR
namespace KR
open PySem PySem.Spec L2
section
variable {X : Cx} {K : PySem.W.Frag} {σ : L2.St} {H : Hp} {D : Ends} {tt : TT} {te : TE} {Q : VK} {i j : Nat} {v x y : V} {vs : List Nat}
def LW (J : It) (g : TG) (tt : TT) (te : TE) (vs : List Nat) (σ : L2.St) (Q : VK) (H1 : Hp) : Prop := ∀ D, H1 D = none → ∃ W : Nat → Nat → Hp → Prop, (∃ m, W 0 m (upd H1 D (.lst []))) ∧ ∀ i m H, W i m H →
  (J.stop i H ∧ Q (.ref D) H) ∨ (J.go i H ∧ ∃ Nx : Hp → Prop, (∀ H', Nx H' → ∃ m', m' < m ∧ W (i + 1) m' H') ∧ ∀ x H', J.yld i H x H' → g x (wipe σ vs) H' fun σ2 H2 => wipe σ2 vs = wipe σ vs ∧ tt σ2 H2 fun b H3 =>
    if b = true then te σ2 H3 fun y H4 => ∃ acc, H4 D = some (.lst acc) ∧ acc.length < sizeLine ∧ Nx (upd H4 D (.lst (acc ++ [y]))) else Nx H3)
theorem lc {wi : TI} {g : TG} (h : wi σ H fun J H1 => LW J g tt te vs σ Q H1) : tLc wi g tt te vs σ H Q := h
theorem lrngI {z : Int} {g : TG} (n : Nat) (e : z = (n : Int)) (hn : n < 2 ^ 62) (h : LW (Itr 0 n) g tt te vs σ Q H) : -(2 ^ 62) ≤ z ∧ z < 2 ^ 62 ∧ LW (Itr 0 z.toNat) g tt te vs σ Q H := by
  subst e
  exact ⟨by omega, by omega, h⟩
theorem lrngNN {x y : Int} (a n : Nat) {g : TG} (ex : x = (a : Int)) (ey : y = (n : Int)) (ha : a < 2 ^ 62) (hn : n < 2 ^ 62) (h : LW (Itr a (n - a)) g tt te vs σ Q H) :
    (-(2 ^ 62) ≤ x ∧ x < 2 ^ 62 ∧ -(2 ^ 62) ≤ y ∧ y < 2 ^ 62) ∧ LW (Itr x (y - x).toNat) g tt te vs σ Q H := by
  subst ex ey
  exact ⟨by omega, by
    have e : ((n : Int) - (a : Int)).toNat = n - a := by omega
    rw [e]; exact h⟩
theorem llistN {a : Addr} {xs : List V} {g : TG} (hs : SqL K H a xs) (h : LW (Itl K a) g tt te vs σ Q H) : ∃ b, V.ref a = .ref b ∧ (∃ xs, SqL K H b xs) ∧ LW (Itl K b) g tt te vs σ Q H := ⟨a, rfl, ⟨xs, hs⟩, h⟩
theorem ltupN {a : Addr} {xs : List V} {g : TG} (hs : SqT K H a xs) (h : LW (Itt K a) g tt te vs σ Q H) : ∃ b, V.ref a = .ref b ∧ (∃ xs, SqT K H b xs) ∧ LW (Itt K b) g tt te vs σ Q H := ⟨a, rfl, ⟨xs, hs⟩, h⟩
def giv (f : Nat → Bool) (v : Nat → V) (a : Nat) : Nat → List V
  | 0 => []
  | k + 1 => giv f v a k ++ (if f (a + k) = true then [v (a + k)] else [])
theorem giv_len (f : Nat → Bool) (v : Nat → V) (a : Nat) : ∀ k, (giv f v a k).length ≤ k
  | 0 => Nat.le_refl _
  | k + 1 => by
    have ih := giv_len f v a k
    unfold giv
    rw [List.length_append]
    split
    · show _ + 1 ≤ _
      omega
    · show _ + 0 ≤ _
      omega
theorem giv_all {f : Nat → Bool} (v : Nat → V) (h : ∀ k, f k = true) : ∀ n, giv f v 0 n = (List.range n).map v
  | 0 => rfl
  | n + 1 => by
    unfold giv
    rw [Nat.zero_add, if_pos (h n), giv_all v h n, List.range_succ, List.map_append]
    rfl
theorem lturn {f : Bool} {z : V} {D0 : Addr} {acc : List V} {Hk : Hp} {σ2 : L2.St} {Nx : Hp → Prop} (hD : H D0 = none) (e : Evl.Ex H Hk) (hk : Hk D0 = some (.lst acc)) (hl : acc.length < 100000) (ht : Evl.EvT tt σ2 H f) (he : f = true → Evl.Ev te σ2 H z)
    (q1 : ∀ H4, f = true → Evl.Ex H H4 → H4 D0 = some (.lst acc) → Nx (upd H4 D0 (.lst (acc ++ [z])))) (q2 : ∀ H4, f = false → Evl.Ex H H4 → H4 D0 = some (.lst acc) → Nx H4) :
    tt σ2 Hk fun b H3 => if b = true then te σ2 H3 fun y H4 => ∃ acc, H4 D0 = some (.lst acc) ∧ acc.length < sizeLine ∧ Nx (upd H4 D0 (.lst (acc ++ [y]))) else Nx H3 := by
  refine ht Hk e _ fun H3 e3 => ?_
  cases f with
  | true =>
    rw [if_pos rfl]
    exact he rfl H3 (e.trans e3) _ fun H4 e4 => ⟨acc, e4 D0 _ (e3 D0 _ hk), Evl.sz_lt hl, q1 H4 rfl ((e.trans e3).trans e4) (e4 D0 _ (e3 D0 _ hk))⟩
  | false =>
    rw [if_neg Bool.false_ne_true]
    exact q2 H3 rfl (e.trans e3) (e3 D0 _ hk)
theorem lwR {a n : Nat} (f : Nat → Bool) (v : Nat → V) (hn : n < 50000) (hw : ∀ x, wipe ((wipe σ vs).set j (some x)) vs = wipe σ vs)
    (ht : ∀ k H1, Evl.Ex H H1 → a ≤ k → k < n → Evl.EvT tt ((wipe σ vs).set j (some (.int (k : Int)))) H1 (f k)) (he : ∀ k H1, Evl.Ex H H1 → a ≤ k → k < n → f k = true → Evl.Ev te ((wipe σ vs).set j (some (.int (k : Int)))) H1 (v k))
    (hd : ∀ p H2, H p = none → Evl.Ex H H2 → H2 p = some (.lst (giv f v a (n - a))) → Q (.ref p) H2) : LW (Itr a (n - a)) (gName j) tt te vs σ Q H := fun D0 hD => by
  refine lc_range (lo := a) (n := n - a) (fun k H' => Evl.Ex H H' ∧ H' D0 = some (.lst (giv f v a k))) ⟨Evl.Ex.new hD, upd_same⟩ (fun k H' hk ⟨e, h'⟩ => ?_) (fun H' ⟨e, h'⟩ => hd D0 H' hD e h')
  have e0 : ((a : Nat) : Int) + (k : Int) = ((a + k : Nat) : Int) := rfl
  show wipe ((wipe σ vs).set j (some (.int (((a : Nat) : Int) + (k : Int))))) vs = wipe σ vs ∧ _
  refine ⟨hw _, ?_⟩
  show tt ((wipe σ vs).set j (some (.int (((a : Nat) : Int) + (k : Int))))) H' _
  rw [e0]
  have hle := giv_len f v a k
  refine lturn hD e h' (by omega) (ht (a + k) H (Evl.Ex.refl H) (by omega) (by omega)) (fun hf => he (a + k) H (Evl.Ex.refl H) (by omega) (by omega) hf) (fun H4 hf e4 h4 => ?_) (fun H4 hf e4 h4 => ?_)
  · refine ⟨Evl.Ex.mut e4 hD, ?_⟩
    rw [upd_same]
    show _ = some (HO.lst (giv f v a k ++ (if f (a + k) = true then [v (a + k)] else [])))
    rw [if_pos hf]
  · refine ⟨e4, ?_⟩
    show _ = some (HO.lst (giv f v a k ++ (if f (a + k) = true then [v (a + k)] else [])))
    rw [if_neg (by rw [hf]; decide), List.append_nil]
    exact h4
theorem lwL {a : Addr} {xs : List V} (f : Nat → Bool) (v : Nat → V) (hx : SqL K H a xs) (hn : xs.length < 50000) (hw : ∀ x, wipe ((wipe σ vs).set j (some x)) vs = wipe σ vs)
    (ht : ∀ k x H1, Evl.Ex H H1 → xs[k]? = some x → Evl.EvT tt ((wipe σ vs).set j (some x)) H1 (f k)) (he : ∀ k x H1, Evl.Ex H H1 → xs[k]? = some x → f k = true → Evl.Ev te ((wipe σ vs).set j (some x)) H1 (v k))
    (hd : ∀ p H2, H p = none → Evl.Ex H H2 → H2 p = some (.lst (giv f v 0 xs.length)) → Q (.ref p) H2) : LW (Itl K a) (gName j) tt te vs σ Q H := fun D0 hD => by
  refine lc_list (xs := xs) (fun k H' => Evl.Ex H H' ∧ H' D0 = some (.lst (giv f v 0 k))) ⟨Evl.Ex.new hD, upd_same⟩ (fun k H' _ ⟨e, _⟩ => Evl.ex_l e hx) (fun k x H' hk ⟨e, h'⟩ => ?_) (fun H' ⟨e, h'⟩ => hd D0 H' hD e h')
  refine ⟨hw _, ?_⟩
  show tt ((wipe σ vs).set j (some x)) H' _
  have hle := giv_len f v 0 k
  have hlt := (List.getElem?_eq_some_iff.mp hk).1
  refine lturn hD e h' (by omega) (ht k x H (Evl.Ex.refl H) hk) (fun hf => he k x H (Evl.Ex.refl H) hk hf) (fun H4 hf e4 h4 => ?_) (fun H4 hf e4 h4 => ?_)
  · refine ⟨Evl.Ex.mut e4 hD, ?_⟩
    rw [upd_same]
    show _ = some (HO.lst (giv f v 0 k ++ (if f (0 + k) = true then [v (0 + k)] else [])))
    rw [Nat.zero_add, if_pos hf]
  · refine ⟨e4, ?_⟩
    show _ = some (HO.lst (giv f v 0 k ++ (if f (0 + k) = true then [v (0 + k)] else [])))
    rw [Nat.zero_add, if_neg (by rw [hf]; decide), List.append_nil]
    exact h4
theorem etYes : Evl.EvT tYes σ H true := fun H1 _ Q q => q H1 (Evl.Ex.refl H1)
theorem ev_of (h : ∀ H1, Evl.Ex H H1 → ∀ Q : VK, (∀ H2, Evl.Ex H1 H2 → Q v H2) → te σ H1 Q) : Evl.Ev te σ H v := h
theorem et_of {b : Bool} (h : ∀ H1, Evl.Ex H H1 → ∀ Q : Bool → Hp → Prop, (∀ H2, Evl.Ex H1 H2 → Q b H2) → tt σ H1 Q) : Evl.EvT tt σ H b := h
theorem truL {K : PySem.W.Frag} {a : Addr} {xs : List V} {P1 : Bool → Prop} (hs : SqL K H a xs) (h : P1 (!xs.isEmpty)) : ∃ k, TruV K (.ref a) H k ∧ P1 k := ⟨_, .inl ⟨xs, hs, rfl⟩, h⟩
theorem truLb {K : PySem.W.Frag} {a : Addr} {xs : List V} {P1 : Bool → Prop} (b : Bool) (hs : SqL K H a xs) (hb : b = !xs.isEmpty) (h : P1 b) : ∃ k, TruV K (.ref a) H k ∧ P1 k := ⟨_, .inl ⟨xs, hs, hb⟩, h⟩
theorem truI {K : PySem.W.Frag} {z : Int} {P1 : Bool → Prop} (h : P1 (z != 0)) : ∃ k, TruV K (.int z) H k ∧ P1 k := ⟨_, rfl, h⟩
theorem isNo {P1 : Prop} (h : P1) : V.non = V.non ∧ P1 := ⟨rfl, h⟩
section
variable {A B : Prop}
theorem nnT (h : A) : if decide (V.non = V.non) = true then A else B := by rw [if_pos (by decide)]; exact h
theorem niF {z : Int} (h : B) : if decide (V.int z = V.non) = true then A else B := by rw [if_neg (by rw [decide_eq_false (by intro q; cases q)]; decide)]; exact h
theorem nrF {a : Addr} (h : B) : if decide (V.ref a = V.non) = true then A else B := by rw [if_neg (by rw [decide_eq_false (by intro q; cases q)]; decide)]; exact h
theorem mnT (h : B) : if (!decide (V.non = V.non)) = true then A else B := by rw [if_neg (by decide)]; exact h
theorem miF {z : Int} (h : A) : if (!decide (V.int z = V.non)) = true then A else B := by rw [if_pos (by rw [decide_eq_false (by intro q; cases q)]; rfl)]; exact h
theorem mrF {a : Addr} (h : A) : if (!decide (V.ref a = V.non)) = true then A else B := by rw [if_pos (by rw [decide_eq_false (by intro q; cases q)]; rfl)]; exact h
end
theorem whlF {ts : TS} (ht : ∀ QB : Bool → Hp → Prop, QB false H → tt σ H QB) (h : D.nx σ H) : tWhile tt ts D σ H :=
  ⟨fun m σ' H' => σ' = σ ∧ H' = H, ⟨0, rfl, rfl⟩, fun m σ' H' ⟨e1, e2⟩ => by
    subst e1 e2
    exact ht _ (by rw [if_neg Bool.false_ne_true]; exact h)⟩
theorem ifF {ts us : TS} (ht : ∀ QB : Bool → Hp → Prop, QB false H → tt σ H QB) (h : us D σ H) : tIfS tt ts us D σ H := ht _ (by rw [if_neg Bool.false_ne_true]; exact h)
theorem ifT {ts us : TS} (ht : ∀ QB : Bool → Hp → Prop, QB true H → tt σ H QB) (h : ts D σ H) : tIfS tt ts us D σ H := ht _ (by rw [if_pos rfl]; exact h)
theorem ifFx {ts us : TS} (ht : ∀ QB : Bool → Hp → Prop, (∀ H2, Evl.Ex H H2 → QB false H2) → tt σ H QB) (h : ∀ H2, Evl.Ex H H2 → us D σ H2) : tIfS tt ts us D σ H := ht _ (fun H2 e => by rw [if_neg Bool.false_ne_true]; exact h H2 e)
theorem ifTx {ts us : TS} (ht : ∀ QB : Bool → Hp → Prop, (∀ H2, Evl.Ex H H2 → QB true H2) → tt σ H QB) (h : ∀ H2, Evl.Ex H H2 → ts D σ H2) : tIfS tt ts us D σ H := ht _ (fun H2 e => by rw [if_pos rfl]; exact h H2 e)
theorem sfld {K : PySem.W.Frag} {ta tv : TE} {f : Str} (h : tv σ H fun y H1 => ta σ H1 fun x H2 => ∃ a C dx fs, x = .ref a ∧ H2 a = some (.ins C dx fs) ∧ Cls K C ∧ NoAttr K C f ∧ fs.length < 1000 ∧ D.nx σ (upd H2 a (.ins C dx (putF f y fs)))) : sFld K ta tv f D σ H := h
theorem sl {r : V → Option Int → Option Int → Hp → VK → Prop} {tl th : TO} (h : te σ H fun x H1 => tl σ H1 fun l H2 => th σ H2 fun u H3 => r x l u H3 Q) : tSl r te tl th σ H Q := h
theorem part {QO : Option Int → Hp → Prop} (h : te σ H fun x H1 => ∃ i, x = .int i ∧ QO (some i) H1) : tPart te σ H QO := h
theorem nopart {QO : Option Int → Hp → Prop} (h : QO none H) : tNoPart σ H QO := h
theorem slL {K : PySem.W.Frag} {a : Addr} {xs : List V} {lo hi : Option Int} (hs : SqL K H a xs) (h : ∀ p, H p = none → Q (.ref p) (upd H p (.lst (cutV xs lo hi)))) : rSlL K (.ref a) lo hi H Q := ⟨a, xs, rfl, hs, h⟩
theorem ix_tupK {K : PySem.W.Frag} (h : X.K = K) : IxR X (rIxT K) := by
  subst h
  exact ix_tup
theorem ix_listK {K : PySem.W.Frag} (h : X.K = K) : IxR X (rIxL K) := by
  subst h
  exact ix_list
theorem len_seqK {K : PySem.W.Frag} (h : X.K = K) : CallR X (.builtin "len") (fun xs H Q => ∃ p ys, xs = [.ref p] ∧ (SqL K H p ys ∨ SqT K H p ys) ∧ Q (.int ys.length) H) := by
  subst h
  exact call_len_seq
theorem pe_fldK {K : PySem.W.Frag} {e : Expr} {f : Str} {pos : Pos} {ta : TE} (h : X.K = K) (he : PE X e ta) (hb : attributeBase e f X.env (eval e X.env) = eval e X.env) : PE X (.Attribute e f pos) (tFld K ta f) := by
  subst h
  exact pe_fld he hb
end
end KR
namespace L2
open PySem PySem.Spec PyProof.Rows
def eqkb (k : Bool) (v : Value) : Bool := match v with
  | .bool b => b == k
  | _ => false
variable {X : Cx}
def rCntB (K : PySem.W.Frag) : V → List V → Hp → VK → Prop := fun x xs H Q => ∃ (p : Addr) (bs : List Bool) (k : Bool), x = .ref p ∧ xs = [.bl k] ∧ SqL K H p (bs.map V.bl) ∧ Q (.int (bs.count k : Nat)) H
theorem vals_bls : ∀ {bs : List Bool} {us : List Value}, Vals (bs.map V.bl) us → us = bs.map Value.bool
  | [], _, .nil => rfl
  | b :: bs, _, .cons r rs => by
    have e := vals_bls rs
    have e1 : _ = Value.bool b := r
    rw [e, e1]
    rfl
theorem eqkb_count (k : Bool) : ∀ bs : List Bool, (bs.map Value.bool).countP (eqkb k) = bs.count k
  | [] => rfl
  | b :: bs => by
    have ih := eqkb_count k bs
    rw [List.map_cons, List.countP_cons, List.count_cons, ih] <;> rfl
theorem mt_bcount : MtR X "list.count" (rCntB X.K) := by
  intro pins s σ H x xs v us Q I rx rxs h
  obtain ⟨p, bs, k, rfl, rfl, hs, q⟩ := h
  cases rx
  obtain ⟨u, rfl, ru⟩ := rxs.one
  obtain rfl : u = Value.bool k := ru
  obtain ⟨its, rv, ⟨⟨cls, dd, data, sl⟩, n, ho, hc, hdn, hd⟩, hlen⟩ := I.list hs
  simp only at hc hd
  subst hc hd
  have hi := vals_bls rv
  refine call_meets PySem.F.slot_list_count ⟨_, ho, rfl⟩ PySem.F.entry_list_count (PySem.F.args_list_count_2 _ _)
    (SeqAt.list_countAt p its.toArray n dd sl (.bool k) (eqkb k)) ⟨ho, fun y hy => ?_, ?_⟩
  · have hy' : y ∈ its := by simpa using hy
    rw [hi] at hy'
    obtain ⟨b, _, rfl⟩ := List.mem_map.mp hy'
    exact SeqAt.EqAt.bool_bool b k
  have ec : its.toArray.toList.countP (eqkb k) = bs.count k := by
    show its.countP (eqkb k) = _
    rw [hi]
    exact eqkb_count k bs
  refine ⟨.int (bs.count k : Nat), H, I.tok _, ⟨s.toks, ?_⟩, q⟩
  show Value.int ((its.toArray.toList.countP (eqkb k) : Nat) : Int) s.toks = Value.int ((bs.count k : Nat) : Int) s.toks
  rw [ec]
end L2
namespace L2
open PySem PySem.Spec PyProof.Rows
def rIsErrE (K : PySem.W.Frag) (a : Addr) (cls : Value) (d : Option Addr) : List V → Hp → VK → Prop := fun xs H Q => ∃ C, rIsErr K C a cls d xs H Q
theorem call_isErrE {X : Cx} {a : Addr} {oe : Obj} {cls : Value} {d : Option Addr} {pn : List (Addr × Obj)} (hz : L2N.Zn cls d oe) (hf : ∃ vs, oe.data = .fields vs) : CallR (X.suite a ((a, oe) :: pn)) (.builtin "isinstance") (rIsErrE X.K a cls d) := by
  intro pins s σ H xs us Q I r h
  obtain ⟨C, h⟩ := h
  exact call_isErr hz.zc hf pins s σ H xs us Q I r h
end L2
namespace KR
open PySem PySem.Spec PyProof.Rows L2
theorem mt_bcountK {X : Cx} {K : PySem.W.Frag} (h : X.K = K) : MtR X "list.count" (rCntB K) := by
  subst h
  exact mt_bcount
end KR
namespace KR
open PySem PySem.Spec PyProof.Rows L2
theorem pe_bmK {X : Cx} {K : PySem.W.Frag} {T : String} {id : String} {name : Str} {o e : Expr} {es : List Expr} {apos cpos : Pos} {r : V → List V → Hp → VK → Prop} {to : TE} {t : TA} (h : X.K = K) (pa : PlainAttrs T) (slot : Slot T name id) (hty : typeOf (.builtin id) = pure (.type "method_descriptor")) (hm : MtR X id r) (ho : PE X o to) (ha : PA X (e :: es) t)
    (hbase : attributeBase o name X.env (eval o X.env) = eval o X.env := by rfl)
    (hfew : ((backTo cpos (starEach (e :: es) X.env)).all (fun x => !x.1) && (backToKw cpos (keywordEach [] X.env)).all (fun x => x.1.isSome)
      && decide ((e :: es).length + ([] : List Keyword).length + (if ([] : List Keyword).isEmpty then 0 else 1) < 30)) = true := by rfl)
    (hline : (apos.endLine == cpos.line) = true := by rfl) (hs : starEach (e :: es) X.env = (false, eval e X.env) :: starEach es X.env := by rfl) (hplain : (backTo cpos (starEach es X.env)).any (·.1) = false := by rfl) :
    PE X (.Call (.Attribute o name apos) (e :: es) [] cpos) (tBM K T r to t) := by
  subst h
  exact pe_bm pa slot hty hm ho ha hbase hfew hline hs hplain
end KR
namespace L2
open PySem PySem.Spec PyProof.Rows
theorem passN {X : Cx} : Passes (L2N.CX X.prog X.w) X E0 := fun _ _ _ _ _ _ _ h => by
  obtain ⟨_, _, _, _, _, _, _, _, _, _, _, _, z⟩ := h
  exact z.elim
theorem takesN0 {X : Cx} : L2N.Takes X (fun _ _ _ _ => False) := fun _ _ x => by
  obtain ⟨_, _, _, _, _, _, _, _, _, _, _, _, _, _, _, _, z⟩ := x
  exact z.elim
theorem Fun.okN {P : Program} {w : World} {K : PySem.W.Frag} {mg : Str → Option Value} {base : Heap} {x qual : Str} {st : Stmt} {f : Addr} {fd : FuncData} {N ps : List Str} {k : Nat} {sp : Sp} (F : Fun K x qual st f fd) (S : FnScope N ps (defScope st)) (len : ∀ vs H Q E, sp vs H Q E → vs.length = ps.length)
    (hbody : ∀ (cdv : Value) (Ar : Around) (outer : List Env) (s : Shared) (H : Hp) (vs : List V) (Q : VK) (E : XK), Room k (Ar.deeper (envOfC qual (defScope st) s.heap.objs.size f cdv)) → sp vs H Q E →
      ∃ t, PSs (cxOf (L2N.CX P w) P w K mg base N qual (defScope st) f cdv Ar outer s H E) (defBody st) t ∧ t { nx := fun _ H' => Q .non H', rt := Q } (start N vs) H) : FnOk P w K mg base (L2N.CX P w) (k + 1) f fd ps sp := by
  obtain ⟨oc, od, kV, doc, pm, an, cdv, ct, osl, rfl, lk, hcd⟩ := F.ex
  exact fn_of lk hcd S len fun Ar outer s H vs Q E hr hsp => hbody cdv Ar outer s H vs Q E hr hsp
theorem Fun.okH {P : Program} {w : World} {K : PySem.W.Frag} {mg : Str → Option Value} {base : Heap} {x qual : Str} {st : Stmt} {f : Addr} {fd : FuncData} {N ps : List Str} {k : Nat} {sp : Sp} (F : Fun K x qual st f fd) (S : FnScope N ps (defScope st)) (len : ∀ vs H Q E, sp vs H Q E → vs.length = ps.length)
    (hbody : ∀ (cdv : Value) (Ar : Around) (outer : List Env) (s : Shared) (H : Hp) (vs : List V) (Q : VK) (E : XK) (p : Addr × Obj), L2H.Hot1 Ar p → L2H.RoomH k (Ar.deeper (envOfC qual (defScope st) s.heap.objs.size f cdv)) → sp vs H Q E →
      ∃ t, PSs (L2H.cxH CX0 P w K mg base N qual (defScope st) f cdv Ar outer s H E p) (defBody st) t ∧ t { nx := fun _ H' => Q .non H', rt := Q } (start N vs) H) : L2H.FnH P w K mg base CX0 (k + 1) f fd ps sp := by
  obtain ⟨oc, od, kV, doc, pm, an, cdv, ct, osl, rfl, lk, hcd⟩ := F.ex
  exact L2H.fn_ofH lk hcd S len fun Ar outer s H vs Q E p hot hr hsp => hbody cdv Ar outer s H vs Q E p hot hr hsp
theorem hot_suite {X : Cx} {a : Addr} {oe : Obj} {cls : Value} {d : Option Addr} {pn : List (Addr × Obj)} (hz : L2N.Zn cls d oe) (hf : ∃ vs, oe.data = .fields vs) : L2H.HotC (X.suite a ((a, oe) :: pn)) := by
  obtain ⟨vs, e⟩ := hf
  exact ⟨(a, oe), ⟨rfl, vs, e, hz.2.2 vs e⟩, List.mem_cons_self⟩
theorem pass0At {X : Cx} {σ : St} : PassesAt CX0 X σ (fun _ _ _ => False) := fun _ _ _ _ _ _ h => h.elim
end L2
namespace KR
open PySem PySem.Spec PyProof.Rows L2
variable {σ : L2.St} {H : Hp} {Q : VK}
theorem callS {sp : Sp} {E : L2.St → XK} {tg : TA} (h : tg σ H fun vs H1 => sp vs H1 Q (E σ)) : tCallS sp E tg σ H Q := h
theorem errF {a C d0 : Addr} {f : Str} {te : TE} (h : te σ H fun x H1 => x = .ref a ∧ ∃ (fs : List (Str × V)) (v : V), H1 d0 = some (.xd fs) ∧ fs.lookup f = some v ∧ Q v H1) : tErrF a C (.ref C) (some d0) f te σ H Q := by
  have hm : ∀ (x : V) (H1 : Hp), (x = .ref a ∧ ∃ (fs : List (Str × V)) (v : V), H1 d0 = some (.xd fs) ∧ fs.lookup f = some v ∧ Q v H1) → (x = .ref a ∧ Value.ref C = .ref C ∧ ∃ (dd : Addr) (fs : List (Str × V)) (v : V), some d0 = some dd ∧ H1 dd = some (.xd fs) ∧ fs.lookup f = some v ∧ Q v H1) :=
    fun x H1 ⟨e, fs, v, h1, h2, q⟩ => ⟨e, rfl, d0, fs, v, rfl, h1, h2, q⟩
  have e : (fun x H1 => x = V.ref a ∧ ∃ (fs : List (Str × V)) (v : V), H1 d0 = some (.xd fs) ∧ fs.lookup f = some v ∧ Q v H1) = (fun x H1 => x = V.ref a ∧ Value.ref C = .ref C ∧ ∃ (dd : Addr) (fs : List (Str × V)) (v : V), some d0 = some dd ∧ H1 dd = some (.xd fs) ∧ fs.lookup f = some v ∧ Q v H1) :=
    funext fun x => funext fun H1 => propext ⟨hm x H1, fun ⟨e, _, dd, fs, v, ed, h1, h2, q⟩ => by cases ed; exact ⟨e, fs, v, h1, h2, q⟩⟩
  show te σ H _
  rw [← e]
  exact h
theorem bcount {K : PySem.W.Frag} {a : Addr} {bs : List Bool} {k : Bool} (hs : SqL K H a (bs.map V.bl)) (h : Q (.int (bs.count k : Nat)) H) : rCntB K (.ref a) [.bl k] H Q := ⟨a, bs, k, rfl, rfl, hs, h⟩
end KR
namespace KR
open PySem PySem.Spec PyProof.Rows L2
variable {σ : L2.St} {H : Hp} {Q : VK}
theorem bm {K : PySem.W.Frag} {T : String} {r : V → List V → Hp → VK → Prop} {to : TE} {t : TA} (h : to σ H fun x H1 => tyV K T x H1 ∧ t σ H1 fun xs H2 => r x xs H2 Q) : tBM K T r to t σ H Q := h
end KR
namespace KR
open PySem PySem.Spec PyProof.Rows L2
variable {σ : L2.St} {H : Hp} {Q : VK}
theorem make {C : Addr} {sp : Sp} {dvs : List V} {E : XK} {tg : TA} (h : tg σ H fun vs H1 => ∀ x dx, H1 x = none → H1 dx = none → dx ≠ x → sp (.ref x :: (vs ++ dvs)) (upd (upd H1 dx (.own x)) x (.ins C dx [])) (fun v H2 => v = .non ∧ Q (.ref x) H2) E) : tMake C sp dvs E tg σ H Q := h
end KR
namespace K7
structure Pr (p : Nat) : Prop where
  two : 2 ≤ p
  irr : ∀ d, d ∣ p → d = 1 ∨ d = p
theorem Pr.cop {p a : Nat} (h : Pr p) (ha : ¬ p ∣ a) : Nat.Coprime p a := by
  rcases h.irr (Nat.gcd p a) (Nat.gcd_dvd_left p a) with e | e
  · exact e
  · exact absurd (e ▸ Nat.gcd_dvd_right p a) ha
theorem Pr.mul {p a b : Nat} (h : Pr p) (hd : p ∣ a * b) : p ∣ a ∨ p ∣ b := by
  by_cases ha : p ∣ a
  · exact .inl ha
  · exact .inr (Nat.Coprime.dvd_of_dvd_mul_left (h.cop ha) hd)
theorem Pr.copPow {p a : Nat} (h : Pr p) (ha : ¬ p ∣ a) (k : Nat) : Nat.Coprime (p ^ k) a := Nat.Coprime.pow_left k (h.cop ha)
def vN (p : Nat) (n : Nat) : Nat := if h : 2 ≤ p ∧ 0 < n ∧ n % p = 0 then vN p (n / p) + 1 else 0
termination_by n
decreasing_by exact Nat.div_lt_self h.2.1 h.1
theorem vN_step {p n : Nat} (hp : 2 ≤ p) (hn : 0 < n) (h : n % p = 0) : vN p n = vN p (n / p) + 1 := by
  rw [vN, dif_pos ⟨hp, hn, h⟩]
theorem vN_zero {p n : Nat} (h : n % p ≠ 0) : vN p n = 0 := by
  rw [vN, dif_neg (fun z => h z.2.2)]
theorem vN_mulp {p n : Nat} (hp : 2 ≤ p) (hn : 0 < n) : vN p (p * n) = vN p n + 1 := by
  rw [vN_step hp (Nat.mul_pos (by omega) hn) (Nat.mul_mod_right p n), Nat.mul_div_cancel_left n (by omega)]
theorem vN_pow {p r : Nat} (hp : 2 ≤ p) (hr : 0 < r) : ∀ v, vN p (p ^ v * r) = v + vN p r
  | 0 => by rw [Nat.pow_zero, Nat.one_mul, Nat.zero_add]
  | v + 1 => by
    rw [Nat.pow_succ, Nat.mul_assoc, Nat.mul_comm p r, ← Nat.mul_assoc, Nat.mul_comm _ p, vN_mulp hp (Nat.mul_pos (Nat.pow_pos (by omega)) hr), vN_pow hp hr v]
    omega
theorem vN_form {p : Nat} (hp : 2 ≤ p) : ∀ n, 0 < n → ∃ r, n = p ^ vN p n * r ∧ 0 < r ∧ r % p ≠ 0 := fun n => by
  induction n using Nat.strongRecOn with
  | ind n ih =>
    intro hn
    by_cases h : n % p = 0
    · have hd : n / p < n := Nat.div_lt_self hn hp
      have hpos : 0 < n / p := Nat.div_pos (Nat.le_of_dvd hn (Nat.dvd_of_mod_eq_zero h)) (by omega)
      obtain ⟨r, e, hr, hr2⟩ := ih (n / p) hd hpos
      refine ⟨r, ?_, hr, hr2⟩
      rw [vN_step hp hn h, Nat.pow_succ, Nat.mul_assoc, Nat.mul_comm p r, ← Nat.mul_assoc, ← e]
      exact (Nat.div_mul_cancel (Nat.dvd_of_mod_eq_zero h)).symm
    · exact ⟨n, by rw [vN_zero h, Nat.pow_zero, Nat.one_mul], hn, h⟩
theorem vN_unique {p v r n : Nat} (hp : 2 ≤ p) (e : n = p ^ v * r) (hr : r % p ≠ 0) : vN p n = v := by
  have hr0 : 0 < r := by
    rcases Nat.eq_zero_or_pos r with z | z
    · rw [z, Nat.zero_mod] at hr; exact absurd rfl hr
    · exact z
  rw [e, vN_pow hp hr0, vN_zero hr, Nat.add_zero]
theorem vN_mul {p a b : Nat} (h : Pr p) (ha : 0 < a) (hb : 0 < b) : vN p (a * b) = vN p a + vN p b := by
  obtain ⟨r, e1, r0, r1⟩ := vN_form h.two a ha
  obtain ⟨s, e2, s0, s1⟩ := vN_form h.two b hb
  refine vN_unique h.two (r := r * s) ?_ fun z => ?_
  · rw [Nat.pow_add]
    calc a * b = (p ^ vN p a * r) * (p ^ vN p b * s) := by rw [← e1, ← e2]
      _ = p ^ vN p a * p ^ vN p b * (r * s) := by
        rw [Nat.mul_assoc, Nat.mul_left_comm r, Nat.mul_assoc]
  · rcases h.mul (Nat.dvd_of_mod_eq_zero z) with q | q
    · exact r1 (Nat.mod_eq_zero_of_dvd q)
    · exact s1 (Nat.mod_eq_zero_of_dvd q)
theorem pow_le_vN {p n k : Nat} (hp : 2 ≤ p) (hn : 0 < n) (h : p ^ k ∣ n) : k ≤ vN p n := by
  obtain ⟨c, e⟩ := h
  have hc : 0 < c := by
    rcases Nat.eq_zero_or_pos c with z | z
    · rw [z, Nat.mul_zero] at e; omega
    · exact z
  rw [e, vN_pow hp hc]
  omega
theorem vN_dvd {p n : Nat} (hp : 2 ≤ p) (hn : 0 < n) : p ^ vN p n ∣ n := by
  obtain ⟨r, e, _⟩ := vN_form hp n hn
  exact ⟨r, e⟩
theorem vN_lt_pow {p n : Nat} (hp : 2 ≤ p) (hn : 0 < n) : p ^ vN p n ≤ n := Nat.le_of_dvd hn (vN_dvd hp hn)
def S (p : Nat) : Nat → Nat → Nat
  | 0, _ => 0
  | J + 1, n => n % p + S p J (n / p)
def L (p : Nat) : Nat → Nat → Nat
  | 0, _ => 0
  | J + 1, n => n / p + L p J (n / p)
def C (p : Nat) : Nat → Nat → Nat → Nat → Nat
  | 0, _, _, _ => 0
  | J + 1, a, b, c => (a % p + b % p + c) / p + C p J (a / p) (b / p) ((a % p + b % p + c) / p)
theorem S_zero (p : Nat) : ∀ J, S p J 0 = 0
  | 0 => rfl
  | J + 1 => by rw [S, Nat.zero_mod, Nat.zero_div, S_zero p J]
theorem L_zero (p : Nat) : ∀ J, L p J 0 = 0
  | 0 => rfl
  | J + 1 => by rw [L, Nat.zero_div, L_zero p J]
theorem C_zero {p : Nat} (hp : 2 ≤ p) : ∀ J c, c ≤ 1 → C p J 0 0 c = 0
  | 0, _, _ => rfl
  | J + 1, c, h => by
    have e : (0 % p + 0 % p + c) / p = 0 := by
      rw [Nat.zero_mod, Nat.zero_add]
      exact Nat.div_eq_of_lt (by omega)
    rw [C, e, Nat.zero_div, C_zero hp J 0 (by omega)]
theorem div_lt_pow {p n J : Nat} (hp : 2 ≤ p) (h : n < p ^ (J + 1)) : n / p < p ^ J := by
  rw [Nat.pow_succ] at h
  exact Nat.div_lt_of_lt_mul (by rw [Nat.mul_comm]; exact h)
theorem S_fuel {p : Nat} (hp : 2 ≤ p) : ∀ J n, n < p ^ J → ∀ J', n < p ^ J' → S p J n = S p J' n
  | 0, n, h, J', _ => by
    have e : n = 0 := by rw [Nat.pow_zero] at h; omega
    rw [e, S_zero, S_zero]
  | J + 1, n, h, 0, h' => by
    have e : n = 0 := by rw [Nat.pow_zero] at h'; omega
    rw [e, S_zero, S_zero]
  | J + 1, n, h, J' + 1, h' => by rw [S, S, S_fuel hp J (n / p) (div_lt_pow hp h) J' (div_lt_pow hp h')]
theorem L_fuel {p : Nat} (hp : 2 ≤ p) : ∀ J n, n < p ^ J → ∀ J', n < p ^ J' → L p J n = L p J' n
  | 0, n, h, J', _ => by
    have e : n = 0 := by rw [Nat.pow_zero] at h; omega
    rw [e, L_zero, L_zero]
  | J + 1, n, h, 0, h' => by
    have e : n = 0 := by rw [Nat.pow_zero] at h'; omega
    rw [e, L_zero, L_zero]
  | J + 1, n, h, J' + 1, h' => by rw [L, L, L_fuel hp J (n / p) (div_lt_pow hp h) J' (div_lt_pow hp h')]
theorem carry_le {p a b c : Nat} (hp : 2 ≤ p) (hc : c ≤ 1) : (a % p + b % p + c) / p ≤ 1 := by
  have h1 := Nat.mod_lt a (show p > 0 by omega)
  have h2 := Nat.mod_lt b (show p > 0 by omega)
  have : (a % p + b % p + c) / p < 2 := Nat.div_lt_of_lt_mul (by omega)
  omega
theorem C_fuel {p : Nat} (hp : 2 ≤ p) : ∀ J a b c, c ≤ 1 → a < p ^ J → b < p ^ J → ∀ J', a < p ^ J' → b < p ^ J' → C p J a b c = C p J' a b c
  | 0, a, b, c, hc, ha, hb, J', _, _ => by
    rw [Nat.pow_zero] at ha hb
    have e : a = 0 := by omega
    have e2 : b = 0 := by omega
    rw [e, e2, C_zero hp _ _ hc, C_zero hp _ _ hc]
  | J + 1, a, b, c, hc, ha, hb, 0, h1, h2 => by
    rw [Nat.pow_zero] at h1 h2
    have e : a = 0 := by omega
    have e2 : b = 0 := by omega
    rw [e, e2, C_zero hp _ _ hc, C_zero hp _ _ hc]
  | J + 1, a, b, c, hc, ha, hb, J' + 1, h1, h2 => by
    rw [C, C, C_fuel hp J (a / p) (b / p) _ (carry_le hp hc) (div_lt_pow hp ha) (div_lt_pow hp hb) J' (div_lt_pow hp h1) (div_lt_pow hp h2)]
theorem S_L {p : Nat} (hp : 2 ≤ p) : ∀ J n, n < p ^ J → n = S p J n + (p - 1) * L p J n
  | 0, n, h => by
    rw [Nat.pow_zero] at h
    have e : n = 0 := by omega
    rw [e]; rfl
  | J + 1, n, h => by
    have ih := S_L hp J (n / p) (div_lt_pow hp h)
    have e := Nat.div_add_mod n p
    rw [S, L, Nat.mul_add]
    have e2 : p * (n / p) = (p - 1) * (n / p) + n / p := by
      rw [← Nat.succ_mul]
      congr 1
      omega
    omega
theorem step_sum {p a b c : Nat} (hp : 2 ≤ p) : (a + b + c) % p = (a % p + b % p + c) % p ∧ (a + b + c) / p = a / p + b / p + (a % p + b % p + c) / p := by
  have e1 := Nat.div_add_mod a p
  have e2 := Nat.div_add_mod b p
  have e : a + b + c = (a % p + b % p + c) + p * (a / p + b / p) := by
    rw [Nat.mul_add]
    omega
  constructor
  · rw [e, Nat.add_mul_mod_self_left]
  · rw [e, Nat.add_mul_div_left _ _ (show 0 < p by omega)]
    omega
theorem S_C {p : Nat} (hp : 2 ≤ p) : ∀ J a b c, a + b + c < p ^ J → S p J a + S p J b + c = S p J (a + b + c) + (p - 1) * C p J a b c
  | 0, a, b, c, h => by
    rw [Nat.pow_zero] at h
    have e1 : a = 0 := by omega
    have e2 : b = 0 := by omega
    have e3 : c = 0 := by omega
    rw [e1, e2, e3]; rfl
  | J + 1, a, b, c, h => by
    obtain ⟨m1, m2⟩ := step_sum (a := a) (b := b) (c := c) hp
    have ih := S_C hp J (a / p) (b / p) ((a % p + b % p + c) / p) (by rw [← m2]; exact div_lt_pow hp h)
    rw [← m2] at ih
    rw [S, S, S, C, m1, Nat.mul_add]
    have e := Nat.div_add_mod (a % p + b % p + c) p
    have e2 : p * ((a % p + b % p + c) / p) = (p - 1) * ((a % p + b % p + c) / p) + (a % p + b % p + c) / p := by
      rw [← Nat.succ_mul]
      congr 1
      omega
    omega
theorem L_C {p : Nat} (hp : 2 ≤ p) (J a b : Nat) (h : a + b < p ^ J) : L p J (a + b) = L p J a + L p J b + C p J a b 0 := by
  have h1 := S_L hp J (a + b) h
  have h2 := S_L hp J a (by omega)
  have h3 := S_L hp J b (by omega)
  have h4 := S_C hp J a b 0 h
  rw [Nat.add_zero, Nat.add_zero] at h4
  have e : (p - 1) * L p J (a + b) = (p - 1) * (L p J a + L p J b + C p J a b 0) := by
    rw [Nat.mul_add, Nat.mul_add]
    omega
  exact Nat.eq_of_mul_eq_mul_left (by omega) e
def Cl (p a b : Nat) : Nat → Nat → Nat
  | 0, _ => 0
  | J + 1, s => (if s ≤ a % s + b % s then 1 else 0) + Cl p a b J (s * p)
def cin (p a b k : Nat) : Nat := if p ^ k ≤ a % p ^ k + b % p ^ k then 1 else 0
theorem cin_le (p a b k : Nat) : cin p a b k ≤ 1 := by unfold cin; split <;> omega
theorem cin_next {p a b k : Nat} (hp : 2 ≤ p) : ((a / p ^ k) % p + (b / p ^ k) % p + cin p a b k) / p = cin p a b (k + 1) := by
  have hq : 0 < p ^ k := Nat.pow_pos (by omega)
  have e1 : a % p ^ (k + 1) = a % p ^ k + p ^ k * (a / p ^ k % p) := by rw [Nat.pow_succ, Nat.mod_mul]
  have e2 : b % p ^ (k + 1) = b % p ^ k + p ^ k * (b / p ^ k % p) := by rw [Nat.pow_succ, Nat.mod_mul]
  unfold cin
  rw [e1, e2]
  have l1 := Nat.mod_lt a hq
  have l2 := Nat.mod_lt b hq
  have d1 := Nat.mod_lt (a / p ^ k) (show p > 0 by omega)
  have d2 := Nat.mod_lt (b / p ^ k) (show p > 0 by omega)
  generalize a % p ^ k = x at *
  generalize b % p ^ k = y at *
  generalize a / p ^ k % p = u at *
  generalize b / p ^ k % p = v at *
  have ep : p ^ (k + 1) = p ^ k * p := Nat.pow_succ p k
  rw [ep]
  generalize p ^ k = q at *
  by_cases c : q ≤ x + y
  · rw [if_pos c]
    by_cases d : p ≤ u + v + 1
    · have : q * p ≤ x + q * u + (y + q * v) := by
        have := Nat.mul_le_mul_left q d
        rw [Nat.mul_add, Nat.mul_add, Nat.mul_one] at this
        omega
      rw [if_pos this]
      have e3 : (u + v + 1) / p = 1 := by
        rw [Nat.div_eq_iff (by omega)]; omega
      exact e3
    · have : ¬ q * p ≤ x + q * u + (y + q * v) := by
        have := Nat.mul_le_mul_left q (show u + v + 2 ≤ p by omega)
        rw [Nat.mul_add, Nat.mul_add] at this
        omega
      rw [if_neg this]
      exact Nat.div_eq_of_lt (by omega)
  · rw [if_neg c, Nat.add_zero]
    by_cases d : p ≤ u + v
    · have : q * p ≤ x + q * u + (y + q * v) := by
        have := Nat.mul_le_mul_left q d
        rw [Nat.mul_add] at this
        omega
      rw [if_pos this, Nat.div_eq_iff (by omega)]; omega
    · have : ¬ q * p ≤ x + q * u + (y + q * v) := by
        have := Nat.mul_le_mul_left q (show u + v + 1 ≤ p by omega)
        rw [Nat.mul_add, Nat.mul_add, Nat.mul_one] at this
        omega
      rw [if_neg this]
      exact Nat.div_eq_of_lt (by omega)
theorem C_Cl {p a b : Nat} (hp : 2 ≤ p) : ∀ J k, C p J (a / p ^ k) (b / p ^ k) (cin p a b k) = Cl p a b J (p ^ (k + 1))
  | 0, _ => rfl
  | J + 1, k => by
    rw [C, Cl, cin_next hp]
    have e1 : a / p ^ k / p = a / p ^ (k + 1) := by rw [Nat.div_div_eq_div_mul, Nat.pow_succ]
    have e2 : b / p ^ k / p = b / p ^ (k + 1) := by rw [Nat.div_div_eq_div_mul, Nat.pow_succ]
    rw [e1, e2, C_Cl hp J (k + 1), ← Nat.pow_succ]
    rfl
theorem Cl_C {p a b : Nat} (hp : 2 ≤ p) (J : Nat) : Cl p a b J p = C p J a b 0 := by
  have h := C_Cl (a := a) (b := b) hp J 0
  have e : cin p a b 0 = 0 := by
    unfold cin
    rw [Nat.pow_zero, Nat.mod_one, Nat.mod_one]
    rfl
  rw [e, Nat.pow_zero, Nat.div_one, Nat.div_one, Nat.zero_add, Nat.pow_one] at h
  exact h.symm
def fac : Nat → Nat
  | 0 => 1
  | n + 1 => (n + 1) * fac n
theorem fac_pos : ∀ n, 0 < fac n
  | 0 => Nat.one_pos
  | n + 1 => Nat.mul_pos (Nat.succ_pos n) (fac_pos n)
theorem L_succ {p : Nat} (hp : 2 ≤ p) : ∀ J n, n + 1 < p ^ J → L p J (n + 1) = L p J n + vN p (n + 1)
  | 0, n, h => by rw [Nat.pow_zero] at h; omega
  | J + 1, n, h => by
    rw [L, L]
    by_cases hd : (n + 1) % p = 0
    · have e : (n + 1) / p = n / p + 1 := by
        rw [Nat.succ_div, if_pos (Nat.dvd_of_mod_eq_zero hd)]
      have ih := L_succ hp J (n / p) (by rw [← e]; exact div_lt_pow hp h)
      rw [vN_step hp (Nat.succ_pos n) hd, e, ih]
      omega
    · have e : (n + 1) / p = n / p := by
        rw [Nat.succ_div, if_neg (fun z => hd (Nat.mod_eq_zero_of_dvd z)), Nat.add_zero]
      rw [vN_zero hd, e, Nat.add_zero]
theorem vN_fac {p : Nat} (h : Pr p) (J : Nat) : ∀ n, n < p ^ J → vN p (fac n) = L p J n
  | 0, _ => by
    rw [L_zero]
    exact vN_zero (by
      show 1 % p ≠ 0
      rw [Nat.mod_eq_of_lt h.two]
      exact Nat.one_ne_zero)
  | n + 1, hn => by
    rw [fac, vN_mul h (Nat.succ_pos n) (fac_pos n), vN_fac h J n (by omega), L_succ h.two J n hn]
    exact Nat.add_comm _ _
end K7
namespace K7
def D (n : Int) : Nat → Int
  | 0 => 1
  | k + 1 => D n k * (n - k)
def facI (k : Nat) : Int := (fac k : Int)
theorem facI_succ (k : Nat) : facI (k + 1) = facI k * (k + 1) := by
  unfold facI
  rw [fac, Int.natCast_mul, Int.mul_comm]
  rfl
theorem facI_pos (k : Nat) : 0 < facI k := by
  have := fac_pos k
  unfold facI; omega
theorem D_front (n : Int) : ∀ k : Nat, D n (k + 1) = n * D (n - 1) k
  | 0 => by simp [D]
  | k + 1 => by
    have ih := D_front n k
    rw [D, ih, D]
    rw [Int.mul_assoc]
    congr 1
    congr 1
    push_cast
    omega
theorem D_pascal (n : Int) (k : Nat) : D (n + 1) (k + 1) - D n (k + 1) = (k + 1) * D n k := by
  rw [D_front, D, Int.add_sub_cancel, Int.mul_comm (D n k), ← Int.sub_mul]
  congr 1
  omega
theorem D_zero : ∀ k : Nat, D 0 (k + 1) = 0
  | 0 => by simp [D]
  | k + 1 => by rw [D, D_zero k, Int.zero_mul]
theorem fac_dvd_D : ∀ (k : Nat) (n : Int), facI k ∣ D n k
  | 0, n => ⟨1, by simp [D, facI, fac]⟩
  | k + 1, n => by
    have st : ∀ m : Int, facI (k + 1) ∣ D (m + 1) (k + 1) - D m (k + 1) := fun m => by
      rw [D_pascal, facI_succ, Int.mul_comm]
      exact Int.mul_dvd_mul_left _ (fac_dvd_D k m)
    have up : ∀ t : Nat, facI (k + 1) ∣ D (t : Int) (k + 1) := fun t => by
      induction t with
      | zero =>
        show facI (k + 1) ∣ D 0 (k + 1)
        rw [D_zero]; exact Int.dvd_zero _
      | succ t ih =>
        have h := Int.dvd_add (st (t : Int)) ih
        rw [Int.sub_add_cancel] at h
        exact h
    have down : ∀ t : Nat, facI (k + 1) ∣ D (-(t : Int)) (k + 1) := fun t => by
      induction t with
      | zero =>
        show facI (k + 1) ∣ D 0 (k + 1)
        rw [D_zero]; exact Int.dvd_zero _
      | succ t ih =>
        have h0 := st (-((t + 1 : Nat) : Int))
        have e : -((t + 1 : Nat) : Int) + 1 = -(t : Int) := by push_cast; omega
        rw [e] at h0
        have h := Int.dvd_sub ih h0
        have e2 : D (-(t : Int)) (k + 1) - (D (-(t : Int)) (k + 1) - D (-((t + 1 : Nat) : Int)) (k + 1)) = D (-((t + 1 : Nat) : Int)) (k + 1) := by omega
        rw [e2] at h
        exact h
    rcases Int.eq_nat_or_neg n with ⟨t, rfl | rfl⟩
    · exact up t
    · exact down t
def bz (n : Int) (k : Nat) : Int := D n k / facI k
theorem bz_D (n : Int) (k : Nat) : facI k * bz n k = D n k := Int.mul_ediv_cancel' (fac_dvd_D k n)
theorem fI_cancel {k : Nat} {x y : Int} (h : facI k * x = facI k * y) : x = y := Int.eq_of_mul_eq_mul_left (by have := facI_pos k; omega) h
theorem bz_zero (n : Int) : bz n 0 = 1 := fI_cancel (k := 0) (by rw [bz_D]; rfl)
theorem bz_next (n : Int) (k : Nat) : ((k : Int) + 1) * bz n (k + 1) = bz n k * (n - k) := fI_cancel (k := k) (by
  rw [← Int.mul_assoc, ← facI_succ, bz_D, D, ← Int.mul_assoc, bz_D])
theorem bz_step (n : Int) (k : Nat) : bz n k * (n - k) / ((k : Int) + 1) = bz n (k + 1) := by
  rw [← bz_next]
  exact Int.mul_ediv_cancel_left _ (by omega)
theorem bz_pascal (n : Int) (k : Nat) : bz (n + 1) (k + 1) = bz n (k + 1) + bz n k := fI_cancel (k := k + 1) (by
  have h := D_pascal n k
  rw [Int.mul_add, bz_D, bz_D]
  have e : facI (k + 1) * bz n k = (k + 1) * D n k := by
    rw [facI_succ, Int.mul_comm (facI k), Int.mul_assoc, bz_D]
  rw [e]
  omega)
theorem bz_nil (k : Nat) : bz 0 (k + 1) = 0 := fI_cancel (k := k + 1) (by rw [bz_D, D_zero, Int.mul_zero])
theorem D_small : ∀ (k : Nat) (n : Nat), n < k → D (n : Int) k = 0
  | 0, _, h => absurd h (Nat.not_lt_zero _)
  | k + 1, n, h => by
    rw [D]
    by_cases e : n = k
    · rw [e, Int.sub_self, Int.mul_zero]
    · rw [D_small k n (by omega), Int.zero_mul]
theorem bz_small {k n : Nat} (h : n < k) : bz (n : Int) k = 0 := fI_cancel (k := k) (by rw [bz_D, D_small k n h, Int.mul_zero])
theorem D_fac : ∀ (k n : Nat), k ≤ n → D (n : Int) k * (fac (n - k) : Int) = (fac n : Int)
  | 0, n, _ => by
    show 1 * (fac (n - 0) : Int) = _
    rw [Nat.sub_zero, Int.one_mul]
  | k + 1, n, h => by
    have ih := D_fac k n (by omega)
    have e : n - k = (n - (k + 1)) + 1 := by omega
    rw [e, fac] at ih
    rw [D, Int.mul_assoc, ← ih]
    congr 1
    rw [Int.natCast_mul]
    congr 1
    omega
theorem bz_self (k : Nat) : bz (k : Int) k = 1 := fI_cancel (k := k) (by
  have h := D_fac k k (Nat.le_refl k)
  rw [Nat.sub_self] at h
  rw [bz_D, Int.mul_one]
  have : D (k : Int) k * ((fac 0 : Nat) : Int) = D (k : Int) k := by
    show D (k : Int) k * 1 = _
    exact Int.mul_one _
  rw [this] at h
  exact h)
theorem bz_fac {k n : Nat} (h : k ≤ n) : bz (n : Int) k * (fac k * fac (n - k) : Nat) = (fac n : Int) := by
  have e := bz_D (n : Int) k
  have e2 := D_fac k n h
  rw [← e] at e2
  rw [← e2]
  unfold facI
  rw [Int.natCast_mul, ← Int.mul_assoc, Int.mul_comm (bz (n : Int) k)]
theorem bz_pos {k n : Nat} (h : k ≤ n) : 0 < bz (n : Int) k := by
  have e := bz_fac h
  have h1 := fac_pos n
  have h2 := Nat.mul_pos (fac_pos k) (fac_pos (n - k))
  rcases Int.lt_or_le 0 (bz (n : Int) k) with z | z
  · exact z
  · have : bz (n : Int) k * (fac k * fac (n - k) : Nat) ≤ 0 := Int.mul_nonpos_of_nonpos_of_nonneg z (by omega)
    omega
theorem kummer {p : Nat} (hp : Pr p) {J k n : Nat} (h : k ≤ n) (hJ : n < p ^ J) : vN p (bz (n : Int) k).natAbs = C p J k (n - k) 0 := by
  have e := bz_fac h
  have hb := bz_pos h
  obtain ⟨b, eb⟩ := Int.eq_ofNat_of_zero_le (Int.le_of_lt hb)
  rw [eb] at e hb ⊢
  have e' : b * (fac k * fac (n - k)) = fac n := by exact_mod_cast e
  have hb' : 0 < b := by omega
  have h1 : vN p (fac n) = vN p b + (vN p (fac k) + vN p (fac (n - k))) := by
    rw [← e', vN_mul hp hb' (Nat.mul_pos (fac_pos _) (fac_pos _)), vN_mul hp (fac_pos _) (fac_pos _)]
  rw [vN_fac hp J n hJ, vN_fac hp J k (by omega), vN_fac hp J (n - k) (by omega)] at h1
  have h2 := L_C hp.two J k (n - k) (by omega)
  rw [show k + (n - k) = n by omega] at h2
  show vN p b = _
  omega
theorem D_refl (n : Int) : ∀ i : Nat, D ((i : Int) - n - 1) i = (if i % 2 = 0 then 1 else -1) * D n i
  | 0 => by simp [D]
  | i + 1 => by
    have ih := D_refl n i
    rw [D_front, D]
    have e : (((i + 1 : Nat) : Int) - n - 1 - 1) = (i : Int) - n - 1 := by push_cast; omega
    rw [e, ih]
    have e2 : (((i + 1 : Nat) : Int) - n - 1) = -(n - i) := by push_cast; omega
    rw [e2]
    rcases Nat.mod_two_eq_zero_or_one i with q | q
    · rw [if_pos q, if_neg (by omega), Int.one_mul, Int.neg_mul, Int.neg_mul, Int.one_mul, Int.mul_comm]
    · rw [if_neg (by omega), if_pos (by omega), Int.one_mul, Int.neg_mul, Int.neg_mul, Int.mul_neg, Int.neg_neg, Int.one_mul, Int.mul_comm]
theorem sign_sq (i : Nat) : ((if i % 2 = 0 then 1 else -1 : Int)) * (if i % 2 = 0 then 1 else -1) = 1 := by split <;> rfl
theorem bz_refl (n : Int) (i : Nat) : bz n i = (if i % 2 = 0 then 1 else -1) * bz ((i : Int) - n - 1) i := fI_cancel (k := i) (by
  rw [bz_D, Int.mul_left_comm, bz_D, D_refl, ← Int.mul_assoc, sign_sq, Int.one_mul])
theorem natAbs_sign (i : Nat) (x : Int) : ((if i % 2 = 0 then 1 else -1 : Int) * x).natAbs = x.natAbs := by
  split <;> simp
def vI (p : Nat) (n : Int) : Nat := vN p n.natAbs
def W (n h : Int) : Nat → Nat → Int
  | 0, i => bz h 0 * bz n i
  | j + 1, i => W n h j i + (if j + 1 ≤ i then bz h (j + 1) * bz n (i - (j + 1)) else 0)
end K7
namespace K7
def VS (h : Nat) (n : Int) (i : Nat) : Nat → Int
  | 0 => 0
  | k + 1 => VS h n i k + bz (h : Int) k * bz n (i - k)
theorem VS_zero (n : Int) (i : Nat) : ∀ k, VS 0 n i (k + 1) = bz n i
  | 0 => by
    show 0 + bz ((0 : Nat) : Int) 0 * bz n (i - 0) = _
    rw [bz_zero, Int.zero_add, Int.one_mul, Nat.sub_zero]
  | k + 1 => by
    show VS 0 n i (k + 1) + bz ((0 : Nat) : Int) (k + 1) * bz n (i - (k + 1)) = _
    rw [VS_zero n i k, show ((0 : Nat) : Int) = 0 from rfl, bz_nil, Int.zero_mul, Int.add_zero]
theorem VS_step (h : Nat) (n : Int) (i : Nat) : ∀ k, VS (h + 1) n (i + 1) (k + 1) = VS h n (i + 1) (k + 1) + VS h n i k
  | 0 => by
    show 0 + bz ((h + 1 : Nat) : Int) 0 * bz n (i + 1 - 0) = 0 + bz (h : Int) 0 * bz n (i + 1 - 0) + 0
    rw [bz_zero, bz_zero, Int.add_zero]
  | k + 1 => by
    show VS (h + 1) n (i + 1) (k + 1) + bz ((h + 1 : Nat) : Int) (k + 1) * bz n (i + 1 - (k + 1)) = VS h n (i + 1) (k + 1) + bz (h : Int) (k + 1) * bz n (i + 1 - (k + 1)) + (VS h n i k + bz (h : Int) k * bz n (i - k))
    rw [VS_step h n i k, show ((h + 1 : Nat) : Int) = (h : Int) + 1 from rfl, bz_pascal, Nat.add_sub_add_right, Int.add_mul]
    omega
theorem vand : ∀ (h : Nat) (n : Int) (i : Nat), VS h n i (i + 1) = bz (n + h) i
  | 0, n, i => by
    rw [VS_zero, show n + ((0 : Nat) : Int) = n from Int.add_zero n]
  | h + 1, n, 0 => by
    show 0 + bz ((h + 1 : Nat) : Int) 0 * bz n (0 - 0) = _
    rw [bz_zero, bz_zero, bz_zero]
    rfl
  | h + 1, n, i + 1 => by
    rw [VS_step, vand h n (i + 1), vand h n i, show n + ((h + 1 : Nat) : Int) = (n + h) + 1 by push_cast; omega, bz_pascal]
theorem bz_front (h : Int) (k : Nat) : ((k : Int) + 1) * bz h (k + 1) = h * bz (h - 1) k := fI_cancel (k := k) (by
  rw [← Int.mul_assoc, ← facI_succ, bz_D, D_front, Int.mul_left_comm, bz_D])
theorem choice_deep {p l m h k : Nat} (hp : Pr p) (hd : p ^ m ∣ h) (hk : k + 1 < p ^ (l + 1)) : p ^ (m - l) ∣ (bz (h : Int) (k + 1)).natAbs := by
  obtain ⟨r, e, r0, r1⟩ := vN_form hp.two (k + 1) (Nat.succ_pos k)
  have hv : vN p (k + 1) ≤ l := by
    rcases Nat.lt_or_ge l (vN p (k + 1)) with c | c
    · have h1 := Nat.pow_le_pow_right (show 0 < p by have := hp.two; omega) (show l + 1 ≤ vN p (k + 1) by omega)
      have h2 : p ^ vN p (k + 1) ≤ k + 1 := vN_lt_pow hp.two (Nat.succ_pos k)
      omega
    · exact c
  generalize vN p (k + 1) = v at e hv
  have hf := bz_front (h : Int) k
  have ha : (k + 1) * (bz (h : Int) (k + 1)).natAbs = h * (bz ((h : Int) - 1) k).natAbs := by
    have := congrArg Int.natAbs hf
    rw [Int.natAbs_mul, Int.natAbs_mul, Int.natAbs_natCast] at this
    rw [← this]
    congr 1
  have hdv : p ^ m ∣ (k + 1) * (bz (h : Int) (k + 1)).natAbs := ha ▸ Nat.dvd_trans hd (Nat.dvd_mul_right _ _)
  rcases Nat.lt_or_ge m v with c | c
  · rw [show m - l = 0 by omega, Nat.pow_zero]
    exact Nat.one_dvd _
  · have h3 : p ^ (m - v) ∣ r * (bz (h : Int) (k + 1)).natAbs := by
      generalize (bz (h : Int) (k + 1)).natAbs = B at hdv ⊢
      rw [e, Nat.mul_assoc, show m = v + (m - v) by omega, Nat.pow_add] at hdv
      have := Nat.dvd_of_mul_dvd_mul_left (Nat.pow_pos (n := v) (show 0 < p by have := hp.two; omega)) hdv
      exact this
    have h4 := Nat.Coprime.dvd_of_dvd_mul_left (hp.copPow (fun z => r1 (Nat.mod_eq_zero_of_dvd z)) (m - v)) h3
    exact Nat.dvd_trans (Nat.pow_dvd_pow p (by omega)) h4
theorem VS_deep {p l m h i : Nat} (hp : Pr p) (hd : p ^ m ∣ h) (hi : i < p ^ (l + 1)) (n : Int) : ∀ k, k ≤ i → ((p ^ (m - l) : Nat) : Int) ∣ VS h n i (k + 1) - bz n i
  | 0, _ => by
    have e : VS h n i (0 + 1) = bz n i := by
      show 0 + bz (h : Int) 0 * bz n (i - 0) = _
      rw [bz_zero, Int.zero_add, Int.one_mul, Nat.sub_zero]
    rw [e, Int.sub_self]
    exact Int.dvd_zero _
  | k + 1, hk => by
    have ih := VS_deep hp hd hi n k (by omega)
    have e : VS h n i (k + 1 + 1) - bz n i = (VS h n i (k + 1) - bz n i) + bz (h : Int) (k + 1) * bz n (i - (k + 1)) := by
      show VS h n i (k + 1) + bz (h : Int) (k + 1) * bz n (i - (k + 1)) - bz n i = _
      omega
    rw [e]
    refine Int.dvd_add ih (Int.dvd_mul_of_dvd_left ?_ )
    exact Int.dvd_natAbs.mp (Int.natCast_dvd_natCast.mpr (choice_deep hp hd (by omega)))
theorem near_deep {p l m h i : Nat} (hp : Pr p) (hd : p ^ m ∣ h) (hi : i < p ^ (l + 1)) (n : Int) : p ^ (m - l) ∣ (bz (n + h) i - bz n i).natAbs := by
  have := VS_deep hp hd hi n i (Nat.le_refl i)
  rw [vand] at this
  exact Int.natCast_dvd_natCast.mp (Int.dvd_natAbs.mpr this)
theorem lipschitz {p l i : Nat} (hp : Pr p) (hi : i < p ^ (l + 1)) (n k : Int) (hne : k ≠ n) (hb : bz k i - bz n i ≠ 0) : vI p (k - n) ≤ vI p (bz k i - bz n i) + l := by
  have key : ∀ (x : Int) (h : Nat), 0 < h → bz (x + h) i - bz x i ≠ 0 → vN p h ≤ vN p (bz (x + h) i - bz x i).natAbs + l := fun x h h0 hz => by
    have h1 := near_deep hp (vN_dvd hp.two h0) hi x
    have h2 := pow_le_vN hp.two (by omega) h1
    omega
  unfold vI
  rcases Int.lt_or_lt_of_ne hne with c | c
  · have e : k + ((k - n).natAbs : Int) = n := by omega
    have h1 := key k (k - n).natAbs (by omega) (by rw [e]; omega)
    rw [e] at h1
    have e2 : (bz n i - bz k i).natAbs = (bz k i - bz n i).natAbs := by omega
    rw [e2] at h1
    exact h1
  · have e : n + ((k - n).natAbs : Int) = k := by omega
    have h1 := key n (k - n).natAbs (by omega) (by rw [e]; exact hb)
    rw [e] at h1
    exact h1
theorem pr_list : ∀ p ∈ [2, 3, 5, 7, 11, 13, 17, 19, 23, 29, 31, 37, 41, 43, 47, 53, 59, 61, 67, 71, 73, 79, 83, 89, 97], Pr p := by
  have h : ∀ p ∈ [2, 3, 5, 7, 11, 13, 17, 19, 23, 29, 31, 37, 41, 43, 47, 53, 59, 61, 67, 71, 73, 79, 83, 89, 97], 2 ≤ p ∧ p < 98 ∧ ∀ d, d < 98 → p % d = 0 → d = 1 ∨ d = p := by decide +kernel
  intro p hp
  obtain ⟨h1, h2, h3⟩ := h p hp
  refine ⟨h1, fun d hd => h3 d ?_ (Nat.mod_eq_zero_of_dvd hd)⟩
  have := Nat.le_of_dvd (by omega) hd
  omega
end K7
namespace K7
theorem D_bound {n : Int} (h : n.natAbs < 2 ^ 60) : ∀ k, k ≤ 30 → (D n k).natAbs ≤ (2 ^ 61) ^ k
  | 0, _ => Nat.le_refl 1
  | k + 1, hk => by
    have ih := D_bound h k (by omega)
    rw [D, Int.natAbs_mul, Nat.pow_succ]
    refine Nat.mul_le_mul ih ?_
    have e : (2 : Nat) ^ 61 = 2305843009213693952 := by decide
    have e2 : (2 : Nat) ^ 60 = 1152921504606846976 := by decide
    omega
theorem bz_bound {n : Int} {i : Nat} (h : n.natAbs < 2 ^ 60) (hi : i < 30) : (bz n i).natAbs < 2 ^ 2000 := by
  have h1 := D_bound h i (by omega)
  have h2 := congrArg Int.natAbs (bz_D n i)
  rw [Int.natAbs_mul] at h2
  have h3 : 1 ≤ (facI i).natAbs := by have := facI_pos i; omega
  have h4 := Nat.mul_le_mul_right (bz n i).natAbs h3
  rw [Nat.one_mul] at h4
  have h5 : (2 ^ 61) ^ i < 2 ^ 2000 := by
    rw [← Nat.pow_mul]
    exact Nat.pow_lt_pow_right (by decide) (by omega)
  exact Nat.lt_of_le_of_lt (Nat.le_trans h4 (by rw [h2]; exact h1)) h5
end K7
namespace K7
open PySem PySem.Spec PyProof.Rows L2
def topS (i : Nat) : Stmt := PySem.Challenge.pw_primedeep_k77_choices_by_carries.main.body.getD i (.Pass ⟨0, 0, 0, 0⟩)
abbrev s_look_prime : Stmt := topS 18
theorem sc_look_prime : FnScope ["p"] ["p"] (defScope s_look_prime) := ⟨rfl, rfl, rfl, by decide +kernel, rfl, by decide +kernel, by decide +kernel⟩
abbrev s_look_range : Stmt := topS 19
theorem sc_look_range : FnScope ["number", "low", "high"] ["number", "low", "high"] (defScope s_look_range) := ⟨rfl, rfl, rfl, by decide +kernel, rfl, by decide +kernel, by decide +kernel⟩
abbrev s_look_size : Stmt := topS 20
theorem sc_look_size : FnScope ["count", "low", "high"] ["count", "low", "high"] (defScope s_look_size) := ⟨rfl, rfl, rfl, by decide +kernel, rfl, by decide +kernel, by decide +kernel⟩
abbrev s_look_list : Stmt := topS 21
theorem sc_look_list : FnScope ["entries", "low", "high"] ["entries", "low", "high"] (defScope s_look_list) := ⟨rfl, rfl, rfl, by decide +kernel, rfl, by decide +kernel, by decide +kernel⟩
abbrev s_look_each : Stmt := topS 22
theorem sc_look_each : FnScope ["entries", "low", "high", "entry"] ["entries", "low", "high"] (defScope s_look_each) := ⟨rfl, rfl, rfl, by decide +kernel, rfl, by decide +kernel, by decide +kernel⟩
abbrev s_parted : Stmt := topS 23
theorem sc_parted : FnScope ["p", "n", "found", "rest"] ["p", "n"] (defScope s_parted) := ⟨rfl, rfl, rfl, by decide +kernel, rfl, by decide +kernel, by decide +kernel⟩
abbrev s_int_depth : Stmt := topS 24
theorem sc_int_depth : FnScope ["p", "n"] ["p", "n"] (defScope s_int_depth) := ⟨rfl, rfl, rfl, by decide +kernel, rfl, by decide +kernel, by decide +kernel⟩
abbrev s_summed_digits : Stmt := topS 27
theorem sc_summed_digits : FnScope ["p", "n", "total", "rest"] ["p", "n"] (defScope s_summed_digits) := ⟨rfl, rfl, rfl, by decide +kernel, rfl, by decide +kernel, by decide +kernel⟩
abbrev s_counted_carries : Stmt := topS 28
theorem sc_counted_carries : FnScope ["p", "a", "b", "count", "carry", "first", "second", "column"] ["p", "a", "b"] (defScope s_counted_carries) := ⟨rfl, rfl, rfl, by decide +kernel, rfl, by decide +kernel, by decide +kernel⟩
abbrev s_digit_sum : Stmt := topS 29
theorem sc_digit_sum : FnScope ["p", "n"] ["p", "n"] (defScope s_digit_sum) := ⟨rfl, rfl, rfl, by decide +kernel, rfl, by decide +kernel, by decide +kernel⟩
abbrev s_carries : Stmt := topS 30
theorem sc_carries : FnScope ["p", "a", "b"] ["p", "a", "b"] (defScope s_carries) := ⟨rfl, rfl, rfl, by decide +kernel, rfl, by decide +kernel, by decide +kernel⟩
abbrev s_factorial_depth : Stmt := topS 31
theorem sc_factorial_depth : FnScope ["p", "n"] ["p", "n"] (defScope s_factorial_depth) := ⟨rfl, rfl, rfl, by decide +kernel, rfl, by decide +kernel, by decide +kernel⟩
abbrev s_choose_depth : Stmt := topS 32
theorem sc_choose_depth : FnScope ["p", "n", "k"] ["p", "n", "k"] (defScope s_choose_depth) := ⟨rfl, rfl, rfl, by decide +kernel, rfl, by decide +kernel, by decide +kernel⟩
abbrev s_level_of : Stmt := topS 37
theorem sc_level_of : FnScope ["p", "i", "level", "reach"] ["p", "i"] (defScope s_level_of) := ⟨rfl, rfl, rfl, by decide +kernel, rfl, by decide +kernel, by decide +kernel⟩
abbrev s_row_value : Stmt := topS 38
theorem sc_row_value : FnScope ["row", "n", "total", "choice", "i", "c"] ["row", "n"] (defScope s_row_value) := ⟨rfl, rfl, rfl, by decide +kernel, rfl, by decide +kernel, by decide +kernel⟩
abbrev s_row_bound : Stmt := topS 39
theorem sc_row_bound : FnScope ["p", "row", "found", "i"] ["p", "row"] (defScope s_row_bound) := ⟨rfl, rfl, rfl, by decide +kernel, rfl, by decide +kernel, by decide +kernel⟩
abbrev s_Mahler_init : Stmt := inClass (topS 40) 0
theorem sc_Mahler_init : FnScope ["self", "p", "row", "size"] ["self", "p", "row"] (defScope s_Mahler_init) := ⟨rfl, rfl, rfl, by decide +kernel, rfl, by decide +kernel, by decide +kernel⟩
abbrev s_Mahler_value : Stmt := inClass (topS 40) 1
theorem sc_Mahler_value : FnScope ["self", "n"] ["self", "n"] (defScope s_Mahler_value) := ⟨rfl, rfl, rfl, by decide +kernel, rfl, by decide +kernel, by decide +kernel⟩
abbrev s_Mahler_bound : Stmt := inClass (topS 40) 3
theorem sc_Mahler_bound : FnScope ["self"] ["self"] (defScope s_Mahler_bound) := ⟨rfl, rfl, rfl, by decide +kernel, rfl, by decide +kernel, by decide +kernel⟩
abbrev s_Mahler_pair : Stmt := inClass (topS 40) 4
theorem sc_Mahler_pair : FnScope ["self", "bound", "values", "y", "x", "apart", "n"] ["self"] (defScope s_Mahler_pair) := ⟨rfl, rfl, rfl, by decide +kernel, rfl, by decide +kernel, by decide +kernel⟩
abbrev s_law_begin : Stmt := topS 42
theorem sc_law_begin : FnScope ["script", "number"] ["script"] (defScope s_law_begin) := ⟨rfl, rfl, rfl, by decide +kernel, rfl, by decide +kernel, by decide +kernel⟩
abbrev s_law_draw : Stmt := topS 43
theorem sc_law_draw : FnScope ["pool", "bound", "plus", "at", "cell"] ["pool", "bound", "plus"] (defScope s_law_draw) := ⟨rfl, rfl, rfl, by decide +kernel, rfl, by decide +kernel, by decide +kernel⟩
abbrev s_law_prime : Stmt := topS 44
theorem sc_law_prime : FnScope ["pool", "primes"] ["pool"] (defScope s_law_prime) := ⟨rfl, rfl, rfl, by decide +kernel, rfl, by decide +kernel, by decide +kernel⟩
abbrev s_law_power : Stmt := topS 45
theorem sc_law_power : FnScope ["base", "exponent", "result", "k"] ["base", "exponent"] (defScope s_law_power) := ⟨rfl, rfl, rfl, by decide +kernel, rfl, by decide +kernel, by decide +kernel⟩
abbrev s_law_depth : Stmt := topS 46
theorem sc_law_depth : FnScope ["p", "n", "k"] ["p", "n"] (defScope s_law_depth) := ⟨rfl, rfl, rfl, by decide +kernel, rfl, by decide +kernel, by decide +kernel⟩
abbrev s_law_is : Stmt := topS 47
theorem sc_law_is : FnScope ["told", "due"] ["told", "due"] (defScope s_law_is) := ⟨rfl, rfl, rfl, by decide +kernel, rfl, by decide +kernel, by decide +kernel⟩
abbrev s_law_number : Stmt := topS 48
theorem sc_law_number : FnScope ["told"] ["told"] (defScope s_law_number) := ⟨rfl, rfl, rfl, by decide +kernel, rfl, by decide +kernel, by decide +kernel⟩
abbrev s_law_call : Stmt := topS 49
theorem sc_law_call : FnScope ["word", "p", "first", "second", "e", "flags"] ["word", "p", "first", "second"] (defScope s_law_call) := ⟨rfl, rfl, rfl, by decide +kernel, rfl, by decide +kernel, by decide +kernel⟩
abbrev s_law_carried : Stmt := topS 50
theorem sc_law_carried : FnScope ["p", "a", "b", "count", "scale", "k"] ["p", "a", "b"] (defScope s_law_carried) := ⟨rfl, rfl, rfl, by decide +kernel, rfl, by decide +kernel, by decide +kernel⟩
abbrev s_law_summed : Stmt := topS 51
theorem sc_law_summed : FnScope ["p", "n", "total", "k"] ["p", "n"] (defScope s_law_summed) := ⟨rfl, rfl, rfl, by decide +kernel, rfl, by decide +kernel, by decide +kernel⟩
abbrev s_law_factorial : Stmt := topS 52
theorem sc_law_factorial : FnScope ["p", "n", "total", "k"] ["p", "n"] (defScope s_law_factorial) := ⟨rfl, rfl, rfl, by decide +kernel, rfl, by decide +kernel, by decide +kernel⟩
abbrev s_law_step : Stmt := topS 53
theorem sc_law_step : FnScope ["p", "i", "level", "reach", "k"] ["p", "i"] (defScope s_law_step) := ⟨rfl, rfl, rfl, by decide +kernel, rfl, by decide +kernel, by decide +kernel⟩
abbrev s_law_choose : Stmt := topS 54
theorem sc_law_choose : FnScope ["n", "i", "sign", "top", "low", "k"] ["n", "i"] (defScope s_law_choose) := ⟨rfl, rfl, rfl, by decide +kernel, rfl, by decide +kernel, by decide +kernel⟩
abbrev s_law_counted : Stmt := topS 55
theorem sc_law_counted : FnScope ["p", "n", "k", "due", "parts", "part", "deep", "sums"] ["p", "n", "k"] (defScope s_law_counted) := ⟨rfl, rfl, rfl, by decide +kernel, rfl, by decide +kernel, by decide +kernel⟩
abbrev s_law_row_told : Stmt := topS 56
theorem sc_law_row_told : FnScope ["pool", "p", "i", "great", "k", "g", "level", "pair", "apart", "top", "n", "told", "step", "near"] ["pool", "p", "i", "great"] (defScope s_law_row_told) := ⟨rfl, rfl, rfl, by decide +kernel, rfl, by decide +kernel, by decide +kernel⟩
abbrev s_law_refused : Stmt := topS 57
theorem sc_law_refused : FnScope ["pool", "p", "more", "odd", "far", "least", "asked", "word", "spot"] ["pool", "p"] (defScope s_law_refused) := ⟨rfl, rfl, rfl, by decide +kernel, rfl, by decide +kernel, by decide +kernel⟩
abbrev s_law : Stmt := topS 58
theorem sc_law : FnScope ["script", "pool", "great", "p", "spots", "i", "top", "n", "k", "ways", "things", "scale"] ["script"] (defScope s_law) := ⟨rfl, rfl, rfl, by decide +kernel, rfl, by decide +kernel, by decide +kernel⟩
def primesL : List Int := [2, 3, 5, 7, 11, 13, 17, 19, 23, 29, 31, 37, 41, 43, 47, 53, 59, 61, 67, 71, 73, 79, 83, 89, 97]
structure Ad where
  a_look_prime : Addr
  d_look_prime : FuncData
  a_look_range : Addr
  d_look_range : FuncData
  a_look_size : Addr
  d_look_size : FuncData
  a_look_list : Addr
  d_look_list : FuncData
  a_look_each : Addr
  d_look_each : FuncData
  a_parted : Addr
  d_parted : FuncData
  a_int_depth : Addr
  d_int_depth : FuncData
  a_summed_digits : Addr
  d_summed_digits : FuncData
  a_counted_carries : Addr
  d_counted_carries : FuncData
  a_digit_sum : Addr
  d_digit_sum : FuncData
  a_carries : Addr
  d_carries : FuncData
  a_factorial_depth : Addr
  d_factorial_depth : FuncData
  a_choose_depth : Addr
  d_choose_depth : FuncData
  a_level_of : Addr
  d_level_of : FuncData
  a_row_value : Addr
  d_row_value : FuncData
  a_row_bound : Addr
  d_row_bound : FuncData
  a_Mahler_init : Addr
  d_Mahler_init : FuncData
  a_Mahler_value : Addr
  d_Mahler_value : FuncData
  a_Mahler_bound : Addr
  d_Mahler_bound : FuncData
  a_Mahler_pair : Addr
  d_Mahler_pair : FuncData
  a_law_begin : Addr
  d_law_begin : FuncData
  a_law_draw : Addr
  d_law_draw : FuncData
  a_law_prime : Addr
  d_law_prime : FuncData
  a_law_power : Addr
  d_law_power : FuncData
  a_law_depth : Addr
  d_law_depth : FuncData
  a_law_is : Addr
  d_law_is : FuncData
  a_law_number : Addr
  d_law_number : FuncData
  a_law_call : Addr
  d_law_call : FuncData
  a_law_carried : Addr
  d_law_carried : FuncData
  a_law_summed : Addr
  d_law_summed : FuncData
  a_law_factorial : Addr
  d_law_factorial : FuncData
  a_law_step : Addr
  d_law_step : FuncData
  a_law_choose : Addr
  d_law_choose : FuncData
  a_law_counted : Addr
  d_law_counted : FuncData
  a_law_row_told : Addr
  d_law_row_told : FuncData
  a_law_refused : Addr
  d_law_refused : FuncData
  a_law : Addr
  d_law : FuncData
  aSP : Addr
  aMahler : Addr
  pMahler : Addr
  a_PrimedeepError : Addr
  i_PrimedeepError : Addr
  v_PrimedeepError : Addr
  w_PrimedeepError : Addr
  a_SizeError : Addr
  i_SizeError : Addr
  v_SizeError : Addr
  w_SizeError : Addr
  a_RangeError : Addr
  i_RangeError : Addr
  v_RangeError : Addr
  w_RangeError : Addr
  a_PrimeError : Addr
  i_PrimeError : Addr
  v_PrimeError : Addr
  w_PrimeError : Addr
  a_DepthError : Addr
  i_DepthError : Addr
  v_DepthError : Addr
  w_DepthError : Addr
  a_ZeroError : Addr
  i_ZeroError : Addr
  v_ZeroError : Addr
  w_ZeroError : Addr
  a_MixError : Addr
  i_MixError : Addr
  v_MixError : Addr
  w_MixError : Addr
  a_BarError : Addr
  i_BarError : Addr
  v_BarError : Addr
  w_BarError : Addr
  a_MonicError : Addr
  i_MonicError : Addr
  v_MonicError : Addr
  w_MonicError : Addr
  a_RepeatError : Addr
  i_RepeatError : Addr
  v_RepeatError : Addr
  w_RepeatError : Addr
  a_FieldError : Addr
  i_FieldError : Addr
  v_FieldError : Addr
  w_FieldError : Addr
  a_EditError : Addr
  i_EditError : Addr
  v_EditError : Addr
  w_EditError : Addr
  a_TextError : Addr
  i_TextError : Addr
  v_TextError : Addr
  w_TextError : Addr
  a_HistoryError : Addr
  i_HistoryError : Addr
  v_HistoryError : Addr
  w_HistoryError : Addr
structure Txt (prog : Program) (K : PySem.W.Frag) (mg : Str → Option Value) (A : Ad) : Prop where
  F_look_prime : Fun K "look_prime" "look_prime" s_look_prime A.a_look_prime A.d_look_prime
  g_look_prime : mg "look_prime" = some (.ref A.a_look_prime)
  F_look_range : Fun K "look_range" "look_range" s_look_range A.a_look_range A.d_look_range
  g_look_range : mg "look_range" = some (.ref A.a_look_range)
  F_look_size : Fun K "look_size" "look_size" s_look_size A.a_look_size A.d_look_size
  g_look_size : mg "look_size" = some (.ref A.a_look_size)
  F_look_list : Fun K "look_list" "look_list" s_look_list A.a_look_list A.d_look_list
  g_look_list : mg "look_list" = some (.ref A.a_look_list)
  F_look_each : Fun K "look_each" "look_each" s_look_each A.a_look_each A.d_look_each
  g_look_each : mg "look_each" = some (.ref A.a_look_each)
  F_parted : Fun K "parted" "parted" s_parted A.a_parted A.d_parted
  g_parted : mg "parted" = some (.ref A.a_parted)
  F_int_depth : Fun K "int_depth" "int_depth" s_int_depth A.a_int_depth A.d_int_depth
  g_int_depth : mg "int_depth" = some (.ref A.a_int_depth)
  F_summed_digits : Fun K "summed_digits" "summed_digits" s_summed_digits A.a_summed_digits A.d_summed_digits
  g_summed_digits : mg "summed_digits" = some (.ref A.a_summed_digits)
  F_counted_carries : Fun K "counted_carries" "counted_carries" s_counted_carries A.a_counted_carries A.d_counted_carries
  g_counted_carries : mg "counted_carries" = some (.ref A.a_counted_carries)
  F_digit_sum : Fun K "digit_sum" "digit_sum" s_digit_sum A.a_digit_sum A.d_digit_sum
  g_digit_sum : mg "digit_sum" = some (.ref A.a_digit_sum)
  F_carries : Fun K "carries" "carries" s_carries A.a_carries A.d_carries
  g_carries : mg "carries" = some (.ref A.a_carries)
  F_factorial_depth : Fun K "factorial_depth" "factorial_depth" s_factorial_depth A.a_factorial_depth A.d_factorial_depth
  g_factorial_depth : mg "factorial_depth" = some (.ref A.a_factorial_depth)
  F_choose_depth : Fun K "choose_depth" "choose_depth" s_choose_depth A.a_choose_depth A.d_choose_depth
  g_choose_depth : mg "choose_depth" = some (.ref A.a_choose_depth)
  F_level_of : Fun K "level_of" "level_of" s_level_of A.a_level_of A.d_level_of
  g_level_of : mg "level_of" = some (.ref A.a_level_of)
  F_row_value : Fun K "row_value" "row_value" s_row_value A.a_row_value A.d_row_value
  g_row_value : mg "row_value" = some (.ref A.a_row_value)
  F_row_bound : Fun K "row_bound" "row_bound" s_row_bound A.a_row_bound A.d_row_bound
  g_row_bound : mg "row_bound" = some (.ref A.a_row_bound)
  F_Mahler_init : Fun K "__init__" "Mahler.__init__" s_Mahler_init A.a_Mahler_init A.d_Mahler_init
  F_Mahler_value : Fun K "value" "Mahler.value" s_Mahler_value A.a_Mahler_value A.d_Mahler_value
  F_Mahler_bound : Fun K "bound" "Mahler.bound" s_Mahler_bound A.a_Mahler_bound A.d_Mahler_bound
  F_Mahler_pair : Fun K "pair" "Mahler.pair" s_Mahler_pair A.a_Mahler_pair A.d_Mahler_pair
  F_law_begin : Fun K "_law_begin" "_law_begin" s_law_begin A.a_law_begin A.d_law_begin
  g_law_begin : mg "_law_begin" = some (.ref A.a_law_begin)
  F_law_draw : Fun K "_law_draw" "_law_draw" s_law_draw A.a_law_draw A.d_law_draw
  g_law_draw : mg "_law_draw" = some (.ref A.a_law_draw)
  F_law_prime : Fun K "_law_prime" "_law_prime" s_law_prime A.a_law_prime A.d_law_prime
  g_law_prime : mg "_law_prime" = some (.ref A.a_law_prime)
  F_law_power : Fun K "_law_power" "_law_power" s_law_power A.a_law_power A.d_law_power
  g_law_power : mg "_law_power" = some (.ref A.a_law_power)
  F_law_depth : Fun K "_law_depth" "_law_depth" s_law_depth A.a_law_depth A.d_law_depth
  g_law_depth : mg "_law_depth" = some (.ref A.a_law_depth)
  F_law_is : Fun K "_law_is" "_law_is" s_law_is A.a_law_is A.d_law_is
  g_law_is : mg "_law_is" = some (.ref A.a_law_is)
  F_law_number : Fun K "_law_number" "_law_number" s_law_number A.a_law_number A.d_law_number
  g_law_number : mg "_law_number" = some (.ref A.a_law_number)
  F_law_call : Fun K "_law_call" "_law_call" s_law_call A.a_law_call A.d_law_call
  g_law_call : mg "_law_call" = some (.ref A.a_law_call)
  F_law_carried : Fun K "_law_carried" "_law_carried" s_law_carried A.a_law_carried A.d_law_carried
  g_law_carried : mg "_law_carried" = some (.ref A.a_law_carried)
  F_law_summed : Fun K "_law_summed" "_law_summed" s_law_summed A.a_law_summed A.d_law_summed
  g_law_summed : mg "_law_summed" = some (.ref A.a_law_summed)
  F_law_factorial : Fun K "_law_factorial" "_law_factorial" s_law_factorial A.a_law_factorial A.d_law_factorial
  g_law_factorial : mg "_law_factorial" = some (.ref A.a_law_factorial)
  F_law_step : Fun K "_law_step" "_law_step" s_law_step A.a_law_step A.d_law_step
  g_law_step : mg "_law_step" = some (.ref A.a_law_step)
  F_law_choose : Fun K "_law_choose" "_law_choose" s_law_choose A.a_law_choose A.d_law_choose
  g_law_choose : mg "_law_choose" = some (.ref A.a_law_choose)
  F_law_counted : Fun K "_law_counted" "_law_counted" s_law_counted A.a_law_counted A.d_law_counted
  g_law_counted : mg "_law_counted" = some (.ref A.a_law_counted)
  F_law_row_told : Fun K "_law_row_told" "_law_row_told" s_law_row_told A.a_law_row_told A.d_law_row_told
  g_law_row_told : mg "_law_row_told" = some (.ref A.a_law_row_told)
  F_law_refused : Fun K "_law_refused" "_law_refused" s_law_refused A.a_law_refused A.d_law_refused
  g_law_refused : mg "_law_refused" = some (.ref A.a_law_refused)
  F_law : Fun K "law" "law" s_law A.a_law A.d_law
  g_law : mg "law" = some (.ref A.a_law)
  n_len : mg "len" = none
  n_int : mg "int" = none
  n_bool : mg "bool" = none
  n_tuple : mg "tuple" = none
  n_abs : mg "abs" = none
  n_isinstance : mg "isinstance" = none
  n_all : mg "all" = none
  n_max : mg "max" = none
  n_min : mg "min" = none
  n_range : mg "range" = none
  n_enumerate : mg "enumerate" = none
  n_ValueError : mg "ValueError" = none
  c_MOST_COUNTED : ∃ t, mg "MOST_COUNTED" = some (.int 1000000000000000000000000000000000000000000000000000000000000 t)
  c_MOST_ROW : ∃ t, mg "MOST_ROW" = some (.int 30 t)
  c_MOST_ENTRY : ∃ t, mg "MOST_ENTRY" = some (.int 1000000000000000000000000000000 t)
  c_MOST_PLACE : ∃ t, mg "MOST_PLACE" = some (.int 1000000000000 t)
  c_SMALL_PRIMES : mg "SMALL_PRIMES" = some (.ref A.aSP)
  tSP : ∃ dd its n sl, K.lookup A.aSP = some ⟨.type "tuple", dd, .seq its n, sl⟩ ∧ its.size ≤ sizeLine ∧ Vals (primesL.map V.int) its.toList
  g_PrimedeepError : mg "PrimedeepError" = some (.ref A.a_PrimedeepError)
  g_SizeError : mg "SizeError" = some (.ref A.a_SizeError)
  g_RangeError : mg "RangeError" = some (.ref A.a_RangeError)
  g_PrimeError : mg "PrimeError" = some (.ref A.a_PrimeError)
  g_DepthError : mg "DepthError" = some (.ref A.a_DepthError)
  g_ZeroError : mg "ZeroError" = some (.ref A.a_ZeroError)
  g_MixError : mg "MixError" = some (.ref A.a_MixError)
  g_BarError : mg "BarError" = some (.ref A.a_BarError)
  g_MonicError : mg "MonicError" = some (.ref A.a_MonicError)
  g_RepeatError : mg "RepeatError" = some (.ref A.a_RepeatError)
  g_FieldError : mg "FieldError" = some (.ref A.a_FieldError)
  g_EditError : mg "EditError" = some (.ref A.a_EditError)
  g_TextError : mg "TextError" = some (.ref A.a_TextError)
  g_HistoryError : mg "HistoryError" = some (.ref A.a_HistoryError)
  e_RangeError : PySem.KX.Err1 prog K mg "RangeError" "number" A.a_RangeError A.i_RangeError A.v_RangeError A.w_RangeError
  ei_RangeError : L2.ErrI K A.a_RangeError
  ex_RangeError : PySem.W.exmOne K (.ref A.a_RangeError) (.ref A.a_PrimedeepError) = some true
  kv_RangeError : PySem.W.kitOne K (.ref A.a_RangeError) (.type "ValueError") = some true
  kt_RangeError_SizeError : PySem.W.kitOne K (.ref A.a_RangeError) (.ref A.a_SizeError) = some false
  kt_RangeError_RangeError : PySem.W.kitOne K (.ref A.a_RangeError) (.ref A.a_RangeError) = some true
  kt_RangeError_PrimeError : PySem.W.kitOne K (.ref A.a_RangeError) (.ref A.a_PrimeError) = some false
  kt_RangeError_DepthError : PySem.W.kitOne K (.ref A.a_RangeError) (.ref A.a_DepthError) = some false
  kt_RangeError_ZeroError : PySem.W.kitOne K (.ref A.a_RangeError) (.ref A.a_ZeroError) = some false
  kt_RangeError_MixError : PySem.W.kitOne K (.ref A.a_RangeError) (.ref A.a_MixError) = some false
  kt_RangeError_BarError : PySem.W.kitOne K (.ref A.a_RangeError) (.ref A.a_BarError) = some false
  kt_RangeError_MonicError : PySem.W.kitOne K (.ref A.a_RangeError) (.ref A.a_MonicError) = some false
  kt_RangeError_RepeatError : PySem.W.kitOne K (.ref A.a_RangeError) (.ref A.a_RepeatError) = some false
  kt_RangeError_FieldError : PySem.W.kitOne K (.ref A.a_RangeError) (.ref A.a_FieldError) = some false
  kt_RangeError_EditError : PySem.W.kitOne K (.ref A.a_RangeError) (.ref A.a_EditError) = some false
  kt_RangeError_TextError : PySem.W.kitOne K (.ref A.a_RangeError) (.ref A.a_TextError) = some false
  kt_RangeError_HistoryError : PySem.W.kitOne K (.ref A.a_RangeError) (.ref A.a_HistoryError) = some false
  e_PrimeError : PySem.KX.Err1 prog K mg "PrimeError" "number" A.a_PrimeError A.i_PrimeError A.v_PrimeError A.w_PrimeError
  ei_PrimeError : L2.ErrI K A.a_PrimeError
  ex_PrimeError : PySem.W.exmOne K (.ref A.a_PrimeError) (.ref A.a_PrimedeepError) = some true
  kv_PrimeError : PySem.W.kitOne K (.ref A.a_PrimeError) (.type "ValueError") = some true
  kt_PrimeError_SizeError : PySem.W.kitOne K (.ref A.a_PrimeError) (.ref A.a_SizeError) = some false
  kt_PrimeError_RangeError : PySem.W.kitOne K (.ref A.a_PrimeError) (.ref A.a_RangeError) = some false
  kt_PrimeError_PrimeError : PySem.W.kitOne K (.ref A.a_PrimeError) (.ref A.a_PrimeError) = some true
  kt_PrimeError_DepthError : PySem.W.kitOne K (.ref A.a_PrimeError) (.ref A.a_DepthError) = some false
  kt_PrimeError_ZeroError : PySem.W.kitOne K (.ref A.a_PrimeError) (.ref A.a_ZeroError) = some false
  kt_PrimeError_MixError : PySem.W.kitOne K (.ref A.a_PrimeError) (.ref A.a_MixError) = some false
  kt_PrimeError_BarError : PySem.W.kitOne K (.ref A.a_PrimeError) (.ref A.a_BarError) = some false
  kt_PrimeError_MonicError : PySem.W.kitOne K (.ref A.a_PrimeError) (.ref A.a_MonicError) = some false
  kt_PrimeError_RepeatError : PySem.W.kitOne K (.ref A.a_PrimeError) (.ref A.a_RepeatError) = some false
  kt_PrimeError_FieldError : PySem.W.kitOne K (.ref A.a_PrimeError) (.ref A.a_FieldError) = some false
  kt_PrimeError_EditError : PySem.W.kitOne K (.ref A.a_PrimeError) (.ref A.a_EditError) = some false
  kt_PrimeError_TextError : PySem.W.kitOne K (.ref A.a_PrimeError) (.ref A.a_TextError) = some false
  kt_PrimeError_HistoryError : PySem.W.kitOne K (.ref A.a_PrimeError) (.ref A.a_HistoryError) = some false
  cl_Mahler : Cls K A.aMahler
  mk_Mahler : Mk K A.aMahler A.a_Mahler_init
  g_Mahler : mg "Mahler" = some (.ref A.aMahler)
  m_Mahler_value : Meth K A.aMahler "value" A.a_Mahler_value
  m_Mahler_pair : Meth K A.aMahler "pair" A.a_Mahler_pair
  p_Mahler_bound : PropOf K A.aMahler "bound" A.pMahler A.a_Mahler_bound
  na_Mahler_p : NoAttr K A.aMahler "p"
  na_Mahler_row : NoAttr K A.aMahler "row"
section
variable {prog : Program} {K : PySem.W.Frag} {mg : Str → Option Value} {A : Ad}
theorem Txt.b_look_prime (T : Txt prog K mg A) : Binds K A.d_look_prime ["p"] [] := T.F_look_prime.binds fun _ _ _ _ _ _ us hl => match us, hl with | [_], _ => rfl
theorem Txt.k_look_prime (T : Txt prog K mg A) : PySem.W.keepIn K (.ref A.a_look_prime) = true := T.F_look_prime.kp
theorem Txt.b_look_range (T : Txt prog K mg A) : Binds K A.d_look_range ["number", "low", "high"] [] := T.F_look_range.binds fun _ _ _ _ _ _ us hl => match us, hl with | [_, _, _], _ => rfl
theorem Txt.k_look_range (T : Txt prog K mg A) : PySem.W.keepIn K (.ref A.a_look_range) = true := T.F_look_range.kp
theorem Txt.b_look_size (T : Txt prog K mg A) : Binds K A.d_look_size ["count", "low", "high"] [] := T.F_look_size.binds fun _ _ _ _ _ _ us hl => match us, hl with | [_, _, _], _ => rfl
theorem Txt.k_look_size (T : Txt prog K mg A) : PySem.W.keepIn K (.ref A.a_look_size) = true := T.F_look_size.kp
theorem Txt.b_look_list (T : Txt prog K mg A) : Binds K A.d_look_list ["entries", "low", "high"] [] := T.F_look_list.binds fun _ _ _ _ _ _ us hl => match us, hl with | [_, _, _], _ => rfl
theorem Txt.k_look_list (T : Txt prog K mg A) : PySem.W.keepIn K (.ref A.a_look_list) = true := T.F_look_list.kp
theorem Txt.b_look_each (T : Txt prog K mg A) : Binds K A.d_look_each ["entries", "low", "high"] [] := T.F_look_each.binds fun _ _ _ _ _ _ us hl => match us, hl with | [_, _, _], _ => rfl
theorem Txt.k_look_each (T : Txt prog K mg A) : PySem.W.keepIn K (.ref A.a_look_each) = true := T.F_look_each.kp
theorem Txt.b_parted (T : Txt prog K mg A) : Binds K A.d_parted ["p", "n"] [] := T.F_parted.binds fun _ _ _ _ _ _ us hl => match us, hl with | [_, _], _ => rfl
theorem Txt.k_parted (T : Txt prog K mg A) : PySem.W.keepIn K (.ref A.a_parted) = true := T.F_parted.kp
theorem Txt.b_int_depth (T : Txt prog K mg A) : Binds K A.d_int_depth ["p", "n"] [] := T.F_int_depth.binds fun _ _ _ _ _ _ us hl => match us, hl with | [_, _], _ => rfl
theorem Txt.k_int_depth (T : Txt prog K mg A) : PySem.W.keepIn K (.ref A.a_int_depth) = true := T.F_int_depth.kp
theorem Txt.b_summed_digits (T : Txt prog K mg A) : Binds K A.d_summed_digits ["p", "n"] [] := T.F_summed_digits.binds fun _ _ _ _ _ _ us hl => match us, hl with | [_, _], _ => rfl
theorem Txt.k_summed_digits (T : Txt prog K mg A) : PySem.W.keepIn K (.ref A.a_summed_digits) = true := T.F_summed_digits.kp
theorem Txt.b_counted_carries (T : Txt prog K mg A) : Binds K A.d_counted_carries ["p", "a", "b"] [] := T.F_counted_carries.binds fun _ _ _ _ _ _ us hl => match us, hl with | [_, _, _], _ => rfl
theorem Txt.k_counted_carries (T : Txt prog K mg A) : PySem.W.keepIn K (.ref A.a_counted_carries) = true := T.F_counted_carries.kp
theorem Txt.b_digit_sum (T : Txt prog K mg A) : Binds K A.d_digit_sum ["p", "n"] [] := T.F_digit_sum.binds fun _ _ _ _ _ _ us hl => match us, hl with | [_, _], _ => rfl
theorem Txt.k_digit_sum (T : Txt prog K mg A) : PySem.W.keepIn K (.ref A.a_digit_sum) = true := T.F_digit_sum.kp
theorem Txt.b_carries (T : Txt prog K mg A) : Binds K A.d_carries ["p", "a", "b"] [] := T.F_carries.binds fun _ _ _ _ _ _ us hl => match us, hl with | [_, _, _], _ => rfl
theorem Txt.k_carries (T : Txt prog K mg A) : PySem.W.keepIn K (.ref A.a_carries) = true := T.F_carries.kp
theorem Txt.b_factorial_depth (T : Txt prog K mg A) : Binds K A.d_factorial_depth ["p", "n"] [] := T.F_factorial_depth.binds fun _ _ _ _ _ _ us hl => match us, hl with | [_, _], _ => rfl
theorem Txt.k_factorial_depth (T : Txt prog K mg A) : PySem.W.keepIn K (.ref A.a_factorial_depth) = true := T.F_factorial_depth.kp
theorem Txt.b_choose_depth (T : Txt prog K mg A) : Binds K A.d_choose_depth ["p", "n", "k"] [] := T.F_choose_depth.binds fun _ _ _ _ _ _ us hl => match us, hl with | [_, _, _], _ => rfl
theorem Txt.k_choose_depth (T : Txt prog K mg A) : PySem.W.keepIn K (.ref A.a_choose_depth) = true := T.F_choose_depth.kp
theorem Txt.b_level_of (T : Txt prog K mg A) : Binds K A.d_level_of ["p", "i"] [] := T.F_level_of.binds fun _ _ _ _ _ _ us hl => match us, hl with | [_, _], _ => rfl
theorem Txt.k_level_of (T : Txt prog K mg A) : PySem.W.keepIn K (.ref A.a_level_of) = true := T.F_level_of.kp
theorem Txt.b_row_value (T : Txt prog K mg A) : Binds K A.d_row_value ["row", "n"] [] := T.F_row_value.binds fun _ _ _ _ _ _ us hl => match us, hl with | [_, _], _ => rfl
theorem Txt.k_row_value (T : Txt prog K mg A) : PySem.W.keepIn K (.ref A.a_row_value) = true := T.F_row_value.kp
theorem Txt.b_row_bound (T : Txt prog K mg A) : Binds K A.d_row_bound ["p", "row"] [] := T.F_row_bound.binds fun _ _ _ _ _ _ us hl => match us, hl with | [_, _], _ => rfl
theorem Txt.k_row_bound (T : Txt prog K mg A) : PySem.W.keepIn K (.ref A.a_row_bound) = true := T.F_row_bound.kp
theorem Txt.b_Mahler_init (T : Txt prog K mg A) : Binds K A.d_Mahler_init ["self", "p", "row"] [] := T.F_Mahler_init.binds fun _ _ _ _ _ _ us hl => match us, hl with | [_, _, _], _ => rfl
theorem Txt.k_Mahler_init (T : Txt prog K mg A) : PySem.W.keepIn K (.ref A.a_Mahler_init) = true := T.F_Mahler_init.kp
theorem Txt.b_Mahler_value (T : Txt prog K mg A) : Binds K A.d_Mahler_value ["self", "n"] [] := T.F_Mahler_value.binds fun _ _ _ _ _ _ us hl => match us, hl with | [_, _], _ => rfl
theorem Txt.k_Mahler_value (T : Txt prog K mg A) : PySem.W.keepIn K (.ref A.a_Mahler_value) = true := T.F_Mahler_value.kp
theorem Txt.b_Mahler_bound (T : Txt prog K mg A) : Binds K A.d_Mahler_bound ["self"] [] := T.F_Mahler_bound.binds fun _ _ _ _ _ _ us hl => match us, hl with | [_], _ => rfl
theorem Txt.k_Mahler_bound (T : Txt prog K mg A) : PySem.W.keepIn K (.ref A.a_Mahler_bound) = true := T.F_Mahler_bound.kp
theorem Txt.b_Mahler_pair (T : Txt prog K mg A) : Binds K A.d_Mahler_pair ["self"] [] := T.F_Mahler_pair.binds fun _ _ _ _ _ _ us hl => match us, hl with | [_], _ => rfl
theorem Txt.k_Mahler_pair (T : Txt prog K mg A) : PySem.W.keepIn K (.ref A.a_Mahler_pair) = true := T.F_Mahler_pair.kp
theorem Txt.b_law_begin (T : Txt prog K mg A) : Binds K A.d_law_begin ["script"] [] := T.F_law_begin.binds fun _ _ _ _ _ _ us hl => match us, hl with | [_], _ => rfl
theorem Txt.k_law_begin (T : Txt prog K mg A) : PySem.W.keepIn K (.ref A.a_law_begin) = true := T.F_law_begin.kp
theorem Txt.b_law_draw (T : Txt prog K mg A) : Binds K A.d_law_draw ["pool", "bound", "plus"] [] := T.F_law_draw.binds fun _ _ _ _ _ _ us hl => match us, hl with | [_, _, _], _ => rfl
theorem Txt.k_law_draw (T : Txt prog K mg A) : PySem.W.keepIn K (.ref A.a_law_draw) = true := T.F_law_draw.kp
theorem Txt.b_law_prime (T : Txt prog K mg A) : Binds K A.d_law_prime ["pool"] [] := T.F_law_prime.binds fun _ _ _ _ _ _ us hl => match us, hl with | [_], _ => rfl
theorem Txt.k_law_prime (T : Txt prog K mg A) : PySem.W.keepIn K (.ref A.a_law_prime) = true := T.F_law_prime.kp
theorem Txt.b_law_power (T : Txt prog K mg A) : Binds K A.d_law_power ["base", "exponent"] [] := T.F_law_power.binds fun _ _ _ _ _ _ us hl => match us, hl with | [_, _], _ => rfl
theorem Txt.k_law_power (T : Txt prog K mg A) : PySem.W.keepIn K (.ref A.a_law_power) = true := T.F_law_power.kp
theorem Txt.b_law_depth (T : Txt prog K mg A) : Binds K A.d_law_depth ["p", "n"] [] := T.F_law_depth.binds fun _ _ _ _ _ _ us hl => match us, hl with | [_, _], _ => rfl
theorem Txt.k_law_depth (T : Txt prog K mg A) : PySem.W.keepIn K (.ref A.a_law_depth) = true := T.F_law_depth.kp
theorem Txt.b_law_is (T : Txt prog K mg A) : Binds K A.d_law_is ["told", "due"] [] := T.F_law_is.binds fun _ _ _ _ _ _ us hl => match us, hl with | [_, _], _ => rfl
theorem Txt.k_law_is (T : Txt prog K mg A) : PySem.W.keepIn K (.ref A.a_law_is) = true := T.F_law_is.kp
theorem Txt.b_law_number (T : Txt prog K mg A) : Binds K A.d_law_number ["told"] [] := T.F_law_number.binds fun _ _ _ _ _ _ us hl => match us, hl with | [_], _ => rfl
theorem Txt.k_law_number (T : Txt prog K mg A) : PySem.W.keepIn K (.ref A.a_law_number) = true := T.F_law_number.kp
theorem Txt.b_law_call (T : Txt prog K mg A) : Binds K A.d_law_call ["word", "p", "first", "second"] [] := T.F_law_call.binds fun _ _ _ _ _ _ us hl => match us, hl with | [_, _, _, _], _ => rfl
theorem Txt.k_law_call (T : Txt prog K mg A) : PySem.W.keepIn K (.ref A.a_law_call) = true := T.F_law_call.kp
theorem Txt.b_law_carried (T : Txt prog K mg A) : Binds K A.d_law_carried ["p", "a", "b"] [] := T.F_law_carried.binds fun _ _ _ _ _ _ us hl => match us, hl with | [_, _, _], _ => rfl
theorem Txt.k_law_carried (T : Txt prog K mg A) : PySem.W.keepIn K (.ref A.a_law_carried) = true := T.F_law_carried.kp
theorem Txt.b_law_summed (T : Txt prog K mg A) : Binds K A.d_law_summed ["p", "n"] [] := T.F_law_summed.binds fun _ _ _ _ _ _ us hl => match us, hl with | [_, _], _ => rfl
theorem Txt.k_law_summed (T : Txt prog K mg A) : PySem.W.keepIn K (.ref A.a_law_summed) = true := T.F_law_summed.kp
theorem Txt.b_law_factorial (T : Txt prog K mg A) : Binds K A.d_law_factorial ["p", "n"] [] := T.F_law_factorial.binds fun _ _ _ _ _ _ us hl => match us, hl with | [_, _], _ => rfl
theorem Txt.k_law_factorial (T : Txt prog K mg A) : PySem.W.keepIn K (.ref A.a_law_factorial) = true := T.F_law_factorial.kp
theorem Txt.b_law_step (T : Txt prog K mg A) : Binds K A.d_law_step ["p", "i"] [] := T.F_law_step.binds fun _ _ _ _ _ _ us hl => match us, hl with | [_, _], _ => rfl
theorem Txt.k_law_step (T : Txt prog K mg A) : PySem.W.keepIn K (.ref A.a_law_step) = true := T.F_law_step.kp
theorem Txt.b_law_choose (T : Txt prog K mg A) : Binds K A.d_law_choose ["n", "i"] [] := T.F_law_choose.binds fun _ _ _ _ _ _ us hl => match us, hl with | [_, _], _ => rfl
theorem Txt.k_law_choose (T : Txt prog K mg A) : PySem.W.keepIn K (.ref A.a_law_choose) = true := T.F_law_choose.kp
theorem Txt.b_law_counted (T : Txt prog K mg A) : Binds K A.d_law_counted ["p", "n", "k"] [] := T.F_law_counted.binds fun _ _ _ _ _ _ us hl => match us, hl with | [_, _, _], _ => rfl
theorem Txt.k_law_counted (T : Txt prog K mg A) : PySem.W.keepIn K (.ref A.a_law_counted) = true := T.F_law_counted.kp
theorem Txt.b_law_row_told (T : Txt prog K mg A) : Binds K A.d_law_row_told ["pool", "p", "i", "great"] [] := T.F_law_row_told.binds fun _ _ _ _ _ _ us hl => match us, hl with | [_, _, _, _], _ => rfl
theorem Txt.k_law_row_told (T : Txt prog K mg A) : PySem.W.keepIn K (.ref A.a_law_row_told) = true := T.F_law_row_told.kp
theorem Txt.b_law_refused (T : Txt prog K mg A) : Binds K A.d_law_refused ["pool", "p"] [] := T.F_law_refused.binds fun _ _ _ _ _ _ us hl => match us, hl with | [_, _], _ => rfl
theorem Txt.k_law_refused (T : Txt prog K mg A) : PySem.W.keepIn K (.ref A.a_law_refused) = true := T.F_law_refused.kp
theorem Txt.b_law (T : Txt prog K mg A) : Binds K A.d_law ["script"] [] := T.F_law.binds fun _ _ _ _ _ _ us hl => match us, hl with | [_], _ => rfl
theorem Txt.k_law (T : Txt prog K mg A) : PySem.W.keepIn K (.ref A.a_law) = true := T.F_law.kp
end
end K7
namespace K7
open PySem PySem.Spec PyProof.Rows L2
local macro_rules | `(tactic| walk_at "rc") => `(tactic| first
  | assumption
  | (show (0 : Int) < _; omega)
  | (show (0 : Int) < _ ∧ _ < (1073741824 : Int); exact ⟨by omega, by omega⟩)
  | (show (-(2 ^ 64 : Int) < _ ∧ _ < (2 ^ 64 : Int)) ∨ _; exact .inl ⟨by omega, by omega⟩)
  | (show _ ∨ (-(2 ^ 64 : Int) < _ ∧ _ < (2 ^ 64 : Int)); exact .inr ⟨by omega, by omega⟩)
  | (show (0 : Int) ≤ _ ∧ _ ≤ (1000000 : Int) ∧ _ < 2 ^ 64; exact ⟨by decide, by decide, by decide⟩))
local macro_rules | `(tactic| walk_at "rd") => `(tactic| repeat (first
  | with_reducible apply KR.seq
  | with_reducible apply KR.asg
  | with_reducible apply KR.drop
  | with_reducible apply KR.ret
  | with_reducible apply KR.retN
  | with_reducible apply KR.next
  | with_reducible apply KR.ifs
  | with_reducible refine KR.var rfl ?_
  | with_reducible refine L2.iteT ?_
  | with_reducible refine L2.iteF ?_
  | with_reducible refine KR.iteNF ?_
  | with_reducible refine KR.iteNT ?_
  | with_reducible apply KR.con
  | with_reducible apply KR.op
  | with_reducible apply KR.opI0
  | ((with_reducible refine KR.opI ?rc ?_); (case rc => walk_at "rc"))
  | with_reducible apply KR.un
  | with_reducible apply KR.unI
  | with_reducible apply KR.eqI
  | with_reducible apply KR.neI
  | with_reducible apply KR.test
  | with_reducible apply KR.tb'
  | with_reducible apply KR.exbl
  | with_reducible apply KR.and'
  | with_reducible apply KR.or'
  | with_reducible apply KR.not'
  | with_reducible apply KR.chain
  | with_reducible apply KR.call
  | with_reducible apply KR.callS
  | with_reducible apply KR.make
  | with_reducible apply KR.bm
  | with_reducible apply KR.errF
  | with_reducible apply KR.cons
  | with_reducible apply KR.nil
  | with_reducible apply KR.cb
  | with_reducible apply KR.cInt1
  | with_reducible apply KR.cI1
  | with_reducible apply KR.cI2
  | with_reducible apply KR.isi_ii
  | with_reducible apply KR.isi_ib
  | with_reducible apply KR.bits
  | with_reducible apply KR.exint
  | with_reducible apply KR.ifx
  | with_reducible refine KR.aug rfl ?_
  | with_reducible apply KR.ipI
  | with_reducible apply KR.for'
  | with_reducible apply KR.rng1
  | with_reducible apply KR.rng2
  | with_reducible apply KR.ilist
  | with_reducible apply KR.itup
  | with_reducible apply KR.tup
  | with_reducible apply KR.lst
  | with_reducible apply KR.andV
  | with_reducible apply KR.orV
  | with_reducible apply KR.notV
  | with_reducible apply KR.asgG
  | with_reducible apply KR.sub
  | with_reducible apply KR.fld
  | with_reducible apply KR.prop
  | with_reducible apply KR.meth
  | with_reducible apply KR.par
  | with_reducible apply KR.parN
  | with_reducible apply KR.raise1
  | with_reducible apply KR.raise0
  | with_reducible apply KR.exv
  | with_reducible apply KR.lc
  | with_reducible apply KR.ienT
  | with_reducible apply KR.sfld
  | with_reducible apply KR.sl
  | with_reducible apply KR.part
  | with_reducible apply KR.nopart
  | with_reducible apply KR.isNo
  | with_reducible refine KR.nnT ?_
  | with_reducible refine KR.niF ?_
  | with_reducible refine KR.nrF ?_
  | with_reducible refine KR.mnT ?_
  | with_reducible refine KR.miF ?_
  | with_reducible refine KR.mrF ?_))
section
variable {P : Program} {w : World} {K : PySem.W.Frag} {mg : Str → Option Value} {base : Heap} {A : Ad}
def sp_summed_digits : Sp := fun vs H Q _ => ∃ p n : Nat, vs = [.int p, .int n] ∧ 2 ≤ p ∧ p < 100 ∧ ∀ J, n < p ^ J → Q (.int (S p J n : Nat)) H
theorem ok_summed_digits (T : Txt P K mg A) : FnOk P w K mg base CX0 1 A.a_summed_digits A.d_summed_digits ["p", "n"] sp_summed_digits := by
  refine T.F_summed_digits.ok sc_summed_digits (fun vs H Q E h => ?_) (fun cdv Ar outer s H vs Q E hr h => ?_)
  · obtain ⟨_, _, rfl, _⟩ := h; rfl
  have nd := sc_summed_digits.nd
  obtain ⟨p, n, rfl, h2, h9, q⟩ := h
  refine ⟨_, (pss_cons (ps_set (i := 2) nd rfl (.inl rfl) pe_int)
    (pss_cons (ps_set (i := 3) nd rfl (.inl rfl) (pv 1))
    (pss_cons (ps_while PassesOwn.never (pt_cmpR op_gt (pv 3) pe_int (nomark _)) (pss_cons (ps_set (i := 2) nd rfl (.inl rfl) (pe_op op_add (pv 2) (pe_op op_mod (pv 3) (pv 0))))
    (pss_one (ps_set (i := 3) nd rfl (.inl rfl) (pe_op op_fdiv (pv 3) (pv 0))))))
    (pss_one (ps_ret (pv 2)))))), ?_⟩
  walk_at "rd"
  obtain ⟨J, hJ⟩ : ∃ J, n < p ^ J := ⟨n, Nat.lt_pow_self (by omega)⟩
  refine KR.whl (fun m σ' H' => ∃ t r J' : Nat, m = r ∧ H' = H ∧ σ' = [some (.int p), some (.int n), some (.int t), some (.int r)] ∧ r < p ^ J' ∧ t + S p J' r = S p J n) n ⟨0, n, J, rfl, rfl, rfl, hJ, Nat.zero_add _⟩ ?_
  rintro r σ' H' ⟨t, _, J', rfl, rfl, rfl, hr', e⟩
  walk_at "rd"
  refine KR.iteD (fun hp => KR.turn ?_) (fun hn => ?_)
  · walk_at "rd"
    cases J' with
    | zero => rw [Nat.pow_zero] at hr'; omega
    | succ J' =>
      exact ⟨r / p, Nat.div_lt_self (by omega) h2, t + r % p, r / p, J', rfl, rfl, rfl, div_lt_pow h2 hr', by rw [← e, S]; omega⟩
  · walk_at "rd"
    have e0 : r = 0 := by omega
    rw [e0, S_zero, Nat.add_zero] at e
    rw [e]
    exact q J hJ
end
end K7
namespace K7
open PySem PySem.Spec PyProof.Rows L2
local macro_rules | `(tactic| walk_at "rc") => `(tactic| first
  | assumption
  | (show (0 : Int) < _; omega)
  | (show (0 : Int) < _ ∧ _ < (1073741824 : Int); exact ⟨by omega, by omega⟩)
  | (show (-(2 ^ 64 : Int) < _ ∧ _ < (2 ^ 64 : Int)) ∨ _; exact .inl ⟨by omega, by omega⟩)
  | (show _ ∨ (-(2 ^ 64 : Int) < _ ∧ _ < (2 ^ 64 : Int)); exact .inr ⟨by omega, by omega⟩)
  | (show (0 : Int) ≤ _ ∧ _ ≤ (1000000 : Int) ∧ _ < 2 ^ 64; exact ⟨by decide, by decide, by decide⟩))
local macro_rules | `(tactic| walk_at "rd") => `(tactic| repeat (first
  | with_reducible apply KR.seq
  | with_reducible apply KR.asg
  | with_reducible apply KR.drop
  | with_reducible apply KR.ret
  | with_reducible apply KR.retN
  | with_reducible apply KR.next
  | with_reducible apply KR.ifs
  | with_reducible refine KR.var rfl ?_
  | with_reducible refine L2.iteT ?_
  | with_reducible refine L2.iteF ?_
  | with_reducible refine KR.iteNF ?_
  | with_reducible refine KR.iteNT ?_
  | with_reducible apply KR.con
  | with_reducible apply KR.op
  | with_reducible apply KR.opI0
  | ((with_reducible refine KR.opI ?rc ?_); (case rc => walk_at "rc"))
  | with_reducible apply KR.un
  | with_reducible apply KR.unI
  | with_reducible apply KR.eqI
  | with_reducible apply KR.neI
  | with_reducible apply KR.test
  | with_reducible apply KR.tb'
  | with_reducible apply KR.exbl
  | with_reducible apply KR.and'
  | with_reducible apply KR.or'
  | with_reducible apply KR.not'
  | with_reducible apply KR.chain
  | with_reducible apply KR.call
  | with_reducible apply KR.callS
  | with_reducible apply KR.make
  | with_reducible apply KR.bm
  | with_reducible apply KR.errF
  | with_reducible apply KR.cons
  | with_reducible apply KR.nil
  | with_reducible apply KR.cb
  | with_reducible apply KR.cInt1
  | with_reducible apply KR.cI1
  | with_reducible apply KR.cI2
  | with_reducible apply KR.isi_ii
  | with_reducible apply KR.isi_ib
  | with_reducible apply KR.bits
  | with_reducible apply KR.exint
  | with_reducible apply KR.ifx
  | with_reducible refine KR.aug rfl ?_
  | with_reducible apply KR.ipI
  | with_reducible apply KR.for'
  | with_reducible apply KR.rng1
  | with_reducible apply KR.rng2
  | with_reducible apply KR.ilist
  | with_reducible apply KR.itup
  | with_reducible apply KR.tup
  | with_reducible apply KR.lst
  | with_reducible apply KR.andV
  | with_reducible apply KR.orV
  | with_reducible apply KR.notV
  | with_reducible apply KR.asgG
  | with_reducible apply KR.sub
  | with_reducible apply KR.fld
  | with_reducible apply KR.prop
  | with_reducible apply KR.meth
  | with_reducible apply KR.par
  | with_reducible apply KR.parN
  | with_reducible apply KR.raise1
  | with_reducible apply KR.raise0
  | with_reducible apply KR.exv
  | with_reducible apply KR.lc
  | with_reducible apply KR.ienT
  | with_reducible apply KR.sfld
  | with_reducible apply KR.sl
  | with_reducible apply KR.part
  | with_reducible apply KR.nopart
  | with_reducible apply KR.isNo
  | with_reducible refine KR.nnT ?_
  | with_reducible refine KR.niF ?_
  | with_reducible refine KR.nrF ?_
  | with_reducible refine KR.mnT ?_
  | with_reducible refine KR.miF ?_
  | with_reducible refine KR.mrF ?_))
theorem bits_lt {n : Int} : n.natAbs < 2 ^ Builtin.Int.intBits n := PySem.intBits_le_iff.mp (Nat.le_refl _)
theorem bits_le {n : Int} {m : Nat} (h : n.natAbs < 2 ^ m) : Builtin.Int.intBits n ≤ m := PySem.intBits_le_iff.mpr h
section
variable {P : Program} {w : World} {K : PySem.W.Frag} {mg : Str → Option Value} {base : Heap} {A : Ad}
def sp_counted_carries : Sp := fun vs H Q _ => ∃ p a b : Nat, vs = [.int p, .int a, .int b] ∧ 2 ≤ p ∧ p < 100 ∧ ∀ J, a < p ^ J → b < p ^ J → Q (.int (C p J a b 0 : Nat)) H
theorem ok_counted_carries (T : Txt P K mg A) : FnOk P w K mg base CX0 1 A.a_counted_carries A.d_counted_carries ["p", "a", "b"] sp_counted_carries := by
  refine T.F_counted_carries.ok sc_counted_carries (fun vs H Q E h => ?_) (fun cdv Ar outer s H vs Q E hr h => ?_)
  · obtain ⟨_, _, _, rfl, _⟩ := h; rfl
  have nd := sc_counted_carries.nd
  obtain ⟨p, a, b, rfl, h2, h9, q⟩ := h
  refine ⟨_, (pss_cons (ps_set (i := 3) nd rfl (.inl rfl) pe_int)
    (pss_cons (ps_set (i := 4) nd rfl (.inl rfl) pe_int)
    (pss_cons (ps_set (i := 5) nd rfl (.inl rfl) (pv 1))
    (pss_cons (ps_set (i := 6) nd rfl (.inl rfl) (pv 2))
    (pss_cons (ps_while PassesOwn.never (PW.pt (pw_or (pt_cmpR op_gt (pv 5) pe_int (nomark _)) (pw_or1 (pt_cmpR op_gt (pv 6) pe_int (nomark _))))) (pss_cons (ps_set (i := 7) nd rfl (.inl rfl) (pe_op op_add (pe_op op_add (pe_op op_mod (pv 5) (pv 0)) (pe_op op_mod (pv 6) (pv 0))) (pv 4)))
    (pss_cons (ps_set (i := 4) nd rfl (.inl rfl) (pe_op op_fdiv (pv 7) (pv 0)))
    (pss_cons (ps_set (i := 3) nd rfl (.inl rfl) (pe_op op_add (pv 3) (pv 4)))
    (pss_cons (ps_set (i := 5) nd rfl (.inl rfl) (pe_op op_fdiv (pv 5) (pv 0)))
    (pss_one (ps_set (i := 6) nd rfl (.inl rfl) (pe_op op_fdiv (pv 6) (pv 0)))))))))
    (pss_one (ps_ret (pv 3)))))))), ?_⟩
  walk_at "rd"
  obtain ⟨J, hJ, hJ2⟩ : ∃ J, a < p ^ J ∧ b < p ^ J := ⟨a + b, Nat.lt_of_le_of_lt (Nat.le_add_right a b) (Nat.lt_pow_self (by omega)), Nat.lt_of_le_of_lt (Nat.le_add_left b a) (Nat.lt_pow_self (by omega))⟩
  refine KR.whl (fun m σ' H' => ∃ (t c x y J' : Nat) (z : Option V), m = x + y ∧ H' = H ∧ σ' = [some (.int p), some (.int a), some (.int b), some (.int t), some (.int c), some (.int x), some (.int y), z] ∧ c ≤ 1 ∧ x < p ^ J' ∧ y < p ^ J' ∧ t + C p J' x y c = C p J a b 0) (a + b)
    ⟨0, 0, a, b, J, none, rfl, rfl, rfl, Nat.zero_le _, hJ, hJ2, Nat.zero_add _⟩ ?_
  rintro m σ' H' ⟨t, c, x, y, J', z, rfl, rfl, rfl, hc, hx, hy, e⟩
  have turn : x + y > 0 → ∃ J'', x / p < p ^ J'' ∧ y / p < p ^ J'' ∧ t + (x % p + y % p + c) / p + C p J'' (x / p) (y / p) ((x % p + y % p + c) / p) = C p J a b 0 ∧ x / p + y / p < x + y := fun hp => by
    cases J' with
    | zero => rw [Nat.pow_zero] at hx hy; omega
    | succ J' =>
      refine ⟨J', div_lt_pow h2 hx, div_lt_pow h2 hy, by rw [← e, C]; omega, ?_⟩
      have h1 := Nat.div_le_self x p
      have h3 := Nat.div_le_self y p
      rcases Nat.eq_zero_or_pos x with z | z
      · have := Nat.div_lt_self (show 0 < y by omega) h2
        omega
      · have := Nat.div_lt_self z h2
        omega
  walk_at "rd"
  refine KR.iteD (fun hp => ?_) (fun hn => ?_)
  · refine iteT (KR.turn ?_)
    walk_at "rd"
    obtain ⟨J'', k1, k2, k3, k4⟩ := turn (by omega)
    exact ⟨x / p + y / p, k4, t + (x % p + y % p + c) / p, (x % p + y % p + c) / p, x / p, y / p, J'', _, rfl, rfl, rfl, carry_le h2 hc, k1, k2, k3⟩
  · walk_at "rd"
    refine KR.iteD (fun hp => KR.turn ?_) (fun hn2 => ?_)
    · walk_at "rd"
      obtain ⟨J'', k1, k2, k3, k4⟩ := turn (by omega)
      exact ⟨x / p + y / p, k4, t + (x % p + y % p + c) / p, (x % p + y % p + c) / p, x / p, y / p, J'', _, rfl, rfl, rfl, carry_le h2 hc, k1, k2, k3⟩
    · walk_at "rd"
      have e0 : x = 0 := by omega
      have e1 : y = 0 := by omega
      rw [e0, e1, C_zero h2 _ _ hc, Nat.add_zero] at e
      rw [e]
      exact q J hJ hJ2
def sp_law_power : Sp := fun vs H Q _ => ∃ b n : Nat, vs = [.int b, .int n] ∧ b < 1000000 ∧ n < 1000000 ∧ Q (.int (b ^ n : Nat)) H
theorem ok_law_power (T : Txt P K mg A) : FnOk P w K mg base CX0 1 A.a_law_power A.d_law_power ["base", "exponent"] sp_law_power := by
  refine T.F_law_power.ok sc_law_power (fun vs H Q E h => ?_) (fun cdv Ar outer s H vs Q E hr h => ?_)
  · obtain ⟨_, _, rfl, _⟩ := h; rfl
  have nd := sc_law_power.nd
  obtain ⟨b, n, rfl, hb, hn, q⟩ := h
  refine ⟨_, (pss_cons (ps_set (i := 2) nd rfl (.inl rfl) pe_int)
    (pss_cons (ps_for PassesOwn.never rfl (pi_range1 (by rfl) T.n_range (pa_cons (pv 1) pa_nil)) (pg_name (i := 3) nd rfl (Or.inl rfl)) (pss_one (ps_set (i := 2) nd rfl (.inl rfl) (pe_op op_mul (pv 2) (pv 0)))))
    (pss_one (ps_ret (pv 2))))), ?_⟩
  walk_at "rd"
  refine KR.rngI n rfl (by omega) (KR.fwR (fun k σ' H' => H' = H ∧ ∃ z, σ' = [some (.int b), some (.int n), some (.int (b ^ k : Nat)), z]) ⟨rfl, none, rfl⟩ ?_ ?_)
  · rintro k σ' H' hk ⟨rfl, z, rfl⟩
    walk_at "rd"
    exact ⟨rfl, some (.int k), by rw [Nat.pow_succ]; rfl⟩
  · rintro σ' H' ⟨rfl, z, rfl⟩
    walk_at "rd"
    exact q
def sp_law_summed : Sp := fun vs H Q _ => ∃ p n : Nat, vs = [.int p, .int n] ∧ 2 ≤ p ∧ p < 100 ∧ n < 2 ^ 100000 ∧ ∀ J, n < p ^ J → Q (.int (S p J n : Nat)) H
theorem ok_law_summed (T : Txt P K mg A) : FnOk P w K mg base CX0 1 A.a_law_summed A.d_law_summed ["p", "n"] sp_law_summed := by
  refine T.F_law_summed.ok sc_law_summed (fun vs H Q E h => ?_) (fun cdv Ar outer s H vs Q E hr h => ?_)
  · obtain ⟨_, _, rfl, _⟩ := h; rfl
  have nd := sc_law_summed.nd
  obtain ⟨p, n, rfl, h2, h9, hb, q⟩ := h
  refine ⟨_, (pss_cons (ps_set (i := 2) nd rfl (.inl rfl) pe_int)
    (pss_cons (ps_for PassesOwn.never rfl (pi_range1 (by rfl) T.n_range (pa_cons (pe_op op_add (pe_bits (pv 1)) pe_int) pa_nil)) (pg_name (i := 3) nd rfl (Or.inl rfl)) (pss_cons (ps_set (i := 2) nd rfl (.inl rfl) (pe_op op_add (pv 2) (pe_op op_mod (pe_callTy call_int1 (by rfl) T.n_int (by decide +kernel) (pa_cons (pv 1) pa_nil)) (pv 0))))
    (pss_one (ps_set (i := 1) nd rfl (.inl rfl) (pe_op op_fdiv (pv 1) (pv 0))))))
    (pss_one (ps_ret (pv 2))))), ?_⟩
  walk_at "rd"
  have hB : n < p ^ (Builtin.Int.intBits (n : Int) + 1) := by
    have h1 := bits_lt (n := (n : Int))
    have h3 : 2 ^ (Builtin.Int.intBits (n : Int)) ≤ p ^ (Builtin.Int.intBits (n : Int) + 1) := Nat.le_trans (Nat.pow_le_pow_left h2 _) (Nat.pow_le_pow_right (by omega) (Nat.le_succ _))
    rw [Int.natAbs_natCast] at h1
    omega
  have hB2 : Builtin.Int.intBits (n : Int) ≤ 100000 := bits_le (by rw [Int.natAbs_natCast]; exact hb)
  generalize Builtin.Int.intBits (n : Int) = B at hB hB2 ⊢
  refine KR.rngI (B + 1) rfl (by omega) (KR.fwR (fun k σ' H' => H' = H ∧ ∃ (t r : Nat) (z : Option V), σ' = [some (.int p), some (.int r), some (.int t), z] ∧ t + S p (B + 1 - k) r = S p (B + 1) n) ⟨rfl, 0, n, none, rfl, Nat.zero_add _⟩ ?_ ?_)
  · rintro k σ' H' hk ⟨rfl, t, r, z, rfl, e⟩
    walk_at "rd"
    refine ⟨rfl, t + r % p, r / p, some (.int k), rfl, ?_⟩
    rw [← e, show B + 1 - k = (B + 1 - (k + 1)) + 1 by omega, S]
    omega
  · rintro σ' H' ⟨rfl, t, r, z, rfl, e⟩
    walk_at "rd"
    rw [Nat.sub_self, S, Nat.add_zero] at e
    rw [e]
    exact q _ hB
def sp_law_factorial : Sp := fun vs H Q _ => ∃ p n : Nat, vs = [.int p, .int n] ∧ 2 ≤ p ∧ p < 100 ∧ n < 2 ^ 100000 ∧ ∀ J, n < p ^ J → Q (.int (L p J n : Nat)) H
theorem ok_law_factorial (T : Txt P K mg A) : FnOk P w K mg base CX0 1 A.a_law_factorial A.d_law_factorial ["p", "n"] sp_law_factorial := by
  refine T.F_law_factorial.ok sc_law_factorial (fun vs H Q E h => ?_) (fun cdv Ar outer s H vs Q E hr h => ?_)
  · obtain ⟨_, _, rfl, _⟩ := h; rfl
  have nd := sc_law_factorial.nd
  obtain ⟨p, n, rfl, h2, h9, hb, q⟩ := h
  refine ⟨_, (pss_cons (ps_set (i := 2) nd rfl (.inl rfl) pe_int)
    (pss_cons (ps_for PassesOwn.never rfl (pi_range1 (by rfl) T.n_range (pa_cons (pe_op op_add (pe_bits (pv 1)) pe_int) pa_nil)) (pg_name (i := 3) nd rfl (Or.inl rfl)) (pss_cons (ps_set (i := 1) nd rfl (.inl rfl) (pe_op op_fdiv (pv 1) (pv 0)))
    (pss_one (ps_set (i := 2) nd rfl (.inl rfl) (pe_op op_add (pv 2) (pv 1))))))
    (pss_one (ps_ret (pv 2))))), ?_⟩
  walk_at "rd"
  have hB : n < p ^ (Builtin.Int.intBits (n : Int) + 1) := by
    have h1 := bits_lt (n := (n : Int))
    have h3 : 2 ^ (Builtin.Int.intBits (n : Int)) ≤ p ^ (Builtin.Int.intBits (n : Int) + 1) := Nat.le_trans (Nat.pow_le_pow_left h2 _) (Nat.pow_le_pow_right (by omega) (Nat.le_succ _))
    rw [Int.natAbs_natCast] at h1
    omega
  have hB2 : Builtin.Int.intBits (n : Int) ≤ 100000 := bits_le (by rw [Int.natAbs_natCast]; exact hb)
  generalize Builtin.Int.intBits (n : Int) = B at hB hB2 ⊢
  refine KR.rngI (B + 1) rfl (by omega) (KR.fwR (fun k σ' H' => H' = H ∧ ∃ (t r : Nat) (z : Option V), σ' = [some (.int p), some (.int r), some (.int t), z] ∧ t + L p (B + 1 - k) r = L p (B + 1) n) ⟨rfl, 0, n, none, rfl, Nat.zero_add _⟩ ?_ ?_)
  · rintro k σ' H' hk ⟨rfl, t, r, z, rfl, e⟩
    walk_at "rd"
    refine ⟨rfl, t + r / p, r / p, some (.int k), rfl, ?_⟩
    rw [← e, show B + 1 - k = (B + 1 - (k + 1)) + 1 by omega, L]
    omega
  · rintro σ' H' ⟨rfl, t, r, z, rfl, e⟩
    walk_at "rd"
    rw [Nat.sub_self, L, Nat.add_zero] at e
    rw [e]
    exact q _ hB
def sp_law_carried : Sp := fun vs H Q _ => ∃ p a b : Nat, vs = [.int p, .int a, .int b] ∧ 2 ≤ p ∧ p < 100 ∧ a + b < 2 ^ 100000 ∧ ∀ J, a + b < p ^ J → Q (.int (C p J a b 0 : Nat)) H
theorem ok_law_carried (T : Txt P K mg A) : FnOk P w K mg base CX0 1 A.a_law_carried A.d_law_carried ["p", "a", "b"] sp_law_carried := by
  refine T.F_law_carried.ok sc_law_carried (fun vs H Q E h => ?_) (fun cdv Ar outer s H vs Q E hr h => ?_)
  · obtain ⟨_, _, _, rfl, _⟩ := h; rfl
  have nd := sc_law_carried.nd
  obtain ⟨p, a, b, rfl, h2, h9, hb, q⟩ := h
  refine ⟨_, (pss_cons (ps_set (i := 3) nd rfl (.inl rfl) pe_int)
    (pss_cons (ps_set (i := 4) nd rfl (.inl rfl) (pv 0))
    (pss_cons (ps_for PassesOwn.never rfl (pi_range1 (by rfl) T.n_range (pa_cons (pe_op op_add (pe_bits (pe_op op_add (pv 1) (pv 2))) pe_int) pa_nil)) (pg_name (i := 5) nd rfl (Or.inl rfl)) (pss_cons (ps_if (pt_cmpR op_ge (pe_op op_add (pe_op op_mod (pe_callTy call_int1 (by rfl) T.n_int (by decide +kernel) (pa_cons (pv 1) pa_nil)) (pv 4)) (pe_op op_mod (pe_callTy call_int1 (by rfl) T.n_int (by decide +kernel) (pa_cons (pv 2) pa_nil)) (pv 4))) (pv 4) (nomark _)) (pss_one (ps_set (i := 3) nd rfl (.inl rfl) (pe_op op_add (pv 3) pe_int))) pss_nil)
    (pss_one (ps_set (i := 4) nd rfl (.inl rfl) (pe_op op_mul (pv 4) (pv 0))))))
    (pss_one (ps_ret (pv 3)))))), ?_⟩
  walk_at "rd"
  rw [show ((a : Int) + (b : Int)) = ((a + b : Nat) : Int) from rfl]
  have hB : a + b < p ^ (Builtin.Int.intBits ((a + b : Nat) : Int) + 1) := by
    have h1 := bits_lt (n := ((a + b : Nat) : Int))
    have h3 : 2 ^ (Builtin.Int.intBits ((a + b : Nat) : Int)) ≤ p ^ (Builtin.Int.intBits ((a + b : Nat) : Int) + 1) := Nat.le_trans (Nat.pow_le_pow_left h2 _) (Nat.pow_le_pow_right (by omega) (Nat.le_succ _))
    rw [Int.natAbs_natCast] at h1
    omega
  have hB2 : Builtin.Int.intBits ((a + b : Nat) : Int) ≤ 100000 := bits_le (by rw [Int.natAbs_natCast]; exact hb)
  generalize Builtin.Int.intBits ((a + b : Nat) : Int) = B at hB hB2 ⊢
  refine KR.rngI (B + 1) rfl (by omega) (KR.fwR (fun k σ' H' => H' = H ∧ ∃ (t s : Nat) (z : Option V), σ' = [some (.int p), some (.int a), some (.int b), some (.int t), some (.int s), z] ∧ 0 < s ∧ t + Cl p a b (B + 1 - k) s = Cl p a b (B + 1) p) ⟨rfl, 0, p, none, rfl, by omega, Nat.zero_add _⟩ ?_ ?_)
  · rintro k σ' H' hk ⟨rfl, t, s, z, rfl, hs, e⟩
    rw [show B + 1 - k = (B + 1 - (k + 1)) + 1 by omega, Cl] at e
    walk_at "rd"
    refine KR.iteD (fun hp => ?_) (fun hn => ?_)
    · walk_at "rd"
      refine ⟨rfl, t + 1, s * p, some (.int k), rfl, Nat.mul_pos hs (by omega), ?_⟩
      rw [if_pos (by exact_mod_cast hp)] at e
      rw [← e]; omega
    · walk_at "rd"
      refine ⟨rfl, t, s * p, some (.int k), rfl, Nat.mul_pos hs (by omega), ?_⟩
      rw [if_neg (fun z => hn (by exact_mod_cast z)), Nat.zero_add] at e
      exact e
  · rintro σ' H' ⟨rfl, t, s, z, rfl, hs, e⟩
    walk_at "rd"
    rw [Nat.sub_self, Cl, Nat.add_zero, Cl_C h2] at e
    rw [e]
    exact q _ hB
end
end K7
namespace K7
open PySem PySem.Spec PyProof.Rows L2
local macro_rules | `(tactic| walk_at "rc") => `(tactic| first
  | assumption
  | (show (0 : Int) < _; omega)
  | (show (0 : Int) < _ ∧ _ < (1073741824 : Int); exact ⟨by omega, by omega⟩)
  | (show (-(2 ^ 64 : Int) < _ ∧ _ < (2 ^ 64 : Int)) ∨ _; exact .inl ⟨by omega, by omega⟩)
  | (show _ ∨ (-(2 ^ 64 : Int) < _ ∧ _ < (2 ^ 64 : Int)); exact .inr ⟨by omega, by omega⟩)
  | (show (0 : Int) ≤ _ ∧ _ ≤ (1000000 : Int) ∧ _ < 2 ^ 64; exact ⟨by decide, by decide, by decide⟩))
local macro_rules | `(tactic| walk_at "rd") => `(tactic| repeat (first
  | with_reducible apply KR.seq
  | with_reducible apply KR.asg
  | with_reducible apply KR.drop
  | with_reducible apply KR.ret
  | with_reducible apply KR.retN
  | with_reducible apply KR.next
  | with_reducible apply KR.ifs
  | with_reducible refine KR.var rfl ?_
  | with_reducible refine L2.iteT ?_
  | with_reducible refine L2.iteF ?_
  | with_reducible refine KR.iteNF ?_
  | with_reducible refine KR.iteNT ?_
  | with_reducible apply KR.con
  | with_reducible apply KR.op
  | with_reducible apply KR.opI0
  | ((with_reducible refine KR.opI ?rc ?_); (case rc => walk_at "rc"))
  | with_reducible apply KR.un
  | with_reducible apply KR.unI
  | with_reducible apply KR.eqI
  | with_reducible apply KR.neI
  | with_reducible apply KR.test
  | with_reducible apply KR.tb'
  | with_reducible apply KR.exbl
  | with_reducible apply KR.and'
  | with_reducible apply KR.or'
  | with_reducible apply KR.not'
  | with_reducible apply KR.chain
  | with_reducible apply KR.call
  | with_reducible apply KR.callS
  | with_reducible apply KR.make
  | with_reducible apply KR.bm
  | with_reducible apply KR.errF
  | with_reducible apply KR.cons
  | with_reducible apply KR.nil
  | with_reducible apply KR.cb
  | with_reducible apply KR.cInt1
  | with_reducible apply KR.cI1
  | with_reducible apply KR.cI2
  | with_reducible apply KR.isi_ii
  | with_reducible apply KR.isi_ib
  | with_reducible apply KR.bits
  | with_reducible apply KR.exint
  | with_reducible apply KR.ifx
  | with_reducible refine KR.aug rfl ?_
  | with_reducible apply KR.ipI
  | with_reducible apply KR.for'
  | with_reducible apply KR.rng1
  | with_reducible apply KR.rng2
  | with_reducible apply KR.ilist
  | with_reducible apply KR.itup
  | with_reducible apply KR.tup
  | with_reducible apply KR.lst
  | with_reducible apply KR.andV
  | with_reducible apply KR.orV
  | with_reducible apply KR.notV
  | with_reducible apply KR.asgG
  | with_reducible apply KR.sub
  | with_reducible apply KR.fld
  | with_reducible apply KR.prop
  | with_reducible apply KR.meth
  | with_reducible apply KR.par
  | with_reducible apply KR.parN
  | with_reducible apply KR.raise1
  | with_reducible apply KR.raise0
  | with_reducible apply KR.exv
  | with_reducible apply KR.lc
  | with_reducible apply KR.ienT
  | with_reducible apply KR.sfld
  | with_reducible apply KR.sl
  | with_reducible apply KR.part
  | with_reducible apply KR.nopart
  | with_reducible apply KR.isNo
  | with_reducible refine KR.nnT ?_
  | with_reducible refine KR.niF ?_
  | with_reducible refine KR.nrF ?_
  | with_reducible refine KR.mnT ?_
  | with_reducible refine KR.miF ?_
  | with_reducible refine KR.mrF ?_))
theorem vI_of {p v : Nat} {n r : Int} (hp : 2 ≤ p) (e : n = (p : Int) ^ v * r) (hr : r % (p : Int) ≠ 0) : vI p n = v := by
  refine vN_unique hp (r := r.natAbs) ?_ fun z => hr ?_
  · rw [e, Int.natAbs_mul, Int.natAbs_pow, Int.natAbs_natCast]
  · have h1 : p ∣ r.natAbs := Nat.dvd_of_mod_eq_zero z
    have h2 : (p : Int) ∣ r := Int.ofNat_dvd_left.mpr h1
    exact Int.emod_eq_zero_of_dvd h2
theorem div_p {p : Nat} {r : Int} (hr : r % (p : Int) = 0) : r = (p : Int) * (r / p) := (Int.mul_ediv_cancel' (Int.dvd_of_emod_eq_zero hr)).symm
theorem div_ne {p : Nat} {r : Int} (h : r ≠ 0) (hr : r % (p : Int) = 0) : r / (p : Int) ≠ 0 := fun z => h (by rw [div_p hr, z, Int.mul_zero])
theorem div_small {p : Nat} {r : Int} (hp : 2 ≤ p) (h : r ≠ 0) (hr : r % (p : Int) = 0) : (r / (p : Int)).natAbs < r.natAbs := by
  have e := div_p hr
  have h1 : r.natAbs = p * (r / (p : Int)).natAbs := by
    have e2 := congrArg Int.natAbs e
    rw [Int.natAbs_mul, Int.natAbs_natCast] at e2
    exact e2
  have h2 : 0 < (r / (p : Int)).natAbs := Int.natAbs_pos.mpr (div_ne h hr)
  rw [h1]
  have := Nat.mul_lt_mul_of_pos_right (show 1 < p by omega) h2
  rwa [Nat.one_mul] at this
theorem up_pow {p f : Nat} {n r : Int} (e : n = (p : Int) ^ f * r) (hr : r % (p : Int) = 0) : n = (p : Int) ^ (f + 1) * (r / p) := by
  rw [Int.pow_succ, Int.mul_assoc, ← div_p hr, ← e]
section
variable {P : Program} {w : World} {K : PySem.W.Frag} {mg : Str → Option Value} {base : Heap} {A : Ad}
def sp_parted : Sp := fun vs H Q _ => ∃ (p : Nat) (n : Int), vs = [.int p, .int n] ∧ 2 ≤ p ∧ p < 100 ∧ n ≠ 0 ∧ ∀ (v : Nat) (r : Int), n = (p : Int) ^ v * r → r % (p : Int) ≠ 0 → ∀ a, H a = none → Q (.ref a) (upd H a (.tup [.int v, .int r]))
theorem ok_parted (T : Txt P K mg A) : FnOk P w K mg base CX0 1 A.a_parted A.d_parted ["p", "n"] sp_parted := by
  refine T.F_parted.ok sc_parted (fun vs H Q E h => ?_) (fun cdv Ar outer s H vs Q E hr h => ?_)
  · obtain ⟨_, _, rfl, _⟩ := h; rfl
  have nd := sc_parted.nd
  obtain ⟨p, n, rfl, h2, h9, hn, q⟩ := h
  refine ⟨_, (pss_cons (ps_set (i := 2) nd rfl (.inl rfl) pe_int)
    (pss_cons (ps_set (i := 3) nd rfl (.inl rfl) (pv 1))
    (pss_cons (ps_while PassesOwn.never (pt_cmpR op_eq (pe_op op_mod (pv 3) (pv 0)) pe_int (nomark _)) (pss_cons (ps_set (i := 3) nd rfl (.inl rfl) (pe_op op_fdiv (pv 3) (pv 0)))
    (pss_one (ps_aug (i := 2) nd rfl (.inl rfl) pe_int ip_add))))
    (pss_one (ps_ret (pe_tup (pa_cons (pv 2) (pa_cons (pv 3) pa_nil)))))))), ?_⟩
  walk_at "rd"
  refine KR.whl (fun m σ' H' => ∃ (f : Nat) (r : Int), m = r.natAbs ∧ H' = H ∧ σ' = [some (.int p), some (.int n), some (.int f), some (.int r)] ∧ r ≠ 0 ∧ n = (p : Int) ^ f * r) n.natAbs ⟨0, n, rfl, rfl, rfl, hn, by rw [Int.pow_zero, Int.one_mul]⟩ ?_
  rintro m σ' H' ⟨f, r, rfl, rfl, rfl, hr, e⟩
  walk_at "rd"
  refine KR.iteD (fun hp => KR.turn ?_) (fun hq => ?_)
  · walk_at "rd"
    exact ⟨(r / (p : Int)).natAbs, div_small h2 hr hp, f + 1, r / p, rfl, rfl, rfl, div_ne hr hp, up_pow e hp⟩
  · walk_at "rd"
    exact ⟨by show 2 ≤ sizeLine; decide, fun a ha => q f r e hq a ha⟩
def sp_int_depth : Sp := fun vs H Q _ => ∃ (p : Nat) (n : Int), vs = [.int p, .int n] ∧ 2 ≤ p ∧ p < 100 ∧ n ≠ 0 ∧ ∀ H2, Evl.Ex H H2 → Q (.int (vI p n : Nat)) H2
theorem ok_int_depth (T : Txt P K mg A) : FnOk P w K mg base CX0 2 A.a_int_depth A.d_int_depth ["p", "n"] sp_int_depth := by
  refine T.F_int_depth.ok sc_int_depth (fun vs H Q E h => ?_) (fun cdv Ar outer s H vs Q E hr h => ?_)
  · obtain ⟨_, _, rfl, _⟩ := h; rfl
  have nd := sc_int_depth.nd
  obtain ⟨p, n, rfl, h2, h9, hn, q⟩ := h
  refine ⟨_, (pss_one (ps_ret (pe_ix ix_tup (pe_call (ok_parted T) (hr.mono (by decide)) (by rfl) T.g_parted T.k_parted T.b_parted .nil pass0 (pa_cons (pv 0) (pa_cons (pv 1) pa_nil))) pe_int (fun _ _ => rfl)))), ?_⟩
  walk_at "rd"
  refine ⟨p, n, rfl, h2, h9, hn, fun v r e hr a ha => ?_⟩
  walk_at "rd"
  refine KR.ixT (.inl (.inl upd_same)) (v := .int v) (atI_nat (j := 0) rfl) ?_
  have := q (upd H a (.tup [.int v, .int r])) (Evl.Ex.new ha)
  rw [vI_of h2 e hr] at this
  exact this
def sp_level_of : Sp := fun vs H Q _ => ∃ p i : Nat, vs = [.int p, .int i] ∧ 2 ≤ p ∧ p < 100 ∧ 1 ≤ i ∧ i < 1000000 ∧ ∀ l, p ^ l ≤ i → i < p ^ (l + 1) → Q (.int (l : Nat)) H
theorem ok_level_of (T : Txt P K mg A) : FnOk P w K mg base CX0 1 A.a_level_of A.d_level_of ["p", "i"] sp_level_of := by
  refine T.F_level_of.ok sc_level_of (fun vs H Q E h => ?_) (fun cdv Ar outer s H vs Q E hr h => ?_)
  · obtain ⟨_, _, rfl, _⟩ := h; rfl
  have nd := sc_level_of.nd
  obtain ⟨p, i, rfl, h2, h9, h1, hi, q⟩ := h
  refine ⟨_, (pss_cons (ps_set (i := 2) nd rfl (.inl rfl) pe_int)
    (pss_cons (ps_set (i := 3) nd rfl (.inl rfl) (pv 0))
    (pss_cons (ps_while PassesOwn.never (pt_cmpR op_le (pv 3) (pv 1) (nomark _)) (pss_cons (ps_set (i := 3) nd rfl (.inl rfl) (pe_op op_mul (pv 3) (pv 0)))
    (pss_one (ps_set (i := 2) nd rfl (.inl rfl) (pe_op op_add (pv 2) pe_int)))))
    (pss_one (ps_ret (pv 2)))))), ?_⟩
  walk_at "rd"
  refine KR.whl (fun m σ' H' => ∃ l : Nat, m = i - l ∧ H' = H ∧ σ' = [some (.int p), some (.int i), some (.int l), some (.int (p ^ (l + 1) : Nat))] ∧ p ^ l ≤ i) i ⟨0, rfl, rfl, by rw [Nat.pow_one]; rfl, by rw [Nat.pow_zero]; exact h1⟩ ?_
  rintro m σ' H' ⟨l, rfl, rfl, rfl, hl⟩
  walk_at "rd"
  refine KR.iteD (fun hp => KR.turn ?_) (fun hq => ?_)
  · have hp' : p ^ (l + 1) ≤ i := by exact_mod_cast hp
    walk_at "rd"
    have hlt : l + 1 < p ^ (l + 1) := Nat.lt_pow_self (by omega)
    exact ⟨i - (l + 1), by omega, l + 1, rfl, rfl, by rw [Nat.pow_succ p (l + 1)]; rfl, hp'⟩
  · walk_at "rd"
    have hq' : ¬ p ^ (l + 1) ≤ i := fun z => hq (by exact_mod_cast z)
    exact q l hl (by omega)
def dL (p : Nat) (n : Int) : Nat := if n = 0 then 10000 else vI p n
def sp_law_depth : Sp := fun vs H Q _ => ∃ (p : Nat) (n : Int), vs = [.int p, .int n] ∧ 2 ≤ p ∧ p < 100 ∧ n.natAbs < 2 ^ 100000 ∧ Q (.int (dL p n : Nat)) H
theorem ok_law_depth (T : Txt P K mg A) : FnOk P w K mg base CX0 1 A.a_law_depth A.d_law_depth ["p", "n"] sp_law_depth := by
  refine T.F_law_depth.ok sc_law_depth (fun vs H Q E h => ?_) (fun cdv Ar outer s H vs Q E hr h => ?_)
  · obtain ⟨_, _, rfl, _⟩ := h; rfl
  have nd := sc_law_depth.nd
  obtain ⟨p, n, rfl, h2, h9, hb, q⟩ := h
  refine ⟨_, (pss_cons (ps_for PassesOwn.never rfl (pi_range1 (by rfl) T.n_range (pa_cons (pe_op op_add (pe_bits (pv 1)) pe_int) pa_nil)) (pg_name (i := 2) nd rfl (Or.inl rfl)) (pss_cons (ps_if (pt_cmpR op_ne (pe_op op_mod (pe_callTy call_int1 (by rfl) T.n_int (by decide +kernel) (pa_cons (pv 1) pa_nil)) (pv 0)) pe_int (nomark _)) (pss_one (ps_ret (pv 2))) pss_nil)
    (pss_one (ps_set (i := 1) nd rfl (.inl rfl) (pe_op op_fdiv (pv 1) (pv 0))))))
    (pss_one (ps_ret (pe_op op_pow pe_int pe_int)))), ?_⟩
  walk_at "rd"
  have hB := bits_lt (n := n)
  have hB2 : Builtin.Int.intBits n ≤ 100000 := bits_le hb
  have h0 : n = 0 → Builtin.Int.intBits n = 0 := fun z => by rw [z]; rfl
  generalize Builtin.Int.intBits n = B at hB hB2 h0 ⊢
  refine KR.rngI (B + 1) rfl (by omega) (KR.fwR (fun k σ' H' => H' = H ∧ ∃ (r : Int) (z : Option V), σ' = [some (.int p), some (.int r), z] ∧ n = (p : Int) ^ k * r) ⟨rfl, n, none, rfl, by rw [Int.pow_zero, Int.one_mul]⟩ ?_ ?_)
  · rintro k σ' H' hk ⟨rfl, r, z, rfl, e⟩
    walk_at "rd"
    refine KR.iteND (fun hp => ?_) (fun hq => ?_)
    · walk_at "rd"
      have e0 : n ≠ 0 := fun z => by
        rw [z] at e
        rcases Int.mul_eq_zero.mp e.symm with y | y
        · exact absurd y (Int.pow_ne_zero (by omega))
        · rw [y] at hp; exact hp (Int.zero_emod _)
      have := q
      unfold dL at this
      rw [if_neg e0, vI_of h2 e hp] at this
      exact this
    · walk_at "rd"
      exact ⟨rfl, r / p, some (.int k), rfl, up_pow e hq⟩
  · rintro σ' H' ⟨rfl, r, z, rfl, e⟩
    walk_at "rd"
    have e0 : n = 0 := by
      by_cases hn : n = 0
      · exact hn
      · exfalso
        have h3 : (p ^ (B + 1)) ∣ n.natAbs := by
          rw [e, Int.natAbs_mul, Int.natAbs_pow, Int.natAbs_natCast]
          exact Nat.dvd_mul_right _ _
        have h4 := Nat.le_of_dvd (Int.natAbs_pos.mpr hn) h3
        have h5 : 2 ^ B ≤ p ^ (B + 1) := Nat.le_trans (Nat.pow_le_pow_left h2 _) (Nat.pow_le_pow_right (by omega) (Nat.le_succ _))
        omega
    have := q
    unfold dL at this
    rw [if_pos e0] at this
    exact this
def sp_law_step : Sp := fun vs H Q _ => ∃ p i : Nat, vs = [.int p, .int i] ∧ 2 ≤ p ∧ p < 100 ∧ i < 30 ∧ ∀ l, (i = 0 ∧ l = 0 ∨ p ^ l ≤ i) → i < p ^ (l + 1) → Q (.int (l : Nat)) H
theorem ok_law_step (T : Txt P K mg A) : FnOk P w K mg base CX0 1 A.a_law_step A.d_law_step ["p", "i"] sp_law_step := by
  refine T.F_law_step.ok sc_law_step (fun vs H Q E h => ?_) (fun cdv Ar outer s H vs Q E hr h => ?_)
  · obtain ⟨_, _, rfl, _⟩ := h; rfl
  have nd := sc_law_step.nd
  obtain ⟨p, i, rfl, h2, h9, hi, q⟩ := h
  obtain ⟨l, hl, hl2⟩ : ∃ l, (i = 0 ∧ l = 0 ∨ p ^ l ≤ i) ∧ i < p ^ (l + 1) := by
    by_cases h0 : i = 0
    · exact ⟨0, .inl ⟨h0, rfl⟩, by rw [h0]; exact Nat.pow_pos (by omega)⟩
    · have : ∀ m, i < p ^ m → ∃ l, p ^ l ≤ i ∧ i < p ^ (l + 1) := fun m => by
        induction m with
        | zero => intro h; rw [Nat.pow_zero] at h; omega
        | succ m ih =>
          intro h
          by_cases c : i < p ^ m
          · exact ih c
          · exact ⟨m, by omega, h⟩
      obtain ⟨l, a, b⟩ := this i (Nat.lt_pow_self (by omega))
      exact ⟨l, .inr a, b⟩
  have hl6 : l < 6 := by
    rcases hl with ⟨_, z⟩ | z
    · omega
    · by_cases c : l < 6
      · exact c
      · exfalso
        have h5 : 2 ^ 6 ≤ p ^ l := Nat.le_trans (Nat.pow_le_pow_left h2 6) (Nat.pow_le_pow_right (by omega) (by omega))
        omega
  refine ⟨_, (pss_cons (ps_set (i := 2) nd rfl (.inl rfl) pe_int)
    (pss_cons (ps_set (i := 3) nd rfl (.inl rfl) (pv 0))
    (pss_cons (ps_for PassesOwn.never rfl (pi_range1 (by rfl) T.n_range (pa_cons pe_int pa_nil)) (pg_name (i := 4) nd rfl (Or.inl rfl)) (pss_one (ps_if (pt_cmpR op_le (pv 3) (pv 1) (nomark _)) (pss_cons (ps_set (i := 3) nd rfl (.inl rfl) (pe_op op_mul (pv 3) (pv 0)))
    (pss_one (ps_set (i := 2) nd rfl (.inl rfl) (pe_op op_add (pv 2) pe_int)))) pss_nil)))
    (pss_one (ps_ret (pv 2)))))), ?_⟩
  walk_at "rd"
  refine KR.rngI 6 rfl (by omega) (KR.fwR (fun k σ' H' => H' = H ∧ ∃ (z : Option V), σ' = [some (.int p), some (.int i), some (.int (min k l : Nat)), some (.int (p ^ (min k l + 1) : Nat)), z]) ⟨rfl, none, by rw [Nat.zero_min, Nat.zero_add, Nat.pow_one]; rfl⟩ ?_ ?_)
  · rintro k σ' H' hk ⟨rfl, z, rfl⟩
    walk_at "rd"
    refine KR.iteD (fun hp => ?_) (fun hq => ?_)
    · have hp' : p ^ (min k l + 1) ≤ i := by exact_mod_cast hp
      have hkl : k < l := by
        by_cases c : k < l
        · exact c
        · rw [Nat.min_eq_right (by omega)] at hp'; omega
      walk_at "rd"
      refine ⟨rfl, some (.int k), ?_⟩
      rw [Nat.min_eq_left (by omega : k ≤ l), Nat.min_eq_left (by omega : k + 1 ≤ l), Nat.pow_succ p (k + 1)]
      rfl
    · have hq' : ¬ p ^ (min k l + 1) ≤ i := fun z => hq (by exact_mod_cast z)
      have hkl : l ≤ k := by
        by_cases c : l ≤ k
        · exact c
        · exfalso
          rw [Nat.min_eq_left (by omega)] at hq'
          rcases hl with ⟨_, z⟩ | z
          · omega
          · exact hq' (Nat.le_trans (Nat.pow_le_pow_right (by omega) (by omega)) z)
      walk_at "rd"
      refine ⟨rfl, some (.int k), ?_⟩
      rw [Nat.min_eq_right hkl, Nat.min_eq_right (by omega : l ≤ k + 1)]
      rfl
  · rintro σ' H' ⟨rfl, z, rfl⟩
    walk_at "rd"
    rw [Nat.min_eq_right (by omega : l ≤ 6)]
    exact q l hl hl2
theorem fac29 : ∀ i, i < 30 → fac i < 2 ^ 110 := by decide +kernel
def sp_law_choose : Sp := fun vs H Q _ => ∃ (n : Int) (i : Nat), vs = [.int n, .int i] ∧ n.natAbs < 2 ^ 60 ∧ i < 30 ∧ Q (.int (bz n i)) H
theorem ok_law_choose (T : Txt P K mg A) : FnOk P w K mg base CX0 1 A.a_law_choose A.d_law_choose ["n", "i"] sp_law_choose := by
  refine T.F_law_choose.ok sc_law_choose (fun vs H Q E h => ?_) (fun cdv Ar outer s H vs Q E hr h => ?_)
  · obtain ⟨_, _, rfl, _⟩ := h; rfl
  have nd := sc_law_choose.nd
  obtain ⟨n, i, rfl, hn, hi, q⟩ := h
  refine ⟨_, (pss_cons (ps_set (i := 2) nd rfl (.inl rfl) pe_int)
    (pss_cons (ps_if (pt_cmpR op_lt (pv 0) pe_int (nomark _)) (pss_cons (ps_set (i := 2) nd rfl (.inl rfl) (pe_op op_sub pe_int (pe_op op_mul pe_int (pe_op op_mod (pv 1) pe_int))))
    (pss_one (ps_set (i := 0) nd rfl (.inl rfl) (pe_op op_sub (pe_op op_sub (pv 1) (pv 0)) pe_int)))) pss_nil)
    (pss_cons (ps_set (i := 3) nd rfl (.inl rfl) pe_int)
    (pss_cons (ps_set (i := 4) nd rfl (.inl rfl) pe_int)
    (pss_cons (ps_for PassesOwn.never rfl (pi_range1 (by rfl) T.n_range (pa_cons (pv 1) pa_nil)) (pg_name (i := 5) nd rfl (Or.inl rfl)) (pss_cons (ps_set (i := 3) nd rfl (.inl rfl) (pe_op op_mul (pv 3) (pe_op op_sub (pv 0) (pv 5))))
    (pss_one (ps_set (i := 4) nd rfl (.inl rfl) (pe_op op_mul (pv 4) (pe_op op_add (pv 5) pe_int))))))
    (pss_one (ps_ret (pe_op op_mul (pv 2) (pe_op op_fdivW (pv 3) (pv 4)))))))))), ?_⟩
  have fin : ∀ (sg nn : Int) (y : Option V), nn.natAbs < 2 ^ 62 → sg.natAbs ≤ 1 → sg * bz nn i = bz n i → KR.FW (Itr 0 i) (gName 5) (tSeq (tAsg (tOp (rI CMul fun i j => V.int (i * j)) (tVar 3) (tOp (rI0 fun i j => V.int (i - j)) (tVar 0) (tVar 5))) (gName 3))
      (tAsg (tOp (rI CMul fun i j => V.int (i * j)) (tVar 4) (tOp (rI0 fun i j => V.int (i + j)) (tVar 5) (tC (V.int 1)))) (gName 4))) { nx := tRet (tOp (rI CMul fun i j => V.int (i * j)) (tVar 2) (tOp (rI CDivW fun i j => V.int (i / j)) (tVar 3) (tVar 4))) { nx := fun x H' => Q V.non H', rt := Q }, rt := Q }
      [some (.int nn), some (.int i), some (.int sg), some (.int 1), some (.int 1), y] H := fun sg nn y hnn hsg e => by
    refine KR.fwR (fun k σ' H' => H' = H ∧ ∃ (z : Option V), σ' = [some (.int nn), some (.int i), some (.int sg), some (.int (D nn k)), some (.int (facI k)), z]) ⟨rfl, y, rfl⟩ ?_ ?_
    · rintro k σ' H' hk ⟨rfl, z, rfl⟩
      walk_at "rd"
      exact ⟨rfl, some (.int k), by rw [facI_succ, D]; rfl⟩
    · rintro σ' H' ⟨rfl, z, rfl⟩
      have hw : CDivW (D nn i) (facI i) := wide_div (facI_pos i) (b := 110) (by show ((fac i : Nat) : Int).natAbs < _; rw [Int.natAbs_natCast]; exact fac29 i hi) (by decide) (by decide)
      have hs : CMul sg (D nn i / facI i) := .inl ⟨by omega, by omega⟩
      walk_at "rd"
      rw [show D nn i / facI i = bz nn i from rfl, e]
      exact q
  walk_at "rd"
  refine KR.iteD (fun hp => ?_) (fun hq => ?_)
  · walk_at "rd"
    refine KR.rngI i rfl (by omega) (fin _ _ _ ?_ ?_ ?_)
    · omega
    · omega
    · rw [bz_refl n i]
      congr 1
      split <;> omega
  · walk_at "rd"
    exact KR.rngI i rfl (by omega) (fin 1 n none (by omega) (by decide) (Int.one_mul _))
def sp_law_is : Sp := fun vs H Q _ => ∃ a b : Int, vs = [.int a, .int b] ∧ Q (.bl (decide (a = b))) H
theorem ok_law_is (T : Txt P K mg A) : FnOk P w K mg base CX0 1 A.a_law_is A.d_law_is ["told", "due"] sp_law_is := by
  refine T.F_law_is.ok sc_law_is (fun vs H Q E h => ?_) (fun cdv Ar outer s H vs Q E hr h => ?_)
  · obtain ⟨_, _, rfl, _⟩ := h; rfl
  have nd := sc_law_is.nd
  obtain ⟨a, b, rfl, q⟩ := h
  refine ⟨_, (pss_one (ps_ret (pe_and (pe_callB call_isi (by rfl) T.n_isinstance (by decide +kernel) (pa_cons (pv 0) (pa_cons (pe_bltn (v := .ty "int") (by rfl) T.n_int (by decide +kernel) rfl) pa_nil))) (pe_and (pe_not (pe_callB call_isi (by rfl) T.n_isinstance (by decide +kernel) (pa_cons (pv 0) (pa_cons (pe_bltn (v := .ty "bool") (by rfl) T.n_bool (by decide +kernel) rfl) pa_nil)))) (pe_one (pe_cmpR op_eq (pv 0) (pv 1) (nomark _))))))), ?_⟩
  walk_at "rd"
  exact q
def sp_law_number : Sp := fun vs H Q _ => ∃ a : Int, vs = [.int a] ∧ Q (.int a) H
theorem ok_law_number (T : Txt P K mg A) : FnOk P w K mg base CX0 1 A.a_law_number A.d_law_number ["told"] sp_law_number := by
  refine T.F_law_number.ok sc_law_number (fun vs H Q E h => ?_) (fun cdv Ar outer s H vs Q E hr h => ?_)
  · obtain ⟨_, rfl, _⟩ := h; rfl
  have nd := sc_law_number.nd
  obtain ⟨a, rfl, q⟩ := h
  refine ⟨_, (pss_cons (ps_if (PW.pt (pw_and (pt_val (pe_callB call_isi (by rfl) T.n_isinstance (by decide +kernel) (pa_cons (pv 0) (pa_cons (pe_bltn (v := .ty "int") (by rfl) T.n_int (by decide +kernel) rfl) pa_nil)))) (pw_and1 (pt_not (pt_val (pe_callB call_isi (by rfl) T.n_isinstance (by decide +kernel) (pa_cons (pv 0) (pa_cons (pe_bltn (v := .ty "bool") (by rfl) T.n_bool (by decide +kernel) rfl) pa_nil)))))))) (pss_one (ps_ret (pv 0))) pss_nil)
    (pss_one (ps_ret pe_non))), ?_⟩
  walk_at "rd"
  exact q
end
end K7
namespace K7
open PySem PySem.Spec PyProof.Rows L2
local macro_rules | `(tactic| walk_at "rc") => `(tactic| first
  | assumption
  | (show (0 : Int) < _; omega)
  | (show (0 : Int) < _ ∧ _ < (1073741824 : Int); exact ⟨by omega, by omega⟩)
  | (show (-(2 ^ 64 : Int) < _ ∧ _ < (2 ^ 64 : Int)) ∨ _; exact .inl ⟨by omega, by omega⟩)
  | (show _ ∨ (-(2 ^ 64 : Int) < _ ∧ _ < (2 ^ 64 : Int)); exact .inr ⟨by omega, by omega⟩)
  | (show (0 : Int) ≤ _ ∧ _ ≤ (1000000 : Int) ∧ _ < 2 ^ 64; exact ⟨by decide, by decide, by decide⟩))
local macro_rules | `(tactic| walk_at "rd") => `(tactic| repeat (first
  | with_reducible apply KR.seq
  | with_reducible apply KR.asg
  | with_reducible apply KR.drop
  | with_reducible apply KR.ret
  | with_reducible apply KR.retN
  | with_reducible apply KR.next
  | with_reducible apply KR.ifs
  | with_reducible refine KR.var rfl ?_
  | with_reducible refine L2.iteT ?_
  | with_reducible refine L2.iteF ?_
  | with_reducible refine KR.iteNF ?_
  | with_reducible refine KR.iteNT ?_
  | with_reducible apply KR.con
  | with_reducible apply KR.op
  | with_reducible apply KR.opI0
  | ((with_reducible refine KR.opI ?rc ?_); (case rc => walk_at "rc"))
  | with_reducible apply KR.un
  | with_reducible apply KR.unI
  | with_reducible apply KR.eqI
  | with_reducible apply KR.neI
  | with_reducible apply KR.test
  | with_reducible apply KR.tb'
  | with_reducible apply KR.exbl
  | with_reducible apply KR.and'
  | with_reducible apply KR.or'
  | with_reducible apply KR.not'
  | with_reducible apply KR.chain
  | with_reducible apply KR.call
  | with_reducible apply KR.callS
  | with_reducible apply KR.make
  | with_reducible apply KR.bm
  | with_reducible apply KR.errF
  | with_reducible apply KR.cons
  | with_reducible apply KR.nil
  | with_reducible apply KR.cb
  | with_reducible apply KR.cInt1
  | with_reducible apply KR.cI1
  | with_reducible apply KR.cI2
  | with_reducible apply KR.isi_ii
  | with_reducible apply KR.isi_ib
  | with_reducible apply KR.bits
  | with_reducible apply KR.exint
  | with_reducible apply KR.ifx
  | with_reducible refine KR.aug rfl ?_
  | with_reducible apply KR.ipI
  | with_reducible apply KR.for'
  | with_reducible apply KR.rng1
  | with_reducible apply KR.rng2
  | with_reducible apply KR.ilist
  | with_reducible apply KR.itup
  | with_reducible apply KR.tup
  | with_reducible apply KR.lst
  | with_reducible apply KR.andV
  | with_reducible apply KR.orV
  | with_reducible apply KR.notV
  | with_reducible apply KR.asgG
  | with_reducible apply KR.sub
  | with_reducible apply KR.fld
  | with_reducible apply KR.prop
  | with_reducible apply KR.meth
  | with_reducible apply KR.par
  | with_reducible apply KR.parN
  | with_reducible apply KR.raise1
  | with_reducible apply KR.raise0
  | with_reducible apply KR.exv
  | with_reducible apply KR.lc
  | with_reducible apply KR.ienT
  | with_reducible apply KR.sfld
  | with_reducible apply KR.sl
  | with_reducible apply KR.part
  | with_reducible apply KR.nopart
  | with_reducible apply KR.isNo
  | with_reducible refine KR.nnT ?_
  | with_reducible refine KR.niF ?_
  | with_reducible refine KR.nrF ?_
  | with_reducible refine KR.mnT ?_
  | with_reducible refine KR.miF ?_
  | with_reducible refine KR.mrF ?_))
theorem inV_int (a : Int) (l : List Int) : inV (.int a) (l.map V.int) = decide (a ∈ l) := by
  unfold inV
  induction l with
  | nil => rfl
  | cons x r ih =>
    rw [List.map_cons, List.any_cons, ih]
    show ((x == a) || _) = _
    by_cases h : x = a
    · rw [h]; simp
    · have h' : ¬ a = x := fun z => h z.symm
      simp [h, h']
theorem flat_ints (l : List Int) : (l.map V.int).all flatV = true := by
  rw [List.all_map, List.all_eq_true]
  intro x _
  rfl
abbrev M60 : Int := 1000000000000000000000000000000000000000000000000000000000000
abbrev errD (A : Addr) (E : XK) (H : Hp) (a : Int) : Prop := ∀ d, H d = none → E (.ref A) (some d) (upd H d (.xd [(("number" : Str), .int a)]))
section
variable {P : Program} {w : World} {K : PySem.W.Frag} {mg : Str → Option Value} {base : Heap} {A : Ad}
theorem Txt.sqSP (T : Txt P K mg A) (H : Hp) : SqT K H A.aSP (primesL.map V.int) := by
  obtain ⟨dd, its, n, sl, h1, h2, h3⟩ := T.tSP
  exact .inr ⟨_, its, n, h1, rfl, rfl, h2, h3⟩
def sp_look_prime (A : Ad) : Sp := fun vs H Q E => ∃ a : Int, vs = [.int a] ∧ (a ∈ primesL → Q .non H) ∧ (a ∉ primesL → errD A.a_PrimeError E H a)
theorem ok_look_prime (T : Txt P K mg A) : FnOk P w K mg base (L2N.CX P w) 2 A.a_look_prime A.d_look_prime ["p"] (sp_look_prime A) := by
  refine T.F_look_prime.okN sc_look_prime (fun vs H Q E h => ?_) (fun cdv Ar outer s H vs Q E hr h => ?_)
  · obtain ⟨_, rfl, _⟩ := h; rfl
  have nd := sc_look_prime.nd
  obtain ⟨a, rfl, q, e⟩ := h
  refine ⟨_, (pss_one (ps_if (pt_cmpR op_notIn_seq (pv 0) (pe_glob (v := .ref A.aSP) (by rfl) T.c_SMALL_PRIMES rfl) (by rfl)) (pss_one (ps_raise1 rfl T.e_PrimeError PySem.KX.fld_number hr (L2N.takes_of rfl rfl rfl rfl) (pa_cons (pv 0) pa_nil) (by rfl))) pss_nil)), ?_⟩
  walk_at "rd"
  refine ⟨A.aSP, _, rfl, .inr (T.sqSP H), rfl, flat_ints _, ?_⟩
  rw [inV_int]
  walk_at "rd"
  refine KR.iteND (fun hn => ?_) (fun hp => ?_)
  · walk_at "rd"
    exact fun d hd => e hn d hd
  · walk_at "rd"
    exact q hp
def sp_look_range (A : Ad) : Sp := fun vs H Q E => ∃ a lo hi : Int, vs = [.int a, .int lo, .int hi] ∧ (lo ≤ a ∧ a ≤ hi → Q .non H) ∧ (¬ (lo ≤ a ∧ a ≤ hi) → errD A.a_RangeError E H a)
theorem ok_look_range (T : Txt P K mg A) : FnOk P w K mg base (L2N.CX P w) 2 A.a_look_range A.d_look_range ["number", "low", "high"] (sp_look_range A) := by
  refine T.F_look_range.okN sc_look_range (fun vs H Q E h => ?_) (fun cdv Ar outer s H vs Q E hr h => ?_)
  · obtain ⟨_, _, _, rfl, _⟩ := h; rfl
  have nd := sc_look_range.nd
  obtain ⟨a, lo, hi, rfl, q, e⟩ := h
  refine ⟨_, (pss_one (ps_if (pt_not (pt_chain op_le op_le (pv 1) (pv 0) (pv 2))) (pss_one (ps_raise1 rfl T.e_RangeError PySem.KX.fld_number hr (L2N.takes_of rfl rfl rfl rfl) (pa_cons (pv 0) pa_nil) (by rfl))) pss_nil)), ?_⟩
  walk_at "rd"
  refine KR.iteD (fun h1 => ?_) (fun h1 => ?_)
  · walk_at "rd"
    refine KR.iteND (fun hn => ?_) (fun hp => ?_)
    · walk_at "rd"
      exact fun d hd => e (fun z => hn z.2) d hd
    · walk_at "rd"
      exact q ⟨h1, hp⟩
  · walk_at "rd"
    exact fun d hd => e (fun z => h1 z.1) d hd
def sp_digit_sum (A : Ad) : Sp := fun vs H Q E => ∃ p n : Int, vs = [.int p, .int n] ∧
  (p ∉ primesL → errD A.a_PrimeError E H p) ∧ (p ∈ primesL → (¬ (0 ≤ n ∧ n ≤ M60) → errD A.a_RangeError E H n) ∧ (0 ≤ n ∧ n ≤ M60 → ∀ J, n.toNat < p.toNat ^ J → Q (.int (S p.toNat J n.toNat : Nat)) H))
theorem pr_of {p : Int} (h : p ∈ primesL) : ∃ q : Nat, p = (q : Int) ∧ 2 ≤ q ∧ q < 100 := by
  have : ∀ x ∈ primesL, 2 ≤ x ∧ x < 100 := by decide
  obtain ⟨h1, h2⟩ := this p h
  exact ⟨p.toNat, by omega, by omega, by omega⟩
theorem ok_digit_sum (T : Txt P K mg A) : FnOk P w K mg base (L2N.CX P w) 3 A.a_digit_sum A.d_digit_sum ["p", "n"] (sp_digit_sum A) := by
  refine T.F_digit_sum.okN sc_digit_sum (fun vs H Q E h => ?_) (fun cdv Ar outer s H vs Q E hr h => ?_)
  · obtain ⟨_, _, rfl, _⟩ := h; rfl
  have nd := sc_digit_sum.nd
  obtain ⟨p, n, rfl, e1, h⟩ := h
  refine ⟨_, (pss_cons (ps_expr (pe_call (ok_look_prime T) (hr.mono (by decide)) (by rfl) T.g_look_prime T.k_look_prime T.b_look_prime .nil (L2N.passes_call (L2N.takes_of rfl rfl rfl rfl) (fun _ _ _ _ h => h)) (pa_cons (pv 0) pa_nil)))
    (pss_cons (ps_expr (pe_call (ok_look_range T) (hr.mono (by decide)) (by rfl) T.g_look_range T.k_look_range T.b_look_range .nil (L2N.passes_call (L2N.takes_of rfl rfl rfl rfl) (fun _ _ _ _ h => h)) (pa_cons (pv 1) (pa_cons pe_int (pa_cons (KR.pe_gI (by rfl) T.c_MOST_COUNTED) pa_nil)))))
    (pss_one (ps_ret (pe_call (ok_summed_digits T) (hr.mono (by decide)) (by rfl) T.g_summed_digits T.k_summed_digits T.b_summed_digits .nil pass0 (pa_cons (pv 0) (pa_cons (pv 1) pa_nil))))))), ?_⟩
  walk_at "rd"
  refine ⟨p, rfl, fun hp => ?_, e1⟩
  obtain ⟨e2, q⟩ := h hp
  walk_at "rd"
  refine ⟨n, 0, _, rfl, fun hn => ?_, e2⟩
  walk_at "rd"
  obtain ⟨p', rfl, h2, h9⟩ := pr_of hp
  obtain ⟨n', rfl⟩ := Int.eq_ofNat_of_zero_le hn.1
  exact ⟨p', n', rfl, h2, h9, fun J hJ => q hn J hJ⟩
def sp_carries (A : Ad) : Sp := fun vs H Q E => ∃ p a b : Int, vs = [.int p, .int a, .int b] ∧
  (p ∉ primesL → errD A.a_PrimeError E H p) ∧ (p ∈ primesL → (¬ (0 ≤ a ∧ a ≤ M60) → errD A.a_RangeError E H a) ∧ (0 ≤ a ∧ a ≤ M60 → (¬ (0 ≤ b ∧ b ≤ M60) → errD A.a_RangeError E H b) ∧
    (0 ≤ b ∧ b ≤ M60 → ∀ J, a.toNat < p.toNat ^ J → b.toNat < p.toNat ^ J → Q (.int (C p.toNat J a.toNat b.toNat 0 : Nat)) H)))
theorem ok_carries (T : Txt P K mg A) : FnOk P w K mg base (L2N.CX P w) 3 A.a_carries A.d_carries ["p", "a", "b"] (sp_carries A) := by
  refine T.F_carries.okN sc_carries (fun vs H Q E h => ?_) (fun cdv Ar outer s H vs Q E hr h => ?_)
  · obtain ⟨_, _, _, rfl, _⟩ := h; rfl
  have nd := sc_carries.nd
  obtain ⟨p, a, b, rfl, e1, h⟩ := h
  refine ⟨_, (pss_cons (ps_expr (pe_call (ok_look_prime T) (hr.mono (by decide)) (by rfl) T.g_look_prime T.k_look_prime T.b_look_prime .nil (L2N.passes_call (L2N.takes_of rfl rfl rfl rfl) (fun _ _ _ _ h => h)) (pa_cons (pv 0) pa_nil)))
    (pss_cons (ps_expr (pe_call (ok_look_range T) (hr.mono (by decide)) (by rfl) T.g_look_range T.k_look_range T.b_look_range .nil (L2N.passes_call (L2N.takes_of rfl rfl rfl rfl) (fun _ _ _ _ h => h)) (pa_cons (pv 1) (pa_cons pe_int (pa_cons (KR.pe_gI (by rfl) T.c_MOST_COUNTED) pa_nil)))))
    (pss_cons (ps_expr (pe_call (ok_look_range T) (hr.mono (by decide)) (by rfl) T.g_look_range T.k_look_range T.b_look_range .nil (L2N.passes_call (L2N.takes_of rfl rfl rfl rfl) (fun _ _ _ _ h => h)) (pa_cons (pv 2) (pa_cons pe_int (pa_cons (KR.pe_gI (by rfl) T.c_MOST_COUNTED) pa_nil)))))
    (pss_one (ps_ret (pe_call (ok_counted_carries T) (hr.mono (by decide)) (by rfl) T.g_counted_carries T.k_counted_carries T.b_counted_carries .nil pass0 (pa_cons (pv 0) (pa_cons (pv 1) (pa_cons (pv 2) pa_nil))))))))), ?_⟩
  walk_at "rd"
  refine ⟨p, rfl, fun hp => ?_, e1⟩
  obtain ⟨e2, h⟩ := h hp
  walk_at "rd"
  refine ⟨a, 0, _, rfl, fun ha => ?_, e2⟩
  obtain ⟨e3, q⟩ := h ha
  walk_at "rd"
  refine ⟨b, 0, _, rfl, fun hb => ?_, e3⟩
  walk_at "rd"
  obtain ⟨p', rfl, h2, h9⟩ := pr_of hp
  obtain ⟨a', rfl⟩ := Int.eq_ofNat_of_zero_le ha.1
  obtain ⟨b', rfl⟩ := Int.eq_ofNat_of_zero_le hb.1
  exact ⟨p', a', b', rfl, h2, h9, fun J h1 h2 => q hb J h1 h2⟩
def sp_factorial_depth (A : Ad) : Sp := fun vs H Q E => ∃ p n : Int, vs = [.int p, .int n] ∧
  (p ∉ primesL → errD A.a_PrimeError E H p) ∧ (p ∈ primesL → (¬ (0 ≤ n ∧ n ≤ M60) → errD A.a_RangeError E H n) ∧ (0 ≤ n ∧ n ≤ M60 → ∀ J, n.toNat < p.toNat ^ J → Q (.int (L p.toNat J n.toNat : Nat)) H))
theorem ok_factorial_depth (T : Txt P K mg A) : FnOk P w K mg base (L2N.CX P w) 3 A.a_factorial_depth A.d_factorial_depth ["p", "n"] (sp_factorial_depth A) := by
  refine T.F_factorial_depth.okN sc_factorial_depth (fun vs H Q E h => ?_) (fun cdv Ar outer s H vs Q E hr h => ?_)
  · obtain ⟨_, _, rfl, _⟩ := h; rfl
  have nd := sc_factorial_depth.nd
  obtain ⟨p, n, rfl, e1, h⟩ := h
  refine ⟨_, (pss_cons (ps_expr (pe_call (ok_look_prime T) (hr.mono (by decide)) (by rfl) T.g_look_prime T.k_look_prime T.b_look_prime .nil (L2N.passes_call (L2N.takes_of rfl rfl rfl rfl) (fun _ _ _ _ h => h)) (pa_cons (pv 0) pa_nil)))
    (pss_cons (ps_expr (pe_call (ok_look_range T) (hr.mono (by decide)) (by rfl) T.g_look_range T.k_look_range T.b_look_range .nil (L2N.passes_call (L2N.takes_of rfl rfl rfl rfl) (fun _ _ _ _ h => h)) (pa_cons (pv 1) (pa_cons pe_int (pa_cons (KR.pe_gI (by rfl) T.c_MOST_COUNTED) pa_nil)))))
    (pss_one (ps_ret (pe_op op_fdiv (pe_op op_sub (pv 1) (pe_call (ok_summed_digits T) (hr.mono (by decide)) (by rfl) T.g_summed_digits T.k_summed_digits T.b_summed_digits .nil pass0 (pa_cons (pv 0) (pa_cons (pv 1) pa_nil)))) (pe_op op_sub (pv 0) pe_int)))))), ?_⟩
  walk_at "rd"
  refine ⟨p, rfl, fun hp => ?_, e1⟩
  obtain ⟨e2, q⟩ := h hp
  walk_at "rd"
  refine ⟨n, 0, _, rfl, fun hn => ?_, e2⟩
  walk_at "rd"
  obtain ⟨p', rfl, h2, h9⟩ := pr_of hp
  obtain ⟨n', rfl⟩ := Int.eq_ofNat_of_zero_le hn.1
  refine ⟨p', n', rfl, h2, h9, fun J hJ => ?_⟩
  walk_at "rd"
  have e := S_L h2 J n' hJ
  have e3 : ((n' : Int) - (S p' J n' : Nat)) / ((p' : Int) - 1) = (L p' J n' : Nat) := by
    have e4 : (n' : Int) - (S p' J n' : Nat) = ((p' : Int) - 1) * (L p' J n' : Nat) := by
      have e5 : ((p' - 1 : Nat) : Int) = (p' : Int) - 1 := by omega
      rw [← e5, ← Int.natCast_mul]
      omega
    rw [e4, Int.mul_ediv_cancel_left _ (by omega)]
  rw [e3]
  exact q hn J hJ
def sp_choose_depth (A : Ad) : Sp := fun vs H Q E => ∃ p n k : Int, vs = [.int p, .int n, .int k] ∧
  (p ∉ primesL → errD A.a_PrimeError E H p) ∧ (p ∈ primesL → (¬ (0 ≤ n ∧ n ≤ M60) → errD A.a_RangeError E H n) ∧ (0 ≤ n ∧ n ≤ M60 → (¬ (0 ≤ k ∧ k ≤ M60) → errD A.a_RangeError E H k) ∧
    (0 ≤ k ∧ k ≤ M60 → (n < k → errD A.a_RangeError E H k) ∧ (k ≤ n → ∀ J, n.toNat < p.toNat ^ J → Q (.int (C p.toNat J k.toNat (n - k).toNat 0 : Nat)) H))))
theorem ok_choose_depth (T : Txt P K mg A) : FnOk P w K mg base (L2N.CX P w) 3 A.a_choose_depth A.d_choose_depth ["p", "n", "k"] (sp_choose_depth A) := by
  refine T.F_choose_depth.okN sc_choose_depth (fun vs H Q E h => ?_) (fun cdv Ar outer s H vs Q E hr h => ?_)
  · obtain ⟨_, _, _, rfl, _⟩ := h; rfl
  have nd := sc_choose_depth.nd
  obtain ⟨p, n, k, rfl, e1, h⟩ := h
  refine ⟨_, (pss_cons (ps_expr (pe_call (ok_look_prime T) (hr.mono (by decide)) (by rfl) T.g_look_prime T.k_look_prime T.b_look_prime .nil (L2N.passes_call (L2N.takes_of rfl rfl rfl rfl) (fun _ _ _ _ h => h)) (pa_cons (pv 0) pa_nil)))
    (pss_cons (ps_expr (pe_call (ok_look_range T) (hr.mono (by decide)) (by rfl) T.g_look_range T.k_look_range T.b_look_range .nil (L2N.passes_call (L2N.takes_of rfl rfl rfl rfl) (fun _ _ _ _ h => h)) (pa_cons (pv 1) (pa_cons pe_int (pa_cons (KR.pe_gI (by rfl) T.c_MOST_COUNTED) pa_nil)))))
    (pss_cons (ps_expr (pe_call (ok_look_range T) (hr.mono (by decide)) (by rfl) T.g_look_range T.k_look_range T.b_look_range .nil (L2N.passes_call (L2N.takes_of rfl rfl rfl rfl) (fun _ _ _ _ h => h)) (pa_cons (pv 2) (pa_cons pe_int (pa_cons (KR.pe_gI (by rfl) T.c_MOST_COUNTED) pa_nil)))))
    (pss_cons (ps_if (pt_cmpR op_gt (pv 2) (pv 1) (nomark _)) (pss_one (ps_raise1 rfl T.e_RangeError PySem.KX.fld_number hr (L2N.takes_of rfl rfl rfl rfl) (pa_cons (pv 2) pa_nil) (by rfl))) pss_nil)
    (pss_one (ps_ret (pe_call (ok_counted_carries T) (hr.mono (by decide)) (by rfl) T.g_counted_carries T.k_counted_carries T.b_counted_carries .nil pass0 (pa_cons (pv 0) (pa_cons (pv 2) (pa_cons (pe_op op_sub (pv 1) (pv 2)) pa_nil)))))))))), ?_⟩
  walk_at "rd"
  refine ⟨p, rfl, fun hp => ?_, e1⟩
  obtain ⟨e2, h⟩ := h hp
  walk_at "rd"
  refine ⟨n, 0, _, rfl, fun hn => ?_, e2⟩
  obtain ⟨e3, h⟩ := h hn
  walk_at "rd"
  refine ⟨k, 0, _, rfl, fun hk => ?_, e3⟩
  obtain ⟨e4, q⟩ := h hk
  walk_at "rd"
  refine KR.iteD (fun c => ?_) (fun c => ?_)
  · walk_at "rd"
    exact fun d hd => e4 c d hd
  · walk_at "rd"
    obtain ⟨p', rfl, h2, h9⟩ := pr_of hp
    obtain ⟨n', rfl⟩ := Int.eq_ofNat_of_zero_le hn.1
    obtain ⟨k', rfl⟩ := Int.eq_ofNat_of_zero_le hk.1
    have e : (n' : Int) - (k' : Int) = ((n' - k' : Nat) : Int) := by omega
    rw [e]
    refine ⟨p', k', n' - k', rfl, h2, h9, fun J a b => ?_⟩
    have hJ : n' < p' ^ (J + 1) := by
      have : p' ^ J + p' ^ J ≤ p' ^ (J + 1) := by
        rw [Nat.pow_succ]
        have := Nat.mul_le_mul_left (p' ^ J) h2
        omega
      omega
    have := q (by omega) (J + 1) hJ
    rw [e] at this
    have e6 := C_fuel h2 J k' (n' - k') 0 (by omega) a b (J + 1) (by omega) (by omega)
    rw [e6]
    exact this
def sp_look_size : Sp := fun vs H Q _ => ∃ a lo hi : Int, vs = [.int a, .int lo, .int hi] ∧ lo ≤ a ∧ a ≤ hi ∧ Q .non H
theorem ok_look_size (T : Txt P K mg A) : FnOk P w K mg base CX0 1 A.a_look_size A.d_look_size ["count", "low", "high"] sp_look_size := by
  refine T.F_look_size.ok sc_look_size (fun vs H Q E h => ?_) (fun cdv Ar outer s H vs Q E hr h => ?_)
  · obtain ⟨_, _, _, rfl, _⟩ := h; rfl
  have nd := sc_look_size.nd
  obtain ⟨a, lo, hi, rfl, h1, h2, q⟩ := h
  refine ⟨_, (pss_one (ps_if (pt_not (pt_chain op_le op_le (pv 1) (pv 0) (pv 2))) (pss_one ps_never) pss_nil)), ?_⟩
  walk_at "rd"
  refine KR.iteDT h1 ?_
  walk_at "rd"
  refine KR.iteND (fun hn => absurd h2 hn) (fun hp => ?_)
  walk_at "rd"
  exact q
def sp_look_list (K : PySem.W.Frag) : Sp := fun vs H Q _ => ∃ (a : Addr) (xs : List V) (lo hi : Int), vs = [.ref a, .int lo, .int hi] ∧ SqL K H a xs ∧ lo ≤ xs.length ∧ xs.length ≤ hi ∧ Q .non H
theorem ok_look_list (T : Txt P K mg A) : FnOk P w K mg base CX0 2 A.a_look_list A.d_look_list ["entries", "low", "high"] (sp_look_list K) := by
  refine T.F_look_list.ok sc_look_list (fun vs H Q E h => ?_) (fun cdv Ar outer s H vs Q E hr h => ?_)
  · obtain ⟨_, _, _, _, rfl, _⟩ := h; rfl
  have nd := sc_look_list.nd
  obtain ⟨a, xs, lo, hi, rfl, hs, h1, h2, q⟩ := h
  refine ⟨_, (pss_one (ps_expr (pe_call (ok_look_size T) (hr.mono (by decide)) (by rfl) T.g_look_size T.k_look_size T.b_look_size .nil pass0 (pa_cons (pe_callB call_len_seq (by rfl) T.n_len PySem.boot_len (pa_cons (pv 0) pa_nil)) (pa_cons (pv 1) (pa_cons (pv 2) pa_nil)))))), ?_⟩
  walk_at "rd"
  refine ⟨a, xs, rfl, .inl hs, ?_⟩
  walk_at "rd"
  refine ⟨_, _, _, rfl, h1, h2, ?_⟩
  walk_at "rd"
  exact q
def sp_look_each (K : PySem.W.Frag) : Sp := fun vs H Q _ => ∃ (a : Addr) (xs : List Int) (lo hi : Int), vs = [.ref a, .int lo, .int hi] ∧ SqL K H a (xs.map V.int) ∧ (∀ x ∈ xs, lo ≤ x ∧ x ≤ hi) ∧ Q .non H
theorem ok_look_each (T : Txt P K mg A) : FnOk P w K mg base CX0 3 A.a_look_each A.d_look_each ["entries", "low", "high"] (sp_look_each K) := by
  refine T.F_look_each.ok sc_look_each (fun vs H Q E h => ?_) (fun cdv Ar outer s H vs Q E hr h => ?_)
  · obtain ⟨_, _, _, _, rfl, _⟩ := h; rfl
  have nd := sc_look_each.nd
  obtain ⟨a, xs, lo, hi, rfl, hs, h1, q⟩ := h
  refine ⟨_, (pss_one (ps_for PassesOwn.never rfl (pi_list (pv 0)) (pg_name (i := 3) nd rfl (Or.inl rfl)) (pss_one (ps_expr (pe_call (ok_look_range T) (hr.mono (by decide)) (by rfl) T.g_look_range T.k_look_range T.b_look_range .nil passN (pa_cons (pv 3) (pa_cons (pv 1) (pa_cons (pv 2) pa_nil)))))))), ?_⟩
  walk_at "rd"
  refine KR.ilistN hs (KR.fwL (xs := xs.map V.int) (fun k σ' H' => H' = H ∧ ∃ z, σ' = [some (.ref a), some (.int lo), some (.int hi), z]) ⟨rfl, none, rfl⟩ ?_ ?_ ?_)
  · rintro k σ' H' hk ⟨rfl, _⟩
    exact hs
  · rintro k x σ' H' hx ⟨rfl, z, rfl⟩
    rw [List.getElem?_map] at hx
    obtain ⟨y, hy, rfl⟩ := Option.map_eq_some_iff.mp hx
    walk_at "rd"
    refine ⟨y, lo, hi, rfl, fun _ => ?_, fun z => absurd (h1 y (List.mem_of_getElem? hy)) z⟩
    walk_at "rd"
    exact ⟨rfl, _, rfl⟩
  · rintro σ' H' ⟨rfl, z, rfl⟩
    walk_at "rd"
    exact q
end
end K7
namespace K7
open PySem PySem.Spec PyProof.Rows L2
local macro_rules | `(tactic| walk_at "rc") => `(tactic| first
  | assumption
  | (show (0 : Int) < _; omega)
  | (show (0 : Int) < _ ∧ _ < (1073741824 : Int); exact ⟨by omega, by omega⟩)
  | (show (-(2 ^ 64 : Int) < _ ∧ _ < (2 ^ 64 : Int)) ∨ _; exact .inl ⟨by omega, by omega⟩)
  | (show _ ∨ (-(2 ^ 64 : Int) < _ ∧ _ < (2 ^ 64 : Int)); exact .inr ⟨by omega, by omega⟩)
  | (show (0 : Int) ≤ _ ∧ _ ≤ (1000000 : Int) ∧ _ < 2 ^ 64; exact ⟨by decide, by decide, by decide⟩))
local macro_rules | `(tactic| walk_at "rd") => `(tactic| repeat (first
  | with_reducible apply KR.seq
  | with_reducible apply KR.asg
  | with_reducible apply KR.drop
  | with_reducible apply KR.ret
  | with_reducible apply KR.retN
  | with_reducible apply KR.next
  | with_reducible apply KR.ifs
  | with_reducible refine KR.var rfl ?_
  | with_reducible refine L2.iteT ?_
  | with_reducible refine L2.iteF ?_
  | with_reducible refine KR.iteNF ?_
  | with_reducible refine KR.iteNT ?_
  | with_reducible apply KR.con
  | with_reducible apply KR.op
  | with_reducible apply KR.opI0
  | ((with_reducible refine KR.opI ?rc ?_); (case rc => walk_at "rc"))
  | with_reducible apply KR.un
  | with_reducible apply KR.unI
  | with_reducible apply KR.eqI
  | with_reducible apply KR.neI
  | with_reducible apply KR.test
  | with_reducible apply KR.tb'
  | with_reducible apply KR.exbl
  | with_reducible apply KR.and'
  | with_reducible apply KR.or'
  | with_reducible apply KR.not'
  | with_reducible apply KR.chain
  | with_reducible apply KR.call
  | with_reducible apply KR.callS
  | with_reducible apply KR.make
  | with_reducible apply KR.bm
  | with_reducible apply KR.errF
  | with_reducible apply KR.cons
  | with_reducible apply KR.nil
  | with_reducible apply KR.cb
  | with_reducible apply KR.cInt1
  | with_reducible apply KR.cI1
  | with_reducible apply KR.cI2
  | with_reducible apply KR.isi_ii
  | with_reducible apply KR.isi_ib
  | with_reducible apply KR.bits
  | with_reducible apply KR.exint
  | with_reducible apply KR.ifx
  | with_reducible refine KR.aug rfl ?_
  | with_reducible apply KR.ipI
  | with_reducible apply KR.for'
  | with_reducible apply KR.rng1
  | with_reducible apply KR.rng2
  | with_reducible apply KR.ilist
  | with_reducible apply KR.itup
  | with_reducible apply KR.tup
  | with_reducible apply KR.lst
  | with_reducible apply KR.andV
  | with_reducible apply KR.orV
  | with_reducible apply KR.notV
  | with_reducible apply KR.asgG
  | with_reducible apply KR.sub
  | with_reducible apply KR.fld
  | with_reducible apply KR.prop
  | with_reducible apply KR.meth
  | with_reducible apply KR.par
  | with_reducible apply KR.parN
  | with_reducible apply KR.raise1
  | with_reducible apply KR.raise0
  | with_reducible apply KR.exv
  | with_reducible apply KR.lc
  | with_reducible apply KR.ienT
  | with_reducible apply KR.sfld
  | with_reducible apply KR.sl
  | with_reducible apply KR.part
  | with_reducible apply KR.nopart
  | with_reducible apply KR.isNo
  | with_reducible refine KR.nnT ?_
  | with_reducible refine KR.niF ?_
  | with_reducible refine KR.nrF ?_
  | with_reducible refine KR.mnT ?_
  | with_reducible refine KR.miF ?_
  | with_reducible refine KR.mrF ?_))
def rowN (i : Nat) : List Int := List.replicate i 0 ++ [1]
def rowV (i : Nat) : List V := (rowN i).map V.int
theorem rowN_len (i : Nat) : (rowN i).length = i + 1 := by unfold rowN; rw [List.length_append, List.length_replicate]; rfl
theorem rowV_len (i : Nat) : (rowV i).length = i + 1 := by unfold rowV; rw [List.length_map, rowN_len]
theorem rowN_at {i k : Nat} (h : k ≤ i) : (rowN i)[k]? = some (if k = i then 1 else 0) := by
  unfold rowN
  by_cases c : k < i
  · rw [List.getElem?_append_left (by rw [List.length_replicate]; exact c), List.getElem?_replicate, if_pos c, if_neg (by omega)]
  · have e : k = i := by omega
    rw [List.getElem?_append_right (by rw [List.length_replicate]; omega), List.length_replicate, e, Nat.sub_self, if_pos rfl]
    rfl
theorem rowV_at {i k : Nat} (h : k ≤ i) : (rowV i)[k]? = some (.int (if k = i then 1 else 0)) := by
  unfold rowV
  rw [List.getElem?_map, rowN_at h]
  rfl
section
variable {P : Program} {w : World} {K : PySem.W.Frag} {mg : Str → Option Value} {base : Heap} {A : Ad}
def sp_row_value (K : PySem.W.Frag) : Sp := fun vs H Q _ => ∃ (a : Addr) (n : Int) (i : Nat), vs = [.ref a, .int n] ∧ SqT K H a (rowV i) ∧ n.natAbs < 2 ^ 60 ∧ i < 30 ∧ ∀ H2, Evl.Ex H H2 → Q (.int (bz n i)) H2
theorem ok_row_value (T : Txt P K mg A) : FnOk P w K mg base CX0 1 A.a_row_value A.d_row_value ["row", "n"] (sp_row_value K) := by
  refine T.F_row_value.ok sc_row_value (fun vs H Q E h => ?_) (fun cdv Ar outer s H vs Q E hr h => ?_)
  · obtain ⟨_, _, _, rfl, _⟩ := h; rfl
  have nd := sc_row_value.nd
  obtain ⟨a, n, i, rfl, hs, hn, hi, q⟩ := h
  refine ⟨_, (pss_cons (ps_set (i := 2) nd rfl (.inl rfl) pe_int)
    (pss_cons (ps_set (i := 3) nd rfl (.inl rfl) pe_int)
    (pss_cons (ps_for PassesOwn.never rfl (pi_enumT (by rfl) T.n_enumerate (pa_cons (pv 0) pa_nil)) (pg_tup rfl (pgs_cons (pg_name (i := 4) nd rfl (Or.inl rfl)) (pgs_cons (pg_name (i := 5) nd rfl (Or.inl rfl)) pgs_nil))) (pss_cons (ps_set (i := 2) nd rfl (.inl rfl) (pe_op op_add (pv 2) (pe_op op_mul (pv 5) (pv 3))))
    (pss_one (ps_set (i := 3) nd rfl (.inl rfl) (pe_op op_fdiv (pe_op op_mul (pv 3) (pe_op op_sub (pv 1) (pv 4))) (pe_op op_add (pv 4) pe_int))))))
    (pss_one (ps_ret (pv 2)))))), ?_⟩
  walk_at "rd"
  refine ⟨a, rowV i, rfl, hs, KR.fwET (xs := rowV i) (fun k σ' H' => Evl.Ex H H' ∧ ∃ z1 z2, σ' = [some (.ref a), some (.int n), some (.int (if i < k then bz n i else 0)), some (.int (bz n k)), z1, z2]) ⟨Evl.Ex.refl H, none, none, by rw [if_neg (Nat.not_lt_zero _), bz_zero]; rfl⟩ ?_ ?_ ?_⟩
  · rintro k σ' H' hk ⟨e, _⟩
    exact Evl.ex_t e hs
  · rintro k x σ' H' T' hx ⟨e, z1, z2, rfl⟩ hT
    have hk : k < i + 1 := by
      have := (List.getElem?_eq_some_iff.mp hx).1
      rw [rowV_len] at this
      exact this
    rw [rowV_at (by omega)] at hx
    obtain rfl := Option.some.inj hx
    have hc : CMul (if k = i then 1 else 0) (bz n k) := .inl ⟨by split <;> omega, by split <;> omega⟩
    walk_at "rd"
    refine ⟨e.trans (Evl.Ex.new hT), some (.int k), some (.int (if k = i then 1 else 0)), ?_⟩
    rw [← bz_step n k]
    have e2 : (if i < k then bz n i else 0) + (if k = i then 1 else 0) * bz n k = if i < k + 1 then bz n i else 0 := by
      by_cases c : k = i
      · rw [if_neg (by omega), if_pos c, if_pos (by omega), c, Int.zero_add, Int.one_mul]
      · rw [if_neg (by omega), if_neg c, if_neg (by omega), Int.zero_mul]
        rfl
    rw [← e2]
    rfl
  · rintro σ' H' ⟨e, z1, z2, rfl⟩
    walk_at "rd"
    rw [rowV_len, if_pos (by omega)]
    exact q H' e
theorem vI_one {p : Nat} (hp : 2 ≤ p) : vI p 1 = 0 := by
  unfold vI
  exact vN_zero (by show 1 % p ≠ 0; rw [Nat.mod_eq_of_lt hp]; exact Nat.one_ne_zero)
theorem giv_one (f : Nat → Bool) (v : Nat → V) (i : Nat) (h0 : ∀ k, k < i → f k = false) : ∀ m, 1 + m ≤ i → KR.giv f v 1 m = []
  | 0, _ => rfl
  | m + 1, h => by
    unfold KR.giv
    rw [giv_one f v i h0 m (by omega), h0 _ (by omega)]
    rfl
def sp_row_bound (K : PySem.W.Frag) : Sp := fun vs H Q _ => ∃ (p : Nat) (a : Addr) (i : Nat), vs = [.int p, .ref a] ∧ 2 ≤ p ∧ p < 100 ∧ SqT K H a (rowV i) ∧ i < 30 ∧ (i = 0 → ∀ H2, Evl.Ex H H2 → Q .non H2) ∧
  (0 < i → ∀ l, p ^ l ≤ i → i < p ^ (l + 1) → ∀ H2, Evl.Ex H H2 → Q (.int (l : Nat)) H2)
theorem lev_ex {p i : Nat} (hp : 2 ≤ p) (hi : 0 < i) : ∃ l, p ^ l ≤ i ∧ i < p ^ (l + 1) := by
  have : ∀ m, i < p ^ m → ∃ l, p ^ l ≤ i ∧ i < p ^ (l + 1) := fun m => by
    induction m with
    | zero => intro h; rw [Nat.pow_zero] at h; omega
    | succ m ih =>
      intro h
      by_cases c : i < p ^ m
      · exact ih c
      · exact ⟨m, by omega, h⟩
  exact this i (Nat.lt_pow_self (by omega))
theorem lev_uniq {p i l m : Nat} (hp : 2 ≤ p) (h1 : p ^ l ≤ i) (h2 : i < p ^ (l + 1)) (h3 : p ^ m ≤ i) (h4 : i < p ^ (m + 1)) : l = m := by
  rcases Nat.lt_trichotomy l m with c | c | c
  · have := Nat.pow_le_pow_right (show 0 < p by omega) (show l + 1 ≤ m by omega)
    omega
  · exact c
  · have := Nat.pow_le_pow_right (show 0 < p by omega) (show m + 1 ≤ l by omega)
    omega
theorem ok_row_bound (T : Txt P K mg A) : FnOk P w K mg base CX0 3 A.a_row_bound A.d_row_bound ["p", "row"] (sp_row_bound K) := by
  refine T.F_row_bound.ok sc_row_bound (fun vs H Q E h => ?_) (fun cdv Ar outer s H vs Q E hr h => ?_)
  · obtain ⟨_, _, _, rfl, _⟩ := h; rfl
  have nd := sc_row_bound.nd
  obtain ⟨p, a, i, rfl, h2, h9, hs, hi, q0, q1⟩ := h
  refine ⟨_, (pss_cons (ps_setLc (i := 2) (own := [("i", 3)]) (g := gName 3) rfl nd rfl rfl (sw_true rfl rfl rfl (by decide +kernel)) (pi_range2 (by rfl) T.n_range (pa_cons pe_int (pa_cons (pe_callB call_len_seq (by rfl) T.n_len PySem.boot_len (pa_cons (pv 1) pa_nil)) pa_nil))) (blkOk_by (own := [("i", 3)]) (N := ["p", "row", "found", "i"]) (sc := defScope s_row_bound) (by decide +kernel)) (fun _ _ _ _ _ => pg_name (i := 3) nd rfl (Or.inl rfl)) (fun _ _ _ _ _ => (pts_one (pt_cmpR op_ne (pe_ix (KR.ix_tupK (K := K) rfl) (pv 1) (pv 3) (fun _ _ => rfl)) pe_int (nomark _)))) (fun _ _ _ _ _ => (pe_op op_sub (pe_call (ok_level_of T) (hr.mono (by decide)) (by rfl) T.g_level_of T.k_level_of T.b_level_of .nil pass0 (pa_cons (pv 0) (pa_cons (pv 3) pa_nil))) (pe_call (ok_int_depth T) (hr.mono (by decide)) (by rfl) T.g_int_depth T.k_int_depth T.b_int_depth .nil pass0 (pa_cons (pv 0) (pa_cons (pe_ix (KR.ix_tupK (K := K) rfl) (pv 1) (pv 3) (fun _ _ => rfl)) pa_nil))))))
    (pss_cons (ps_if (pt_not (pt_truth (pv 2) (by intro _; rfl))) (pss_one (ps_ret pe_non)) pss_nil)
    (pss_one (ps_ret (pe_callB (cr_max rfl) (by rfl) T.n_max (by decide +kernel) (pa_cons (pv 2) pa_nil)))))), ?_⟩
  walk_at "rd"
  refine ⟨a, rowV i, rfl, .inr hs, ?_⟩
  walk_at "rd"
  obtain ⟨l, hl⟩ : ∃ l, 0 < i → p ^ l ≤ i ∧ i < p ^ (l + 1) := by
    by_cases c : 0 < i
    · obtain ⟨l, a, b⟩ := lev_ex h2 c
      exact ⟨l, fun _ => ⟨a, b⟩⟩
    · exact ⟨0, fun z => absurd z c⟩
  refine KR.lrngNN 1 (i + 1) rfl (by rw [rowV_len]) (by decide) (by omega) (KR.lwR (fun k => decide (k = i)) (fun k => .int (l : Int)) (by omega) (fun _ => rfl) ?_ ?_ ?_)
  · intro k H1 e1 h1 hk H3 e3 Q' q'
    walk_at "rd"
    refine KR.ixT (Evl.ex_t (e1.trans e3) hs) (atI_nat (rowV_at (i := i) (k := k) (by omega))) ?_
    walk_at "rd"
    have e : (!decide ((if k = i then (1 : Int) else 0) = 0)) = decide (k = i) := by
      by_cases c : k = i
      · rw [if_pos c, decide_eq_true c]; rfl
      · rw [if_neg c, decide_eq_false c]; rfl
    rw [e]
    exact q' H3 (Evl.Ex.refl H3)
  · intro k H1 e1 h1 hk hf H3 e3 Q' q'
    have ek : k = i := of_decide_eq_true hf
    subst ek
    obtain ⟨hl1, hl2⟩ := hl (by omega)
    walk_at "rd"
    refine ⟨p, k, rfl, h2, h9, by omega, by omega, fun l' a b => ?_⟩
    walk_at "rd"
    refine KR.ixT (Evl.ex_t (e1.trans e3) hs) (atI_nat (rowV_at (i := k) (k := k) (Nat.le_refl k))) ?_
    rw [if_pos rfl]
    walk_at "rd"
    refine ⟨p, 1, rfl, h2, h9, by decide, fun H4 e4 => ?_⟩
    walk_at "rd"
    rw [vI_one h2, lev_uniq h2 a b hl1 hl2]
    exact q' H4 e4
  · intro D H3 hD e3 hl3
    walk_at "rd"
    by_cases c : i = 0
    · subst c
      refine KR.truLb false (.inl (.inl hl3)) rfl ?_
      walk_at "rd"
      exact q0 rfl H3 e3
    · have e : KR.giv (fun k => decide (k = i)) (fun k => V.int (l : Int)) 1 (i + 1 - 1) = [.int l] := by
        obtain ⟨j, rfl⟩ : ∃ j, i = j + 1 := ⟨i - 1, by omega⟩
        rw [Nat.add_sub_cancel]
        unfold KR.giv
        rw [giv_one _ _ (j + 1) (fun k hk => decide_eq_false (by omega)) j (by omega), if_pos (decide_eq_true (Nat.add_comm 1 j))]
        rfl
      rw [e] at hl3
      refine KR.truLb true (.inl (.inl hl3)) rfl ?_
      walk_at "rd"
      refine ⟨D, [(l : Int)], rfl, .inl (.inl hl3), Nat.one_pos, fun m hm _ => ?_⟩
      obtain rfl : m = (l : Int) := by simpa using hm
      obtain ⟨hl1, hl2⟩ := hl (by omega)
      exact q1 (by omega) l hl1 hl2 H3 e3
def GObj (A : Ad) (H : Hp) (g : Addr) (p i : Nat) : Prop := ∃ dx t, H g = some (.ins A.aMahler dx [(("p" : Str), .int p), (("row" : Str), .ref t)]) ∧ H t = some (.tup (rowV i))
theorem GObj.mono {A : Ad} {H H' : Hp} {g : Addr} {p i : Nat} (h : GObj A H g p i) (e : Evl.Ex H H') : GObj A H' g p i := by
  obtain ⟨dx, t, h1, h2⟩ := h
  exact ⟨dx, t, e _ _ h1, e _ _ h2⟩
def sp_Mahler_init (A : Ad) : Sp := fun vs H Q _ => ∃ (x : Addr) (p : Nat) (a dx : Addr) (i : Nat), vs = [.ref x, .int p, .ref a] ∧ (p : Int) ∈ primesL ∧ i < 30 ∧ H x = some (.ins A.aMahler dx []) ∧ H a = some (.lst (rowV i)) ∧
  ∀ H2, (∀ b o, b ≠ x → H b = some o → H2 b = some o) → GObj A H2 x p i → Q .non H2
theorem ok_Mahler_init (T : Txt P K mg A) : FnOk P w K mg base CX0 4 A.a_Mahler_init A.d_Mahler_init ["self", "p", "row"] (sp_Mahler_init A) := by
  refine T.F_Mahler_init.ok sc_Mahler_init (fun vs H Q E h => ?_) (fun cdv Ar outer s H vs Q E hr h => ?_)
  · obtain ⟨_, _, _, _, _, rfl, _⟩ := h; rfl
  have nd := sc_Mahler_init.nd
  obtain ⟨x, p, a, dx, i, rfl, hp, hi, hx, ha, q⟩ := h
  have hs : SqL K H a (rowV i) := .inl (.inl ha)
  refine ⟨_, (pss_cons (ps_expr (pe_call (ok_look_prime T) (hr.mono (by decide)) (by rfl) T.g_look_prime T.k_look_prime T.b_look_prime .nil passN (pa_cons (pv 1) pa_nil)))
    (pss_cons (ps_expr (pe_call (ok_look_list T) (hr.mono (by decide)) (by rfl) T.g_look_list T.k_look_list T.b_look_list .nil pass0 (pa_cons (pv 2) (pa_cons pe_int (pa_cons (KR.pe_gI (by rfl) T.c_MOST_ROW) pa_nil)))))
    (pss_cons (ps_expr (pe_call (ok_look_each T) (hr.mono (by decide)) (by rfl) T.g_look_each T.k_look_each T.b_look_each .nil pass0 (pa_cons (pv 2) (pa_cons (pe_un un_neg (KR.pe_gI (by rfl) T.c_MOST_ENTRY)) (pa_cons (KR.pe_gI (by rfl) T.c_MOST_ENTRY) pa_nil)))))
    (pss_cons (ps_set (i := 3) nd rfl (.inl rfl) (pe_callB call_len_seq (by rfl) T.n_len PySem.boot_len (pa_cons (pv 2) pa_nil)))
    (pss_cons (ps_while PassesOwn.never (PW.pt (pw_and (pt_cmpR op_gt (pv 3) pe_int (nomark _)) (pw_and1 (pt_cmpR op_eq (pe_ix ix_list (pv 2) (pe_op op_sub (pv 3) pe_int) (fun _ _ => rfl)) pe_int (nomark _))))) (pss_one (ps_set (i := 3) nd rfl (.inl rfl) (pe_op op_sub (pv 3) pe_int))))
    (pss_cons (ps_fld (pv 0) (pv 1) rfl)
    (pss_one (ps_fld (pv 0) (pe_callTy call_tuple_of (by rfl) T.n_tuple (by decide +kernel) (pa_cons (pe_slice sl_list (pv 2) po_none (po_some (pv 3))) pa_nil)) rfl)))))))), ?_⟩
  walk_at "rd"
  refine ⟨p, rfl, fun _ => ?_, fun z => absurd hp z⟩
  walk_at "rd"
  refine ⟨a, rowV i, 1, 30, rfl, hs, by rw [rowV_len]; omega, by rw [rowV_len]; omega, ?_⟩
  walk_at "rd"
  refine ⟨a, rowN i, _, _, rfl, hs, fun y hy => ?_, ?_⟩
  · unfold rowN at hy
    rcases List.mem_append.mp hy with z | z
    · rw [(List.mem_replicate.mp z).2]; decide
    · rw [List.mem_singleton.mp z]; decide
  walk_at "rd"
  refine ⟨a, rowV i, rfl, .inl hs, ?_⟩
  walk_at "rd"
  refine KR.whlF (fun QB qb => ?_) ?_
  · walk_at "rd"
    refine KR.iteD (fun c => ?_) (fun c => ?_)
    · walk_at "rd"
      refine KR.ixL hs (at_of (j := i) (by rw [rowV_len]; omega) (rowV_at (Nat.le_refl i))) ?_
      rw [if_pos rfl]
      walk_at "rd"
      exact qb
    · exact qb
  walk_at "rd"
  refine ⟨x, _, dx, [], rfl, hx, T.cl_Mahler, T.na_Mahler_p, by decide, ?_⟩
  walk_at "rd"
  have hax : a ≠ x := ne_of ha hx (by intro z; cases z)
  have ha1 : (upd H x (.ins A.aMahler dx (putF "p" (.int p) []))) a = some (.lst (rowV i)) := by rw [upd_ne hax]; exact ha
  refine KR.slL (.inl (.inl ha1)) fun b hb => ?_
  walk_at "rd"
  have hbx : b ≠ x := fun z => by rw [z, upd_same] at hb; cases hb
  have ecut : cutV (rowV i) none (some ((rowV i).length : Int)) = rowV i := by
    unfold cutV
    rw [HT.sIx_none, HT.sIx_nat, Nat.min_self, Nat.sub_zero, List.drop_zero, List.take_length]
  rw [ecut]
  refine ⟨b, rowV i, rfl, .inl ⟨.inl (.inl upd_same), fun t ht => ?_⟩⟩
  have htx : t ≠ x := fun z => by
    rw [z, upd_ne hbx.symm, upd_same] at ht
    cases ht
  have htb : t ≠ b := fun z => by rw [z, upd_same] at ht; cases ht
  walk_at "rd"
  refine ⟨x, _, dx, putF "p" (.int p) [], rfl, by rw [upd_ne htx.symm, upd_ne hbx.symm, upd_same], T.cl_Mahler, T.na_Mahler_row, (show (1 : Nat) < 1000 by decide), ?_⟩
  refine q _ (fun y o hy e => ?_) ⟨dx, t, by rw [upd_same]; rfl, by rw [upd_ne htx, upd_same]⟩
  have h1 : (upd H x (.ins A.aMahler dx (putF "p" (.int p) []))) y = some o := by rw [upd_ne hy]; exact e
  have h2 : (upd (upd H x (.ins A.aMahler dx (putF "p" (.int p) []))) b (.lst (rowV i))) y = some o := by rw [upd_ne (ne_of_none h1 hb)]; exact h1
  rw [upd_ne hy, upd_ne (ne_of_none h2 ht)]
  exact h2
def sp_Mahler_value (A : Ad) : Sp := fun vs H Q _ => ∃ (g : Addr) (n : Int) (p i : Nat), vs = [.ref g, .int n] ∧ GObj A H g p i ∧ -1000000000000 ≤ n ∧ n ≤ 1000000000000 ∧ i < 30 ∧ ∀ H2, Evl.Ex H H2 → Q (.int (bz n i)) H2
theorem ok_Mahler_value (T : Txt P K mg A) : FnOk P w K mg base CX0 3 A.a_Mahler_value A.d_Mahler_value ["self", "n"] (sp_Mahler_value A) := by
  refine T.F_Mahler_value.ok sc_Mahler_value (fun vs H Q E h => ?_) (fun cdv Ar outer s H vs Q E hr h => ?_)
  · obtain ⟨_, _, _, _, rfl, _⟩ := h; rfl
  have nd := sc_Mahler_value.nd
  obtain ⟨g, n, p, i, rfl, ⟨dx, t, hg, ht⟩, h1, h2, hi, q⟩ := h
  refine ⟨_, (pss_cons (ps_expr (pe_call (ok_look_range T) (hr.mono (by decide)) (by rfl) T.g_look_range T.k_look_range T.b_look_range .nil passN (pa_cons (pv 1) (pa_cons (pe_un un_neg (KR.pe_gI (by rfl) T.c_MOST_PLACE)) (pa_cons (KR.pe_gI (by rfl) T.c_MOST_PLACE) pa_nil)))))
    (pss_one (ps_ret (pe_call (ok_row_value T) (hr.mono (by decide)) (by rfl) T.g_row_value T.k_row_value T.b_row_value .nil pass0 (pa_cons (pe_fld (pv 0) rfl) (pa_cons (pv 1) pa_nil)))))), ?_⟩
  walk_at "rd"
  refine ⟨n, -1000000000000, 1000000000000, rfl, fun _ => ?_, fun z => absurd ⟨h1, h2⟩ z⟩
  walk_at "rd"
  refine ⟨g, _, dx, _, _, rfl, hg, T.cl_Mahler, T.na_Mahler_row, rfl, ?_⟩
  walk_at "rd"
  refine ⟨t, n, i, rfl, .inl (.inl ht), by omega, hi, fun H2 e2 => ?_⟩
  walk_at "rd"
  exact q H2 e2
def sp_Mahler_bound (A : Ad) : Sp := fun vs H Q _ => ∃ (g : Addr) (p i : Nat), vs = [.ref g] ∧ GObj A H g p i ∧ 2 ≤ p ∧ p < 100 ∧ i < 30 ∧ (i = 0 → ∀ H2, Evl.Ex H H2 → Q .non H2) ∧
  (0 < i → ∀ l, p ^ l ≤ i → i < p ^ (l + 1) → ∀ H2, Evl.Ex H H2 → Q (.int (l : Nat)) H2)
theorem ok_Mahler_bound (T : Txt P K mg A) : FnOk P w K mg base CX0 4 A.a_Mahler_bound A.d_Mahler_bound ["self"] (sp_Mahler_bound A) := by
  refine T.F_Mahler_bound.ok sc_Mahler_bound (fun vs H Q E h => ?_) (fun cdv Ar outer s H vs Q E hr h => ?_)
  · obtain ⟨_, _, _, rfl, _⟩ := h; rfl
  have nd := sc_Mahler_bound.nd
  obtain ⟨g, p, i, rfl, ⟨dx, t, hg, ht⟩, h2, h9, hi, q0, q1⟩ := h
  refine ⟨_, (pss_one (ps_ret (pe_call (ok_row_bound T) (hr.mono (by decide)) (by rfl) T.g_row_bound T.k_row_bound T.b_row_bound .nil pass0 (pa_cons (pe_fld (pv 0) rfl) (pa_cons (pe_fld (pv 0) rfl) pa_nil))))), ?_⟩
  walk_at "rd"
  refine ⟨g, _, dx, _, _, rfl, hg, T.cl_Mahler, T.na_Mahler_p, rfl, ?_⟩
  walk_at "rd"
  refine ⟨g, _, dx, _, _, rfl, hg, T.cl_Mahler, T.na_Mahler_row, rfl, ?_⟩
  walk_at "rd"
  exact ⟨p, t, i, rfl, h2, h9, .inl (.inl ht), hi, q0, q1⟩
theorem vI_pow {p l : Nat} (hp : 2 ≤ p) : vI p ((p ^ l : Nat) : Int) = l := by
  refine vI_of hp (r := 1) ?_ ?_
  · rw [Int.mul_one]
    exact Int.natCast_pow _ _
  · rw [Int.emod_eq_of_lt (by decide) (by omega)]
    decide
def sp_Mahler_pair (A : Ad) : Sp := fun vs H Q _ => ∃ (g : Addr) (p i : Nat), vs = [.ref g] ∧ GObj A H g p i ∧ 2 ≤ p ∧ p < 100 ∧ i < 30 ∧ (i = 0 → ∀ H2, Evl.Ex H H2 → Q .non H2) ∧
  (0 < i → ∀ l x, p ^ l ≤ i → i < p ^ (l + 1) → x < i → vI p ((i : Int) - x) = l → ∀ t H2, Evl.Ex H H2 → H2 t = some (.tup [.int (x : Nat), .int i]) → Q (.ref t) H2)
theorem ok_Mahler_pair (T : Txt P K mg A) : FnOk P w K mg base CX0 6 A.a_Mahler_pair A.d_Mahler_pair ["self"] (sp_Mahler_pair A) := by
  refine T.F_Mahler_pair.ok sc_Mahler_pair (fun vs H Q E h => ?_) (fun cdv Ar outer s H vs Q E hr h => ?_)
  · obtain ⟨_, _, _, rfl, _⟩ := h; rfl
  have nd := sc_Mahler_pair.nd
  obtain ⟨g, p, i, rfl, hG, h2, h9, hi, q0, q1⟩ := h
  refine ⟨_, (pss_cons (ps_set (i := 1) nd rfl (.inl rfl) (pe_prop (pv 0) T.cl_Mahler T.p_Mahler_bound (ok_Mahler_bound T) (hr.mono (by decide)) T.b_Mahler_bound .nil pass0 rfl))
    (pss_cons (ps_if (pt_cmpR op_isN (pv 1) pe_non (nomark _)) (pss_one (ps_ret pe_non)) pss_nil)
    (pss_cons (ps_setLc (i := 2) (own := [("n", 6)]) (g := gName 6) (tt := tYes) rfl nd rfl rfl (sw_true rfl rfl rfl (by decide +kernel)) (pi_range1 (by rfl) T.n_range (pa_cons (pe_callB call_len_seq (by rfl) T.n_len PySem.boot_len (pa_cons (pe_fld (pv 0) rfl) pa_nil)) pa_nil)) (blkOk_by (own := [("n", 6)]) (N := ["self", "bound", "values", "y", "x", "apart", "n"]) (sc := defScope s_Mahler_pair) (by decide +kernel)) (fun _ _ _ _ _ => pg_name (i := 6) nd rfl (Or.inl rfl)) (fun _ _ _ _ _ => pts_nil) (fun _ _ _ _ _ => (pe_call (ok_row_value T) (hr.mono (by decide)) (by rfl) T.g_row_value T.k_row_value T.b_row_value .nil pass0 (pa_cons (KR.pe_fldK (K := K) rfl (pv 0) rfl) (pa_cons (pv 6) pa_nil)))))
    (pss_cons (ps_for PassesOwn.never rfl (pi_range2 (by rfl) T.n_range (pa_cons pe_int (pa_cons (pe_callB call_len_seq (by rfl) T.n_len PySem.boot_len (pa_cons (pv 2) pa_nil)) pa_nil))) (pg_name (i := 3) nd rfl (Or.inl rfl)) (pss_one (ps_for PassesOwn.never rfl (pi_range1 (by rfl) T.n_range (pa_cons (pv 3) pa_nil)) (pg_name (i := 4) nd rfl (Or.inl rfl)) (pss_cons (ps_set (i := 5) nd rfl (.inl rfl) (pe_op op_sub (pe_ix ix_list (pv 2) (pv 3) (fun _ _ => rfl)) (pe_ix ix_list (pv 2) (pv 4) (fun _ _ => rfl))))
    (pss_one (ps_if (PW.pt (pw_and (pt_cmpR op_ne (pv 5) pe_int (nomark _)) (pw_and1 (pt_cmpR op_eq (pe_call (ok_int_depth T) (hr.mono (by decide)) (by rfl) T.g_int_depth T.k_int_depth T.b_int_depth .nil pass0 (pa_cons (pe_fld (pv 0) rfl) (pa_cons (pv 5) pa_nil))) (pe_op op_sub (pe_call (ok_int_depth T) (hr.mono (by decide)) (by rfl) T.g_int_depth T.k_int_depth T.b_int_depth .nil pass0 (pa_cons (pe_fld (pv 0) rfl) (pa_cons (pe_op op_sub (pv 3) (pv 4)) pa_nil))) (pv 1)) (nomark _))))) (pss_one (ps_ret (pe_tup (pa_cons (pv 4) (pa_cons (pv 3) pa_nil))))) pss_nil))))))
    (pss_one (ps_ret pe_non)))))), ?_⟩
  obtain ⟨dx, t, hg, ht⟩ := id hG
  walk_at "rd"
  refine ⟨g, dx, _, rfl, hg, g, p, i, rfl, hG, h2, h9, hi, fun hi0 H1 e1 => ?_, fun hip l hl hl2 H1 e1 => ?_⟩
  · walk_at "rd"
    exact q0 hi0 H1 e1
  · walk_at "rd"
    refine ⟨g, _, dx, _, _, rfl, e1 _ _ hg, T.cl_Mahler, T.na_Mahler_row, rfl, ?_⟩
    walk_at "rd"
    refine ⟨t, rowV i, rfl, .inr (.inl (.inl (e1 _ _ ht))), ?_⟩
    walk_at "rd"
    refine KR.lrngI (i + 1) (by rw [rowV_len]) (by omega) (KR.lwR (a := 0) (n := i + 1) (fun _ => true) (fun k => .int (bz (k : Int) i)) (by omega) (fun _ => rfl) (fun _ _ _ _ _ => KR.etYes) ?_ ?_)
    · intro k H2 e2 _ hk _ H3 e3 Q' q'
      walk_at "rd"
      refine ⟨g, _, dx, _, _, rfl, e3 _ _ (e2 _ _ (e1 _ _ hg)), T.cl_Mahler, T.na_Mahler_row, rfl, ?_⟩
      walk_at "rd"
      exact ⟨t, k, i, rfl, .inl (.inl (e3 _ _ (e2 _ _ (e1 _ _ ht)))), by omega, hi, q'⟩
    · intro L' H2 hL e2 hv
      rw [Nat.sub_zero, KR.giv_all _ (fun _ => rfl)] at hv
      have hlen : ((List.range (i + 1)).map fun k : Nat => V.int (bz (k : Int) i)).length = i + 1 := by rw [List.length_map, List.length_range]
      have hat : ∀ k, k ≤ i → ((List.range (i + 1)).map fun k : Nat => V.int (bz (k : Int) i))[k]? = some (.int (if k = i then 1 else 0)) := fun k hk => by
        rw [List.getElem?_map, List.getElem?_range (by omega), Option.map_some]
        by_cases c : k = i
        · rw [if_pos c, c, bz_self]
        · rw [if_neg c, bz_small (by omega)]
      generalize ((List.range (i + 1)).map fun k : Nat => V.int (bz (k : Int) i)) = vals at hv hlen hat
      have e12 := e1.trans e2
      have hsq : ∀ H', Evl.Ex H2 H' → SqL K H' L' vals := fun H' e => .inl (.inl (e _ _ hv))
      walk_at "rd"
      refine ⟨L', vals, rfl, .inl (hsq H2 (Evl.Ex.refl H2)), ?_⟩
      walk_at "rd"
      have hpl : 0 < p ^ l := Nat.pow_pos (by omega)
      refine KR.rngNN 1 (i + 1) rfl (by rw [hlen]) (by decide) (by omega) (KR.fwRa (fun y σ' H' => y ≤ i ∧ Evl.Ex H2 H' ∧ ∃ z1 z2 z3 z4, σ' = [some (.ref g), some (.int l), some (.ref L'), z1, z2, z3, z4]) ⟨by omega, Evl.Ex.refl H2, none, none, none, none, rfl⟩ (by omega) ?_ ?_)
      · rintro y σ' H' hy1 hy ⟨hyi, eH, z1, z2, z3, z4, rfl⟩
        walk_at "rd"
        refine KR.rngI y rfl (by omega) (KR.fwR (fun x σ' H' => Evl.Ex H2 H' ∧ (y = i → x ≤ i - p ^ l) ∧ ∃ z2 z3, σ' = [some (.ref g), some (.int l), some (.ref L'), some (.int y), z2, z3, z4]) ⟨eH, fun _ => Nat.zero_le _, z2, z3, rfl⟩ ?_ ?_)
        · rintro x σ' H3 hx ⟨e3, hxy, z2, z3, rfl⟩
          walk_at "rd"
          refine KR.ixL (hsq H3 e3) (atI_nat (hat y hyi)) ?_
          walk_at "rd"
          refine KR.ixL (hsq H3 e3) (atI_nat (hat x (by omega))) ?_
          rw [if_neg (show ¬ x = i by omega)]
          walk_at "rd"
          by_cases c : y = i
          · subst c
            rw [if_pos rfl]
            refine KR.iteND (fun _ => ?_) (fun z => absurd z (by decide))
            walk_at "rd"
            refine ⟨g, _, dx, _, _, rfl, e3 _ _ (e2 _ _ (e1 _ _ hg)), T.cl_Mahler, T.na_Mahler_p, rfl, ?_⟩
            walk_at "rd"
            refine ⟨p, 1 - 0, rfl, h2, h9, by decide, fun H4 e4 => ?_⟩
            walk_at "rd"
            refine ⟨g, _, dx, _, _, rfl, e4 _ _ (e3 _ _ (e2 _ _ (e1 _ _ hg))), T.cl_Mahler, T.na_Mahler_p, rfl, ?_⟩
            walk_at "rd"
            refine ⟨p, (y : Int) - (x : Int), rfl, h2, h9, by omega, fun H5 e5 => ?_⟩
            walk_at "rd"
            rw [show ((1 : Int) - 0) = 1 from rfl, vI_one h2]
            refine KR.iteD (fun d => ?_) (fun d => ?_)
            · walk_at "rd"
              exact ⟨by show 2 ≤ sizeLine; decide, fun t' ht' => q1 (by omega) l x hl hl2 hx (by omega) t' _ ((((e1.trans e2).trans e3).trans e4).trans (e5.trans (Evl.Ex.new ht'))) upd_same⟩
            · walk_at "rd"
              refine ⟨(e3.trans e4).trans e5, fun _ => ?_, _, _, rfl⟩
              have hx1 := hxy rfl
              by_cases c2 : x = y - p ^ l
              · exfalso
                apply d
                have e6 : (y : Int) - (x : Int) = ((p ^ l : Nat) : Int) := by omega
                rw [e6, vI_pow h2]
                omega
              · omega
          · rw [if_neg c]
            refine KR.iteND (fun z => absurd rfl z) (fun _ => ?_)
            walk_at "rd"
            exact ⟨e3, fun z => absurd z c, _, _, rfl⟩
        · rintro σ' H3 ⟨e3, hxy, z2, z3, rfl⟩
          have c : ¬ y = i := fun z => by
            have := hxy z
            omega
          exact ⟨by omega, e3, _, _, _, _, rfl⟩
      · rintro σ' H3 ⟨h, _⟩
        omega
end
end K7
namespace K7
open PySem PySem.Spec PyProof.Rows L2
local macro_rules | `(tactic| walk_at "rc") => `(tactic| first
  | assumption
  | (show (0 : Int) < _; omega)
  | (show (0 : Int) < _ ∧ _ < (1073741824 : Int); exact ⟨by omega, by omega⟩)
  | (show (-(2 ^ 64 : Int) < _ ∧ _ < (2 ^ 64 : Int)) ∨ _; exact .inl ⟨by omega, by omega⟩)
  | (show _ ∨ (-(2 ^ 64 : Int) < _ ∧ _ < (2 ^ 64 : Int)); exact .inr ⟨by omega, by omega⟩)
  | (show (0 : Int) ≤ _ ∧ _ ≤ (1000000 : Int) ∧ _ < 2 ^ 64; exact ⟨by decide, by decide, by decide⟩))
local macro_rules | `(tactic| walk_at "rd") => `(tactic| repeat (first
  | with_reducible apply KR.seq
  | with_reducible apply KR.asg
  | with_reducible apply KR.drop
  | with_reducible apply KR.ret
  | with_reducible apply KR.retN
  | with_reducible apply KR.next
  | with_reducible apply KR.ifs
  | with_reducible refine KR.var rfl ?_
  | with_reducible refine L2.iteT ?_
  | with_reducible refine L2.iteF ?_
  | with_reducible refine KR.iteNF ?_
  | with_reducible refine KR.iteNT ?_
  | with_reducible apply KR.con
  | with_reducible apply KR.op
  | with_reducible apply KR.opI0
  | ((with_reducible refine KR.opI ?rc ?_); (case rc => walk_at "rc"))
  | with_reducible apply KR.un
  | with_reducible apply KR.unI
  | with_reducible apply KR.eqI
  | with_reducible apply KR.neI
  | with_reducible apply KR.test
  | with_reducible apply KR.tb'
  | with_reducible apply KR.exbl
  | with_reducible apply KR.and'
  | with_reducible apply KR.or'
  | with_reducible apply KR.not'
  | with_reducible apply KR.chain
  | with_reducible apply KR.call
  | with_reducible apply KR.callS
  | with_reducible apply KR.make
  | with_reducible apply KR.bm
  | with_reducible apply KR.errF
  | with_reducible apply KR.cons
  | with_reducible apply KR.nil
  | with_reducible apply KR.cb
  | with_reducible apply KR.cInt1
  | with_reducible apply KR.cI1
  | with_reducible apply KR.cI2
  | with_reducible apply KR.isi_ii
  | with_reducible apply KR.isi_ib
  | with_reducible apply KR.bits
  | with_reducible apply KR.exint
  | with_reducible apply KR.ifx
  | with_reducible refine KR.aug rfl ?_
  | with_reducible apply KR.ipI
  | with_reducible apply KR.for'
  | with_reducible apply KR.rng1
  | with_reducible apply KR.rng2
  | with_reducible apply KR.ilist
  | with_reducible apply KR.itup
  | with_reducible apply KR.tup
  | with_reducible apply KR.lst
  | with_reducible apply KR.andV
  | with_reducible apply KR.orV
  | with_reducible apply KR.notV
  | with_reducible apply KR.asgG
  | with_reducible apply KR.sub
  | with_reducible apply KR.fld
  | with_reducible apply KR.prop
  | with_reducible apply KR.meth
  | with_reducible apply KR.par
  | with_reducible apply KR.parN
  | with_reducible apply KR.raise1
  | with_reducible apply KR.raise0
  | with_reducible apply KR.exv
  | with_reducible apply KR.lc
  | with_reducible apply KR.ienT
  | with_reducible apply KR.sfld
  | with_reducible apply KR.sl
  | with_reducible apply KR.part
  | with_reducible apply KR.nopart
  | with_reducible apply KR.isNo
  | with_reducible refine KR.nnT ?_
  | with_reducible refine KR.niF ?_
  | with_reducible refine KR.nrF ?_
  | with_reducible refine KR.mnT ?_
  | with_reducible refine KR.miF ?_
  | with_reducible refine KR.mrF ?_))
def PoolL (cs : List Int) : Prop := 1 ≤ cs.length ∧ cs.length ≤ 64 ∧ ∀ x ∈ cs, 0 ≤ x
def Pool (H : Hp) (a : Addr) : Prop := ∃ cs, PoolL cs ∧ H a = some (.lst (cs.map V.int))
def ExB (a : Addr) (H H2 : Hp) : Prop := ∀ b o, b ≠ a → H b = some o → H2 b = some o
theorem ExB.refl (a : Addr) (H : Hp) : ExB a H H := fun _ _ _ e => e
theorem ExB.trans {a : Addr} {H H1 H2 : Hp} (h : ExB a H H1) (k : ExB a H1 H2) : ExB a H H2 := fun b o n e => k b o n (h b o n e)
theorem ExB.of {a : Addr} {H H2 : Hp} (e : Evl.Ex H H2) : ExB a H H2 := fun b o _ q => e b o q
theorem ExB.upd {a : Addr} {H : Hp} {o : HO} : ExB a H (L2.upd H a o) := fun b o' n e => by rw [upd_ne n]; exact e
theorem Pool.ex {a : Addr} {H H2 : Hp} (h : Pool H a) (e : Evl.Ex H H2) : Pool H2 a := by
  obtain ⟨cs, h1, h2⟩ := h
  exact ⟨cs, h1, e _ _ h2⟩
section
variable {P : Program} {w : World} {K : PySem.W.Frag} {mg : Str → Option Value} {base : Heap} {A : Ad}
def sp_law_draw : Sp := fun vs H Q _ => ∃ (a : Addr) (b plus : Int), vs = [.ref a, .int b, .int plus] ∧ Pool H a ∧ 0 < b ∧ b.natAbs.log2 < 9000 ∧
  ∀ v H2, 0 ≤ v → v < b → ExB a H H2 → Pool H2 a → Q (.int v) H2
theorem ok_law_draw (T : Txt P K mg A) : FnOk P w K mg base CX0 1 A.a_law_draw A.d_law_draw ["pool", "bound", "plus"] sp_law_draw := by
  refine T.F_law_draw.ok sc_law_draw (fun vs H Q E h => ?_) (fun cdv Ar outer s H vs Q E hr h => ?_)
  · obtain ⟨_, _, _, rfl, _⟩ := h; rfl
  have nd := sc_law_draw.nd
  obtain ⟨a, b, plus, rfl, ⟨cs, ⟨h1, h2, h3⟩, hp⟩, hb, hb2, q⟩ := h
  have hlen : (cs.map V.int).length = cs.length := List.length_map _
  have hs : SqL K H a (cs.map V.int) := .inl (.inl hp)
  refine ⟨_, (pss_cons (ps_if (pt_cmpR op_eq (pe_callB call_len_seq (by rfl) T.n_len PySem.boot_len (pa_cons (pv 0) pa_nil)) pe_int (nomark _)) (pss_one (ps_ret (pe_op op_mod (pe_callTy call_int1 (by rfl) T.n_int (by decide +kernel) (pa_cons (pv 2) pa_nil)) (pv 1)))) pss_nil)
    (pss_cons (ps_set (i := 3) nd rfl (.inl rfl) (pe_op op_add pe_int (pe_op op_mod (pe_callTy call_int1 (by rfl) T.n_int (by decide +kernel) (pa_cons (pe_ix ix_list (pv 0) pe_int (fun _ _ => rfl)) pa_nil)) (pe_op op_sub (pe_callB call_len_seq (by rfl) T.n_len PySem.boot_len (pa_cons (pv 0) pa_nil)) pe_int))))
    (pss_cons (ps_set (i := 4) nd rfl (.inl rfl) (pe_callTy call_int1 (by rfl) T.n_int (by decide +kernel) (pa_cons (pe_ix ix_list (pv 0) (pv 3) (fun _ _ => rfl)) pa_nil)))
    (pss_cons (ps_asg (pe_op op_add (pe_ix ix_list (pv 0) pe_int (fun _ _ => rfl)) pe_int) (pg_sub (pv 0) pe_int set_list))
    (pss_cons (ps_asg (pe_op op_fdivW (pv 4) (pv 1)) (pg_sub (pv 0) (pv 3) set_list))
    (pss_one (ps_ret (pe_op op_mod (pe_callTy call_int1 (by rfl) T.n_int (by decide +kernel) (pa_cons (pe_op op_add (pv 4) (pv 2)) pa_nil)) (pv 1))))))))), ?_⟩
  walk_at "rd"
  refine ⟨a, _, rfl, .inl hs, ?_⟩
  rw [hlen]
  walk_at "rd"
  refine KR.iteD (fun c => ?_) (fun c => ?_)
  · walk_at "rd"
    exact q _ H (Int.emod_nonneg _ (by omega)) (Int.emod_lt_of_pos _ hb) (ExB.refl a H) ⟨cs, ⟨h1, h2, h3⟩, hp⟩
  · walk_at "rd"
    obtain ⟨c0, e0⟩ : ∃ c0, cs[0]? = some c0 := ⟨cs[0], List.getElem?_eq_getElem (by omega)⟩
    refine KR.ixL hs (atI_nat (j := 0) (v := V.int c0) (by rw [List.getElem?_map, e0]; rfl)) ?_
    walk_at "rd"
    refine ⟨a, _, rfl, .inl hs, ?_⟩
    rw [hlen]
    walk_at "rd"
    obtain ⟨j, ej, hj⟩ : ∃ j : Nat, 1 + c0 % ((cs.length : Int) - 1) = (j : Int) ∧ j < cs.length := by
      have z1 := Int.emod_nonneg c0 (show (cs.length : Int) - 1 ≠ 0 by omega)
      have z2 := Int.emod_lt_of_pos c0 (show (0 : Int) < (cs.length : Int) - 1 by omega)
      exact ⟨(1 + c0 % ((cs.length : Int) - 1)).toNat, by omega, by omega⟩
    rw [ej]
    obtain ⟨cj, e1⟩ : ∃ cj, cs[j]? = some cj := ⟨cs[j], List.getElem?_eq_getElem hj⟩
    have hcj : 0 ≤ cj := h3 _ (List.mem_of_getElem? e1)
    have hc0 : 0 ≤ c0 := h3 _ (List.mem_of_getElem? e0)
    refine KR.ixL hs (atI_nat (j := j) (v := V.int cj) (by rw [List.getElem?_map, e1]; rfl)) ?_
    walk_at "rd"
    refine KR.ixL hs (atI_nat (j := 0) (v := V.int c0) (by rw [List.getElem?_map, e0]; rfl)) ?_
    walk_at "rd"
    refine KR.setL (j := 0) hp (by omega) ?_
    walk_at "rd"
    refine ⟨_, _, rfl, rfl, ⟨hb, hb2⟩, ?_⟩
    walk_at "rd"
    refine KR.setL (j := j) upd_same (by rw [List.length_set]; omega) ?_
    walk_at "rd"
    refine q _ _ (Int.emod_nonneg _ (by omega)) (Int.emod_lt_of_pos _ hb) (ExB.upd.trans ExB.upd) ⟨(cs.set 0 (c0 + 1)).set j (cj / b), ⟨by simpa using h1, by simpa using h2, fun x hx => ?_⟩, ?_⟩
    · rcases List.mem_or_eq_of_mem_set hx with hx | rfl
      · rcases List.mem_or_eq_of_mem_set hx with hx | rfl
        · exact h3 x hx
        · omega
      · exact Int.ediv_nonneg hcj (by omega)
    · rw [upd_same, List.map_set, List.map_set]
def sp_law_begin (K : PySem.W.Frag) : Sp := fun vs H Q _ => ∃ (a : Addr) (ns : List Int), vs = [.ref a] ∧ SqL K H a (ns.map V.int) ∧
  ∀ b H2, Pool H2 b → Q (.ref b) H2
theorem ok_law_begin (T : Txt P K mg A) : FnOk P w K mg base CX0 1 A.a_law_begin A.d_law_begin ["script"] (sp_law_begin K) := by
  refine T.F_law_begin.ok sc_law_begin (fun vs H Q E h => ?_) (fun cdv Ar outer s H vs Q E hr h => ?_)
  · obtain ⟨_, _, rfl, _⟩ := h; rfl
  have nd := sc_law_begin.nd
  obtain ⟨a, ns, rfl, hs, q⟩ := h
  refine ⟨_, (pss_one (ps_ret (pe_op op_cat (pe_lst (pa_cons pe_int pa_nil)) (pe_lc (own := [("number", 1)]) (g := gName 1) (tt := tYes) rfl nd (pi_list (pe_slice sl_list (pv 0) po_none (po_some pe_int))) (blkOk_by (own := [("number", 1)]) (N := ["script", "number"]) (sc := defScope s_law_begin) (by decide +kernel)) (fun _ _ _ _ _ => pg_name (i := 1) nd rfl (Or.inl rfl)) (fun _ _ _ _ _ => pts_nil) (fun _ _ _ _ _ => (pe_callB call_abs (by rfl) T.n_abs (by decide +kernel) (pa_cons (pv 1) pa_nil))))))), ?_⟩
  walk_at "rd"
  refine ⟨by decide, fun p hp => ?_⟩
  walk_at "rd"
  have hs1 : SqL K (upd H p (.lst [.int 0])) a (ns.map V.int) := Evl.ex_l (Evl.Ex.new hp) hs
  refine KR.slL hs1 fun c hc => ?_
  have ecut : cutV (ns.map V.int) none (some 63) = (ns.take 63).map V.int := by
    unfold cutV
    rw [show (63 : Int) = ((63 : Nat) : Int) from rfl, HT.sIx_none, HT.sIx_nat, Nat.sub_zero, List.drop_zero, List.map_take, List.length_map]
    rcases Nat.le_total 63 ns.length with z | z
    · rw [Nat.min_eq_left z]
    · rw [Nat.min_eq_right z, List.take_of_length_le (by rw [List.length_map]; omega), List.take_of_length_le (by rw [List.length_map]; omega)]
  rw [ecut]
  generalize hms : ns.take 63 = ms
  have hml : ms.length ≤ 63 := by rw [← hms, List.length_take]; omega
  refine KR.llistN (xs := ms.map V.int) (.inl (.inl upd_same)) (KR.lwL (fun _ => true) (fun k => .int ((ms.getD k 0).natAbs : Nat)) (.inl (.inl upd_same)) (by rw [List.length_map]; omega) (fun _ => rfl) (fun _ _ _ _ _ => KR.etYes) ?_ ?_)
  · intro k x H1 _ hx _ H3 e3 Q' q'
    rw [List.getElem?_map] at hx
    obtain ⟨y, hy, rfl⟩ := Option.map_eq_some_iff.mp hx
    walk_at "rd"
    have e : (if y < 0 then -y else y) = ((ms.getD k 0).natAbs : Int) := by
      rw [List.getD_eq_getElem?_getD, hy]
      show _ = ((y.natAbs : Nat) : Int)
      split <;> omega
    rw [e]
    exact q' H3 (Evl.Ex.refl H3)
  · intro d H2 hd e2 hv
    rw [KR.giv_all _ (fun _ => rfl), List.length_map] at hv
    have hp2 : H2 p = some (.lst [.int 0]) := e2 _ _ (Evl.Ex.new hc _ _ upd_same)
    have ev : ([V.int 0] ++ (List.range ms.length).map fun k => V.int ((ms.getD k 0).natAbs : Nat)) = ((0 :: (List.range ms.length).map fun k => (((ms.getD k 0).natAbs : Nat) : Int)) : List Int).map V.int := by
      rw [List.map_cons, List.map_map]
      rfl
    refine ⟨p, d, _, _, rfl, rfl, hp2, hv, ?_, fun y hy => q y _ ⟨_, ⟨?_, ?_, ?_⟩, by rw [upd_same, ev]⟩⟩
    · rw [List.length_map, List.length_range]
      show 1 + _ ≤ sizeLine
      rw [sizeLine_eq]
      omega
    · rw [List.length_cons]; omega
    · rw [List.length_cons, List.length_map, List.length_range]; omega
    · intro x hx
      rcases List.mem_cons.mp hx with rfl | hx
      · decide
      · obtain ⟨k, _, rfl⟩ := List.mem_map.mp hx
        exact Int.natCast_nonneg _
theorem prime_at {k : Nat} (h : k < 25) : ∃ p, primesL[k]? = some p ∧ p ∈ primesL := by
  have hl : k < primesL.length := h
  exact ⟨primesL[k], List.getElem?_eq_getElem hl, List.getElem_mem hl⟩
def sp_law_prime : Sp := fun vs H Q _ => ∃ (a : Addr), vs = [.ref a] ∧ Pool H a ∧ ∀ p H2, p ∈ primesL → ExB a H H2 → Pool H2 a → Q (.int p) H2
theorem ok_law_prime (T : Txt P K mg A) : FnOk P w K mg base CX0 2 A.a_law_prime A.d_law_prime ["pool"] sp_law_prime := by
  refine T.F_law_prime.ok sc_law_prime (fun vs H Q E h => ?_) (fun cdv Ar outer s H vs Q E hr h => ?_)
  · obtain ⟨_, rfl, _⟩ := h; rfl
  have nd := sc_law_prime.nd
  obtain ⟨a, rfl, hp, q⟩ := h
  refine ⟨_, (pss_cons (ps_set (i := 1) nd rfl (.inl rfl) (pe_lst (pa_cons pe_int (pa_cons pe_int (pa_cons pe_int (pa_cons pe_int (pa_cons pe_int (pa_cons pe_int (pa_cons pe_int (pa_cons pe_int (pa_cons pe_int (pa_cons pe_int (pa_cons pe_int (pa_cons pe_int (pa_cons pe_int pa_nil)))))))))))))))
    (pss_cons (ps_set (i := 1) nd rfl (.inl rfl) (pe_op op_cat (pv 1) (pe_lst (pa_cons pe_int (pa_cons pe_int (pa_cons pe_int (pa_cons pe_int (pa_cons pe_int (pa_cons pe_int (pa_cons pe_int (pa_cons pe_int (pa_cons pe_int (pa_cons pe_int (pa_cons pe_int (pa_cons pe_int pa_nil)))))))))))))))
    (pss_cons (ps_if (pt_cmpR op_eq (pe_call (ok_law_draw T) (hr.mono (by decide)) (by rfl) T.g_law_draw T.k_law_draw T.b_law_draw .nil pass0 (pa_cons (pv 0) (pa_cons pe_int (pa_cons pe_int pa_nil)))) pe_int (nomark _)) (pss_one (ps_ret (pe_ix ix_list (pv 1) (pe_call (ok_law_draw T) (hr.mono (by decide)) (by rfl) T.g_law_draw T.k_law_draw T.b_law_draw .nil pass0 (pa_cons (pv 0) (pa_cons pe_int (pa_cons pe_int pa_nil)))) (fun _ _ => rfl)))) pss_nil)
    (pss_one (ps_ret (pe_ix ix_list (pv 1) (pe_call (ok_law_draw T) (hr.mono (by decide)) (by rfl) T.g_law_draw T.k_law_draw T.b_law_draw .nil pass0 (pa_cons (pv 0) (pa_cons pe_int (pa_cons pe_int pa_nil)))) (fun _ _ => rfl))))))), ?_⟩
  walk_at "rd"
  refine ⟨by decide, fun b hb => ?_⟩
  walk_at "rd"
  refine ⟨by decide, fun c hc => ?_⟩
  walk_at "rd"
  refine ⟨b, c, _, _, rfl, rfl, by rw [upd_ne (fun z => by rw [z, upd_same] at hc; cases hc), upd_same], upd_same, by decide, fun d hd => ?_⟩
  have e3 := ((Evl.Ex.new (o := .lst [.int 2, .int 3, .int 5, .int 7, .int 11, .int 13, .int 17, .int 19, .int 23, .int 29, .int 31, .int 37, .int 41]) hb).trans (Evl.Ex.new (o := .lst [.int 43, .int 47, .int 53, .int 59, .int 61, .int 67, .int 71, .int 73, .int 79, .int 83, .int 89, .int 97]) hc)).trans (Evl.Ex.new (o := .lst (primesL.map V.int)) hd)
  generalize hH : upd (upd (upd H b _) c _) d _ = H3
  have hd3 : H3 d = some (.lst (primesL.map V.int)) := by rw [← hH, upd_same]; rfl
  replace e3 : Evl.Ex H H3 := by rw [← hH]; exact e3
  have had : d ≠ a := by
    obtain ⟨cs, _, ha⟩ := hp
    intro z
    rw [z] at hd
    exact nomatch ((((Evl.Ex.new hb).trans (Evl.Ex.new hc)) _ _ ha).symm.trans hd)
  have hp3 := hp.ex e3
  clear hH
  walk_at "rd"
  refine ⟨a, 3, 1, rfl, hp3, by decide, by decide, fun v H4 hv0 hv e4 hp4 => ?_⟩
  walk_at "rd"
  have hd4 := e4 d _ had hd3
  refine KR.iteD (fun _ => ?_) (fun _ => ?_)
  · walk_at "rd"
    refine ⟨a, 25, 24, rfl, hp4, by decide, by decide, fun u H5 hu0 hu e5 hp5 => ?_⟩
    obtain ⟨k, rfl⟩ := Int.eq_ofNat_of_zero_le hu0
    obtain ⟨p, h1, h2⟩ := prime_at (k := k) (by omega)
    refine KR.ixL (.inl (.inl (e5 d _ had hd4))) (atI_nat (v := V.int p) (by rw [List.getElem?_map, h1]; rfl)) ?_
    exact q p H5 h2 ((((ExB.of e3).trans e4).trans e5)) hp5
  · walk_at "rd"
    refine ⟨a, 4, 0, rfl, hp4, by decide, by decide, fun u H5 hu0 hu e5 hp5 => ?_⟩
    obtain ⟨k, rfl⟩ := Int.eq_ofNat_of_zero_le hu0
    obtain ⟨p, h1, h2⟩ := prime_at (k := k) (by omega)
    refine KR.ixL (.inl (.inl (e5 d _ had hd4))) (atI_nat (v := V.int p) (by rw [List.getElem?_map, h1]; rfl)) ?_
    exact q p H5 h2 ((((ExB.of e3).trans e4).trans e5)) hp5
end
end K7
namespace K7
open PySem PySem.Spec PyProof.Rows L2
local macro_rules | `(tactic| walk_at "rc") => `(tactic| first
  | assumption
  | (show (0 : Int) < _; omega)
  | (show (0 : Int) < _ ∧ _ < (1073741824 : Int); exact ⟨by omega, by omega⟩)
  | (show (-(2 ^ 64 : Int) < _ ∧ _ < (2 ^ 64 : Int)) ∨ _; exact .inl ⟨by omega, by omega⟩)
  | (show _ ∨ (-(2 ^ 64 : Int) < _ ∧ _ < (2 ^ 64 : Int)); exact .inr ⟨by omega, by omega⟩)
  | (show (0 : Int) ≤ _ ∧ _ ≤ (1000000 : Int) ∧ _ < 2 ^ 64; exact ⟨by decide, by decide, by decide⟩))
local macro_rules | `(tactic| walk_at "rd") => `(tactic| repeat (first
  | with_reducible apply KR.seq
  | with_reducible apply KR.asg
  | with_reducible apply KR.drop
  | with_reducible apply KR.ret
  | with_reducible apply KR.retN
  | with_reducible apply KR.next
  | with_reducible apply KR.ifs
  | with_reducible refine KR.var rfl ?_
  | with_reducible refine L2.iteT ?_
  | with_reducible refine L2.iteF ?_
  | with_reducible refine KR.iteNF ?_
  | with_reducible refine KR.iteNT ?_
  | with_reducible apply KR.con
  | with_reducible apply KR.op
  | with_reducible apply KR.opI0
  | ((with_reducible refine KR.opI ?rc ?_); (case rc => walk_at "rc"))
  | with_reducible apply KR.un
  | with_reducible apply KR.unI
  | with_reducible apply KR.eqI
  | with_reducible apply KR.neI
  | with_reducible apply KR.test
  | with_reducible apply KR.tb'
  | with_reducible apply KR.exbl
  | with_reducible apply KR.and'
  | with_reducible apply KR.or'
  | with_reducible apply KR.not'
  | with_reducible apply KR.chain
  | with_reducible apply KR.call
  | with_reducible apply KR.callS
  | with_reducible apply KR.make
  | with_reducible apply KR.bm
  | with_reducible apply KR.errF
  | with_reducible apply KR.cons
  | with_reducible apply KR.nil
  | with_reducible apply KR.cb
  | with_reducible apply KR.cInt1
  | with_reducible apply KR.cI1
  | with_reducible apply KR.cI2
  | with_reducible apply KR.isi_ii
  | with_reducible apply KR.isi_ib
  | with_reducible apply KR.bits
  | with_reducible apply KR.exint
  | with_reducible apply KR.ifx
  | with_reducible refine KR.aug rfl ?_
  | with_reducible apply KR.ipI
  | with_reducible apply KR.for'
  | with_reducible apply KR.rng1
  | with_reducible apply KR.rng2
  | with_reducible apply KR.ilist
  | with_reducible apply KR.itup
  | with_reducible apply KR.tup
  | with_reducible apply KR.lst
  | with_reducible apply KR.andV
  | with_reducible apply KR.orV
  | with_reducible apply KR.notV
  | with_reducible apply KR.asgG
  | with_reducible apply KR.sub
  | with_reducible apply KR.fld
  | with_reducible apply KR.prop
  | with_reducible apply KR.meth
  | with_reducible apply KR.par
  | with_reducible apply KR.parN
  | with_reducible apply KR.raise1
  | with_reducible apply KR.raise0
  | with_reducible apply KR.exv
  | with_reducible apply KR.lc
  | with_reducible apply KR.ienT
  | with_reducible apply KR.sfld
  | with_reducible apply KR.sl
  | with_reducible apply KR.part
  | with_reducible apply KR.nopart
  | with_reducible apply KR.isNo
  | with_reducible refine KR.nnT ?_
  | with_reducible refine KR.niF ?_
  | with_reducible refine KR.nrF ?_
  | with_reducible refine KR.mnT ?_
  | with_reducible refine KR.miF ?_
  | with_reducible refine KR.mrF ?_))
theorem C_nil {p : Nat} (hp : 2 ≤ p) : ∀ J a, C p J a 0 0 = 0
  | 0, _ => rfl
  | J + 1, a => by
    have h := Nat.mod_lt a (show 0 < p by omega)
    have e : (a % p + 0 % p + 0) / p = 0 := by
      rw [Nat.zero_mod]
      exact Nat.div_eq_of_lt (by omega)
    show (a % p + 0 % p + 0) / p + C p J (a / p) (0 / p) ((a % p + 0 % p + 0) / p) = 0
    rw [e, Nat.zero_div, C_nil hp J]
def okM (n : Int) : Prop := 0 ≤ n ∧ n ≤ M60
inductive Ans (p f s : Int) : Str → Str → Int → Prop
  | badp {w : Str} (hw : w = "choose" ∨ w = "carries" ∨ w = "sum" ∨ w = "factorial") (h : p ∉ primesL) : Ans p f s w "prime" p
  | badf {w : Str} (hw : w = "choose" ∨ w = "carries" ∨ w = "sum" ∨ w = "factorial") (h : p ∈ primesL) (h1 : ¬ okM f) : Ans p f s w "range" f
  | bads {w : Str} (hw : w = "choose" ∨ w = "carries") (h : p ∈ primesL) (h1 : okM f) (h2 : ¬ okM s) : Ans p f s w "range" s
  | less (h : p ∈ primesL) (h1 : okM f) (h2 : okM s) (h3 : f < s) : Ans p f s "choose" "range" s
  | same (h : p ∈ primesL) (h1 : okM f) (h2 : f = s) : Ans p f s "choose" "told" 0
section
variable {P : Program} {w : World} {K : PySem.W.Frag} {mg : Str → Option Value} {base : Heap} {A : Ad}
structure EF (K : PySem.W.Frag) (A : Ad) (C : Addr) (r p : Bool) : Prop where
  ei : L2.ErrI K C
  ex : PySem.W.exmOne K (.ref C) (.ref A.a_PrimedeepError) = some true
  kv : PySem.W.kitOne K (.ref C) (.type "ValueError") = some true
  k1 : PySem.W.kitOne K (.ref C) (.ref A.a_SizeError) = some false
  k2 : PySem.W.kitOne K (.ref C) (.ref A.a_RangeError) = some r
  k3 : PySem.W.kitOne K (.ref C) (.ref A.a_PrimeError) = some p
  k4 : PySem.W.kitOne K (.ref C) (.ref A.a_DepthError) = some false
  k5 : PySem.W.kitOne K (.ref C) (.ref A.a_ZeroError) = some false
  k6 : PySem.W.kitOne K (.ref C) (.ref A.a_MixError) = some false
  k7 : PySem.W.kitOne K (.ref C) (.ref A.a_BarError) = some false
  k8 : PySem.W.kitOne K (.ref C) (.ref A.a_MonicError) = some false
  k9 : PySem.W.kitOne K (.ref C) (.ref A.a_RepeatError) = some false
  k10 : PySem.W.kitOne K (.ref C) (.ref A.a_FieldError) = some false
  k11 : PySem.W.kitOne K (.ref C) (.ref A.a_EditError) = some false
  k12 : PySem.W.kitOne K (.ref C) (.ref A.a_TextError) = some false
  k13 : PySem.W.kitOne K (.ref C) (.ref A.a_HistoryError) = some false
theorem Txt.efR (T : Txt P K mg A) : EF K A A.a_RangeError true false := ⟨T.ei_RangeError, T.ex_RangeError, T.kv_RangeError, T.kt_RangeError_SizeError, T.kt_RangeError_RangeError, T.kt_RangeError_PrimeError, T.kt_RangeError_DepthError, T.kt_RangeError_ZeroError, T.kt_RangeError_MixError, T.kt_RangeError_BarError, T.kt_RangeError_MonicError, T.kt_RangeError_RepeatError, T.kt_RangeError_FieldError, T.kt_RangeError_EditError, T.kt_RangeError_TextError, T.kt_RangeError_HistoryError⟩
theorem Txt.efP (T : Txt P K mg A) : EF K A A.a_PrimeError false true := ⟨T.ei_PrimeError, T.ex_PrimeError, T.kv_PrimeError, T.kt_PrimeError_SizeError, T.kt_PrimeError_RangeError, T.kt_PrimeError_PrimeError, T.kt_PrimeError_DepthError, T.kt_PrimeError_ZeroError, T.kt_PrimeError_MixError, T.kt_PrimeError_BarError, T.kt_PrimeError_MonicError, T.kt_PrimeError_RepeatError, T.kt_PrimeError_FieldError, T.kt_PrimeError_EditError, T.kt_PrimeError_TextError, T.kt_PrimeError_HistoryError⟩
def sp_law_call : Sp := fun vs H Q _ => ∃ (w : Str) (p f s : Int) (tag : Str) (v : Int), vs = [.str w, .int p, .int f, .int s] ∧ Ans p f s w tag v ∧
  ∀ t H2, Evl.Ex H H2 → H2 t = some (.tup [.str tag, .int v]) → Q (.ref t) H2
theorem isE {C a : Addr} {r p : Bool} {d : Option Addr} {H : Hp} {Q : VK} (F : EF K A C r p) {c : V} {u : Value} {b : Bool} (hc : ClsV c u) (hk : PySem.W.kitOne K (.ref C) u = some b) (hd : ∀ dd, d = some dd → ∃ fs, H dd = some (.xd fs)) (q : Q (.bl b) H) :
    rIsErrE K a (.ref C) d [.ref a, c] H Q := ⟨C, c, u, b, rfl, rfl, F.ei, hc, hk, hd, q⟩
theorem ok_law_numberH (T : Txt P K mg A) : L2H.FnH P w K mg base CX0 1 A.a_law_number A.d_law_number ["told"] sp_law_number := by
  refine T.F_law_number.okH sc_law_number (fun vs H Q E h => ?_) (fun cdv Ar outer s H vs Q E p hot hr h => ?_)
  · obtain ⟨_, rfl, _⟩ := h; rfl
  have nd := sc_law_number.nd
  obtain ⟨a, rfl, q⟩ := h
  refine ⟨_, (pss_cons (ps_if (PW.pt (pw_and (pt_val (pe_callB call_isi (by rfl) T.n_isinstance (by decide +kernel) (pa_cons (pv 0) (pa_cons (pe_bltn (v := .ty "int") (by rfl) T.n_int (by decide +kernel) rfl) pa_nil)))) (pw_and1 (pt_not (pt_val (pe_callB call_isi (by rfl) T.n_isinstance (by decide +kernel) (pa_cons (pv 0) (pa_cons (pe_bltn (v := .ty "bool") (by rfl) T.n_bool (by decide +kernel) rfl) pa_nil)))))))) (pss_one (ps_ret (pv 0))) pss_nil)
    (pss_one (ps_ret pe_non))), ?_⟩
  walk_at "rd"
  exact q
theorem ok_law_call (T : Txt P K mg A) : FnOk P w K mg base CX0 4 A.a_law_call A.d_law_call ["word", "p", "first", "second"] sp_law_call := by
  refine T.F_law_call.ok sc_law_call (fun vs H Q E h => ?_) (fun cdv Ar outer s H vs Q E hr h => ?_)
  · obtain ⟨_, _, _, _, _, _, rfl, _⟩ := h; rfl
  have nd := sc_law_call.nd
  obtain ⟨wd, p, f, s2, tag, v, rfl, hans, q⟩ := h
  refine ⟨_, (pss_one (L2N.ps_try_as (i := 4) (Wout := fun _ _ _ _ => False) rfl rfl nd rfl rfl ⟨rfl, by decide, Or.inl T.g_PrimedeepError⟩ takesN0 (fun W pn xe tk _ => (pss_cons (ps_if (by exact (pt_cmpR op_eq (pv 0) pe_str (nomark _))) (pss_one (ps_ret (by exact (pe_tup (pa_cons pe_str (pa_cons (pe_callS (ok_choose_depth T) (hr.mono (by decide)) (by rfl) T.g_choose_depth T.k_choose_depth T.b_choose_depth (fun σ => L2N.passAt tk σ) (pa_cons (pv 1) (pa_cons (pv 2) (pa_cons (pv 3) pa_nil)))) pa_nil)))))) pss_nil)
    (pss_cons (ps_if (by exact (pt_cmpR op_eq (pv 0) pe_str (nomark _))) (pss_one (ps_ret (by exact (pe_tup (pa_cons pe_str (pa_cons (pe_callS (ok_carries T) (hr.mono (by decide)) (by rfl) T.g_carries T.k_carries T.b_carries (fun σ => L2N.passAt tk σ) (pa_cons (pv 1) (pa_cons (pv 2) (pa_cons (pv 3) pa_nil)))) pa_nil)))))) pss_nil)
    (pss_cons (ps_if (by exact (pt_cmpR op_eq (pv 0) pe_str (nomark _))) (pss_one (ps_ret (by exact (pe_tup (pa_cons pe_str (pa_cons (pe_callS (ok_digit_sum T) (hr.mono (by decide)) (by rfl) T.g_digit_sum T.k_digit_sum T.b_digit_sum (fun σ => L2N.passAt tk σ) (pa_cons (pv 1) (pa_cons (pv 2) pa_nil))) pa_nil)))))) pss_nil)
    (pss_one (ps_ret (by exact (pe_tup (pa_cons pe_str (pa_cons (pe_callS (ok_factorial_depth T) (hr.mono (by decide)) (by rfl) T.g_factorial_depth T.k_factorial_depth T.b_factorial_depth (fun σ => L2N.passAt tk σ) (pa_cons (pv 1) (pa_cons (pv 2) pa_nil))) pa_nil)))))))))) (fun a oe cls d pn hz hf => (pss_cons (ps_set (i := 5) nd rfl (.inl rfl) (by exact (pe_lst (pa_cons (pe_callB (call_isErrE hz hf) (by rfl) T.n_isinstance (by decide +kernel) (pa_cons (pv 4) (pa_cons (pe_glob (v := .ref A.a_SizeError) (by rfl) T.g_SizeError rfl) pa_nil))) (pa_cons (pe_callB (call_isErrE hz hf) (by rfl) T.n_isinstance (by decide +kernel) (pa_cons (pv 4) (pa_cons (pe_glob (v := .ref A.a_RangeError) (by rfl) T.g_RangeError rfl) pa_nil))) (pa_cons (pe_callB (call_isErrE hz hf) (by rfl) T.n_isinstance (by decide +kernel) (pa_cons (pv 4) (pa_cons (pe_glob (v := .ref A.a_PrimeError) (by rfl) T.g_PrimeError rfl) pa_nil))) pa_nil))))))
    (pss_cons (ps_set (i := 5) nd rfl (.inl rfl) (by exact (pe_op op_cat (pv 5) (pe_lst (pa_cons (pe_callB (call_isErrE hz hf) (by rfl) T.n_isinstance (by decide +kernel) (pa_cons (pv 4) (pa_cons (pe_glob (v := .ref A.a_DepthError) (by rfl) T.g_DepthError rfl) pa_nil))) (pa_cons (pe_callB (call_isErrE hz hf) (by rfl) T.n_isinstance (by decide +kernel) (pa_cons (pv 4) (pa_cons (pe_glob (v := .ref A.a_ZeroError) (by rfl) T.g_ZeroError rfl) pa_nil))) (pa_cons (pe_callB (call_isErrE hz hf) (by rfl) T.n_isinstance (by decide +kernel) (pa_cons (pv 4) (pa_cons (pe_glob (v := .ref A.a_MixError) (by rfl) T.g_MixError rfl) pa_nil))) pa_nil)))))))
    (pss_cons (ps_set (i := 5) nd rfl (.inl rfl) (by exact (pe_op op_cat (pv 5) (pe_lst (pa_cons (pe_callB (call_isErrE hz hf) (by rfl) T.n_isinstance (by decide +kernel) (pa_cons (pv 4) (pa_cons (pe_glob (v := .ref A.a_BarError) (by rfl) T.g_BarError rfl) pa_nil))) (pa_cons (pe_callB (call_isErrE hz hf) (by rfl) T.n_isinstance (by decide +kernel) (pa_cons (pv 4) (pa_cons (pe_glob (v := .ref A.a_MonicError) (by rfl) T.g_MonicError rfl) pa_nil))) (pa_cons (pe_callB (call_isErrE hz hf) (by rfl) T.n_isinstance (by decide +kernel) (pa_cons (pv 4) (pa_cons (pe_glob (v := .ref A.a_RepeatError) (by rfl) T.g_RepeatError rfl) pa_nil))) pa_nil)))))))
    (pss_cons (ps_set (i := 5) nd rfl (.inl rfl) (by exact (pe_op op_cat (pv 5) (pe_lst (pa_cons (pe_callB (call_isErrE hz hf) (by rfl) T.n_isinstance (by decide +kernel) (pa_cons (pv 4) (pa_cons (pe_glob (v := .ref A.a_FieldError) (by rfl) T.g_FieldError rfl) pa_nil))) (pa_cons (pe_callB (call_isErrE hz hf) (by rfl) T.n_isinstance (by decide +kernel) (pa_cons (pv 4) (pa_cons (pe_glob (v := .ref A.a_EditError) (by rfl) T.g_EditError rfl) pa_nil))) (pa_cons (pe_callB (call_isErrE hz hf) (by rfl) T.n_isinstance (by decide +kernel) (pa_cons (pv 4) (pa_cons (pe_glob (v := .ref A.a_TextError) (by rfl) T.g_TextError rfl) pa_nil))) pa_nil)))))))
    (pss_cons (ps_set (i := 5) nd rfl (.inl rfl) (by exact (pe_op op_cat (pv 5) (pe_lst (pa_cons (pe_callB (call_isErrE hz hf) (by rfl) T.n_isinstance (by decide +kernel) (pa_cons (pv 4) (pa_cons (pe_glob (v := .ref A.a_HistoryError) (by rfl) T.g_HistoryError rfl) pa_nil))) pa_nil)))))
    (pss_cons (ps_if (by exact (PW.pt (pw_or (pt_cmpR op_ne (KR.pe_bmK (K := K) rfl PySem.F.plainAttrs_list PySem.F.slot_list_count PySem.F.type_list_count (KR.mt_bcountK (K := K) rfl) (pv 5) (pa_cons pe_bl pa_nil)) pe_int (nomark _)) (pw_or1 (pt_not (pt_val (pe_callB (call_isErrE hz hf) (by rfl) T.n_isinstance (by decide +kernel) (pa_cons (pv 4) (pa_cons (pe_bltn (v := .ty "ValueError") (by rfl) T.n_ValueError (by decide +kernel) rfl) pa_nil))))))))) (pss_one ps_never) pss_nil)
    (pss_cons (ps_if (by exact (pt_val (pe_ix (KR.ix_listK (K := K) rfl) (pv 5) pe_int (fun _ _ => rfl)))) (pss_one ps_never) pss_nil)
    (pss_cons (ps_if (by exact (pt_val (pe_ix (KR.ix_listK (K := K) rfl) (pv 5) pe_int (fun _ _ => rfl)))) (pss_one (ps_ret (by exact (pe_tup (pa_cons pe_str (pa_cons (L2H.pe_callH (ok_law_numberH T) ((L2H.roomH_mark hr _).mono (by decide)) (hot_suite hz hf) (by rfl) T.g_law_number T.k_law_number T.b_law_number (fun _ => pass0At) (pa_cons (pe_errF T.e_RangeError.toErrC T.e_RangeError.noN hz.zc hf (pv 4)) pa_nil)) pa_nil)))))) pss_nil)
    (pss_cons (ps_if (by exact (pt_val (pe_ix (KR.ix_listK (K := K) rfl) (pv 5) pe_int (fun _ _ => rfl)))) (pss_one (ps_ret (by exact (pe_tup (pa_cons pe_str (pa_cons (L2H.pe_callH (ok_law_numberH T) ((L2H.roomH_mark hr _).mono (by decide)) (hot_suite hz hf) (by rfl) T.g_law_number T.k_law_number T.b_law_number (fun _ => pass0At) (pa_cons (pe_errF T.e_PrimeError.toErrC T.e_PrimeError.noN hz.zc hf (pv 4)) pa_nil)) pa_nil)))))) pss_nil)
    (pss_one ps_never))))))))))))), ?_⟩
  dsimp only
  generalize hW : wAs _ _ _ _ _ _ = W
  have leaf : ∀ (C : Addr) (r pp : Bool) (v0 : Int) (tg : Str), EF K A C r pp → (tg = "range" ∧ C = A.a_RangeError ∧ r = true ∧ pp = false ∨ tg = "prime" ∧ C = A.a_PrimeError ∧ r = false ∧ pp = true) →
      (∀ t H2, Evl.Ex H H2 → H2 t = some (.tup [.str tg, .int v0]) → Q (.ref t) H2) → errD C (WE W (start ["word", "p", "first", "second", "e", "flags"] [.str wd, .int p, .int f, .int s2])) H v0 := by
    intro C r pp v0 tg F hC q d hd
    rw [← hW]
    refine ⟨true, F.ex, fun _ a ha => ?_, fun z => Bool.noConfusion z⟩
    have e0 : Evl.Ex H (upd H d (.xd [(("number" : Str), .int v0)])) := Evl.Ex.new hd
    have hx0 : (upd H d (.xd [(("number" : Str), .int v0)])) d = some (.xd [(("number" : Str), .int v0)]) := upd_same
    generalize upd H d (.xd [(("number" : Str), .int v0)]) = H1 at e0 hx0 ha
    clear hW
    walk_at "rd"
    refine isE F (.own _) F.k1 (fun dd e => by cases e; exact ⟨_, hx0⟩) ?_
    walk_at "rd"
    refine isE F (.own _) F.k2 (fun dd e => by cases e; exact ⟨_, hx0⟩) ?_
    walk_at "rd"
    refine isE F (.own _) F.k3 (fun dd e => by cases e; exact ⟨_, hx0⟩) ?_
    walk_at "rd"
    refine ⟨by show (3 : Nat) ≤ sizeLine; decide, fun b1 hb1 => ?_⟩
    generalize q1 : upd H1 b1 _ = H2
    have e1 : Evl.Ex H1 H2 := by rw [← q1]; exact Evl.Ex.new hb1
    have l1 : H2 b1 = some (.lst ([false, r, pp].map V.bl)) := by rw [← q1]; exact upd_same
    clear q1
    have hx1 := e1 _ _ hx0
    walk_at "rd"
    refine isE F (.own _) F.k4 (fun dd e => by cases e; exact ⟨_, hx1⟩) ?_
    walk_at "rd"
    refine isE F (.own _) F.k5 (fun dd e => by cases e; exact ⟨_, hx1⟩) ?_
    walk_at "rd"
    refine isE F (.own _) F.k6 (fun dd e => by cases e; exact ⟨_, hx1⟩) ?_
    walk_at "rd"
    refine ⟨by show (3 : Nat) ≤ sizeLine; decide, fun c2 hc2 => ?_⟩
    generalize p2 : upd H2 c2 _ = G2
    have f2 : Evl.Ex H2 G2 := by rw [← p2]; exact Evl.Ex.new hc2
    have m2 : G2 c2 = some (.lst ([false, false, false].map V.bl)) := by rw [← p2]; exact upd_same
    clear p2
    refine ⟨b1, c2, _, _, rfl, rfl, f2 _ _ l1, m2, by show (6 : Nat) ≤ sizeLine; decide, fun b2 hb2 => ?_⟩
    generalize q2 : upd G2 b2 _ = H3
    have e2 : Evl.Ex G2 H3 := by rw [← q2]; exact Evl.Ex.new hb2
    have l2 : H3 b2 = some (.lst ([false, r, pp, false, false, false].map V.bl)) := by rw [← q2]; exact upd_same
    clear q2
    have hx2 := e2 _ _ (f2 _ _ hx1)
    walk_at "rd"
    refine isE F (.own _) F.k7 (fun dd e => by cases e; exact ⟨_, hx2⟩) ?_
    walk_at "rd"
    refine isE F (.own _) F.k8 (fun dd e => by cases e; exact ⟨_, hx2⟩) ?_
    walk_at "rd"
    refine isE F (.own _) F.k9 (fun dd e => by cases e; exact ⟨_, hx2⟩) ?_
    walk_at "rd"
    refine ⟨by show (3 : Nat) ≤ sizeLine; decide, fun c3 hc3 => ?_⟩
    generalize p3 : upd H3 c3 _ = G3
    have f3 : Evl.Ex H3 G3 := by rw [← p3]; exact Evl.Ex.new hc3
    have m3 : G3 c3 = some (.lst ([false, false, false].map V.bl)) := by rw [← p3]; exact upd_same
    clear p3
    refine ⟨b2, c3, _, _, rfl, rfl, f3 _ _ l2, m3, by show (9 : Nat) ≤ sizeLine; decide, fun b3 hb3 => ?_⟩
    generalize q3 : upd G3 b3 _ = H4
    have e3 : Evl.Ex G3 H4 := by rw [← q3]; exact Evl.Ex.new hb3
    have l3 : H4 b3 = some (.lst ([false, r, pp, false, false, false, false, false, false].map V.bl)) := by rw [← q3]; exact upd_same
    clear q3
    have hx3 := e3 _ _ (f3 _ _ hx2)
    walk_at "rd"
    refine isE F (.own _) F.k10 (fun dd e => by cases e; exact ⟨_, hx3⟩) ?_
    walk_at "rd"
    refine isE F (.own _) F.k11 (fun dd e => by cases e; exact ⟨_, hx3⟩) ?_
    walk_at "rd"
    refine isE F (.own _) F.k12 (fun dd e => by cases e; exact ⟨_, hx3⟩) ?_
    walk_at "rd"
    refine ⟨by show (3 : Nat) ≤ sizeLine; decide, fun c4 hc4 => ?_⟩
    generalize p4 : upd H4 c4 _ = G4
    have f4 : Evl.Ex H4 G4 := by rw [← p4]; exact Evl.Ex.new hc4
    have m4 : G4 c4 = some (.lst ([false, false, false].map V.bl)) := by rw [← p4]; exact upd_same
    clear p4
    refine ⟨b3, c4, _, _, rfl, rfl, f4 _ _ l3, m4, by show (12 : Nat) ≤ sizeLine; decide, fun b4 hb4 => ?_⟩
    generalize q4 : upd G4 b4 _ = H5
    have e4 : Evl.Ex G4 H5 := by rw [← q4]; exact Evl.Ex.new hb4
    have l4 : H5 b4 = some (.lst ([false, r, pp, false, false, false, false, false, false, false, false, false].map V.bl)) := by rw [← q4]; exact upd_same
    clear q4
    have hx4 := e4 _ _ (f4 _ _ hx3)
    walk_at "rd"
    refine isE F (.own _) F.k13 (fun dd e => by cases e; exact ⟨_, hx4⟩) ?_
    walk_at "rd"
    refine ⟨by show (1 : Nat) ≤ sizeLine; decide, fun c5 hc5 => ?_⟩
    generalize p5 : upd H5 c5 _ = G5
    have f5 : Evl.Ex H5 G5 := by rw [← p5]; exact Evl.Ex.new hc5
    have m5 : G5 c5 = some (.lst ([false].map V.bl)) := by rw [← p5]; exact upd_same
    clear p5
    refine ⟨b4, c5, _, _, rfl, rfl, f5 _ _ l4, m5, by show (13 : Nat) ≤ sizeLine; decide, fun b5 hb5 => ?_⟩
    generalize q5 : upd G5 b5 _ = H6
    have e5 : Evl.Ex G5 H6 := by rw [← q5]; exact Evl.Ex.new hb5
    have l5 : H6 b5 = some (.lst ([false, r, pp, false, false, false, false, false, false, false, false, false, false].map V.bl)) := by rw [← q5]; exact upd_same
    clear q5
    have hx5 := e5 _ _ (f5 _ _ hx4)
    walk_at "rd"
    have eH := e0.trans (e1.trans (f2.trans (e2.trans (f3.trans (e3.trans (f4.trans (e4.trans (f5.trans e5))))))))
    clear e0 e1 f2 e2 f3 e3 f4 e4 f5 e5 l1 l2 l3 l4 m2 m3 m4 m5 hx0 hx1 hx2 hx3 hx4
    have lsq : SqL K H6 b5 _ := .inl (.inl l5)
    refine ⟨.inl ⟨rfl, _, lsq⟩, ?_⟩
    walk_at "rd"
    refine KR.bcount lsq ?_
    walk_at "rd"
    rcases hC with ⟨rfl, rfl, rfl, rfl⟩ | ⟨rfl, rfl, rfl, rfl⟩
    · refine KR.iteND (fun z => absurd (by decide) z) (fun _ => ?_)
      walk_at "rd"
      refine isE F (.ty _) F.kv (fun dd e => by cases e; exact ⟨_, hx5⟩) ?_
      walk_at "rd"
      refine KR.ixL lsq (atI_nat (j := 0) (v := .bl false) rfl) ?_
      walk_at "rd"
      refine KR.ixL lsq (atI_nat (j := 1) (v := .bl true) rfl) ?_
      walk_at "rd"
      refine ⟨rfl, _, .int v0, hx5, rfl, ?_⟩
      walk_at "rd"
      refine ⟨v0, rfl, ?_⟩
      walk_at "rd"
      exact ⟨by show (2 : Nat) ≤ sizeLine; decide, fun t ht => q t _ (eH.trans (Evl.Ex.new ht)) upd_same⟩
    · refine KR.iteND (fun z => absurd (by decide) z) (fun _ => ?_)
      walk_at "rd"
      refine isE F (.ty _) F.kv (fun dd e => by cases e; exact ⟨_, hx5⟩) ?_
      walk_at "rd"
      refine KR.ixL lsq (atI_nat (j := 0) (v := .bl false) rfl) ?_
      walk_at "rd"
      refine KR.ixL lsq (atI_nat (j := 1) (v := .bl false) rfl) ?_
      walk_at "rd"
      refine KR.ixL lsq (atI_nat (j := 2) (v := .bl true) rfl) ?_
      walk_at "rd"
      refine ⟨rfl, _, .int v0, hx5, rfl, ?_⟩
      walk_at "rd"
      refine ⟨v0, rfl, ?_⟩
      walk_at "rd"
      exact ⟨by show (2 : Nat) ≤ sizeLine; decide, fun t ht => q t _ (eH.trans (Evl.Ex.new ht)) upd_same⟩
  clear hW
  have leafR : ∀ v0, (∀ t H2, Evl.Ex H H2 → H2 t = some (.tup [.str "range", .int v0]) → Q (.ref t) H2) → errD A.a_RangeError (WE W (start ["word", "p", "first", "second", "e", "flags"] [.str wd, .int p, .int f, .int s2])) H v0 :=
    fun v0 q => leaf _ _ _ v0 "range" T.efR (.inl ⟨rfl, rfl, rfl, rfl⟩) q
  have leafP : ∀ v0, (∀ t H2, Evl.Ex H H2 → H2 t = some (.tup [.str "prime", .int v0]) → Q (.ref t) H2) → errD A.a_PrimeError (WE W (start ["word", "p", "first", "second", "e", "flags"] [.str wd, .int p, .int f, .int s2])) H v0 :=
    fun v0 q => leaf _ _ _ v0 "prime" T.efP (.inr ⟨rfl, rfl, rfl, rfl⟩) q
  clear leaf
  have cho : wd = "choose" → sp_choose_depth A [.int p, .int f, .int s2] H (fun x H1 => 2 ≤ sizeLine ∧ ∀ t, H1 t = none → Q (.ref t) (upd H1 t (.tup [.str "told", x]))) (WE W (start ["word", "p", "first", "second", "e", "flags"] [.str wd, .int p, .int f, .int s2])) := by
    intro hw
    refine ⟨p, f, s2, rfl, fun hp => ?_, fun hp => ⟨fun hf => ?_, fun hf => ⟨fun hs => ?_, fun hs => ⟨fun hl => ?_, fun hl J hJ => ⟨by show (2 : Nat) ≤ sizeLine; decide, fun t ht => ?_⟩⟩⟩⟩⟩
    · cases hans with
      | badp _ _ => exact leafP _ q
      | badf _ h _ | bads _ h _ _ | less h _ _ _ | same h _ _ => exact absurd h hp
    · cases hans with
      | badf _ _ _ => exact leafR _ q
      | badp _ h => exact absurd hp h
      | bads _ _ h _ | less _ h _ _ | same _ h _ => exact absurd h hf
    · cases hans with
      | bads _ _ _ _ => exact leafR _ q
      | badp _ h => exact absurd hp h
      | badf _ _ h => exact absurd hf h
      | less _ _ h _ => exact absurd h hs
      | same _ h e => exact absurd (e ▸ h) hs
    · cases hans with
      | less _ _ _ _ => exact leafR _ q
      | badp _ h => exact absurd hp h
      | badf _ _ h => exact absurd hf h
      | bads _ _ _ h => exact absurd hs h
      | same _ _ e => omega
    · cases hans with
      | same _ _ e =>
        refine q t _ (Evl.Ex.new ht) ?_
        rw [upd_same, e, Int.sub_self]
        rw [show (0 : Int).toNat = 0 from rfl, C_nil (by have : ∀ x ∈ primesL, 2 ≤ x := by decide
                                                         have := this p hp; omega)]
        rfl
      | badp _ h => exact absurd hp h
      | badf _ _ h => exact absurd hf h
      | bads _ _ _ h => exact absurd hs h
      | less _ _ _ h => omega
  have car : wd = "carries" → sp_carries A [.int p, .int f, .int s2] H (fun x H1 => 2 ≤ sizeLine ∧ ∀ t, H1 t = none → Q (.ref t) (upd H1 t (.tup [.str "told", x]))) (WE W (start ["word", "p", "first", "second", "e", "flags"] [.str wd, .int p, .int f, .int s2])) := by
    intro hw
    refine ⟨p, f, s2, rfl, fun hp => ?_, fun hp => ⟨fun hf => ?_, fun hf => ⟨fun hs => ?_, fun hs => ?_⟩⟩⟩
    · cases hans with
      | badp _ _ => exact leafP _ q
      | badf _ h _ | bads _ h _ _ | less h _ _ _ | same h _ _ => exact absurd h hp
    · cases hans with
      | badf _ _ _ => exact leafR _ q
      | badp _ h => exact absurd hp h
      | bads _ _ h _ | less _ h _ _ | same _ h _ => exact absurd h hf
    · cases hans with
      | bads _ _ _ _ => exact leafR _ q
      | badp _ h => exact absurd hp h
      | badf _ _ h => exact absurd hf h
      | less _ _ h _ => exact absurd h hs
      | same _ h e => exact absurd (e ▸ h) hs
    · cases hans with
      | badp _ h => exact absurd hp h
      | badf _ _ h => exact absurd hf h
      | bads _ _ _ h => exact absurd hs h
      | less _ _ _ h => exact absurd hw (by decide)
      | same _ _ e => exact absurd hw (by decide)
  have sm : wd = "sum" → sp_digit_sum A [.int p, .int f] H (fun x H1 => 2 ≤ sizeLine ∧ ∀ t, H1 t = none → Q (.ref t) (upd H1 t (.tup [.str "told", x]))) (WE W (start ["word", "p", "first", "second", "e", "flags"] [.str wd, .int p, .int f, .int s2])) := by
    intro hw
    refine ⟨p, f, rfl, fun hp => ?_, fun hp => ⟨fun hf => ?_, fun hf => ?_⟩⟩
    · cases hans with
      | badp _ _ => exact leafP _ q
      | badf _ h _ | bads _ h _ _ | less h _ _ _ | same h _ _ => exact absurd h hp
    · cases hans with
      | badf _ _ _ => exact leafR _ q
      | badp _ h => exact absurd hp h
      | bads _ _ h _ | less _ h _ _ | same _ h _ => exact absurd h hf
    · cases hans with
      | badp _ h => exact absurd hp h
      | badf _ _ h => exact absurd hf h
      | bads h _ _ _ => rcases h with h | h <;> exact absurd (hw.symm.trans h) (by decide)
      | less _ _ _ h => exact absurd hw (by decide)
      | same _ _ e => exact absurd hw (by decide)
  have fa : wd = "factorial" → sp_factorial_depth A [.int p, .int f] H (fun x H1 => 2 ≤ sizeLine ∧ ∀ t, H1 t = none → Q (.ref t) (upd H1 t (.tup [.str "told", x]))) (WE W (start ["word", "p", "first", "second", "e", "flags"] [.str wd, .int p, .int f, .int s2])) := by
    intro hw
    refine ⟨p, f, rfl, fun hp => ?_, fun hp => ⟨fun hf => ?_, fun hf => ?_⟩⟩
    · cases hans with
      | badp _ _ => exact leafP _ q
      | badf _ h _ | bads _ h _ _ | less h _ _ _ | same h _ _ => exact absurd h hp
    · cases hans with
      | badf _ _ _ => exact leafR _ q
      | badp _ h => exact absurd hp h
      | bads _ _ h _ | less _ h _ _ | same _ h _ => exact absurd h hf
    · cases hans with
      | badp _ h => exact absurd hp h
      | badf _ _ h => exact absurd hf h
      | bads h _ _ _ => rcases h with h | h <;> exact absurd (hw.symm.trans h) (by decide)
      | less _ _ _ h => exact absurd hw (by decide)
      | same _ _ e => exact absurd hw (by decide)
  have hword : wd = "choose" ∨ wd = "carries" ∨ wd = "sum" ∨ wd = "factorial" := by
    cases hans with
    | badp h _ => exact h
    | badf h _ _ => exact h
    | bads h _ _ _ => exact h.imp id .inl
    | less _ _ _ _ => exact .inl rfl
    | same _ _ _ => exact .inl rfl
  clear leafR leafP q hans
  walk_at "rd"
  refine KR.eqS rfl ?_
  walk_at "rd"
  refine KR.iteD (fun z => ?_) (fun z1 => ?_)
  · walk_at "rd"
    exact cho (by injection z)
  walk_at "rd"
  refine KR.eqS rfl ?_
  walk_at "rd"
  refine KR.iteD (fun z => ?_) (fun z2 => ?_)
  · walk_at "rd"
    exact car (by injection z)
  walk_at "rd"
  refine KR.eqS rfl ?_
  walk_at "rd"
  refine KR.iteD (fun z => ?_) (fun z3 => ?_)
  · walk_at "rd"
    exact sm (by injection z)
  walk_at "rd"
  rcases hword with h | h | h | h
  · exact absurd (congrArg V.str h) z1
  · exact absurd (congrArg V.str h) z2
  · exact absurd (congrArg V.str h) z3
  · exact fa h
end
end K7
namespace K7
open PySem PySem.Spec PyProof.Rows L2
local macro_rules | `(tactic| walk_at "rc") => `(tactic| first
  | assumption
  | (show (0 : Int) < _; omega)
  | (show (0 : Int) < _ ∧ _ < (1073741824 : Int); exact ⟨by omega, by omega⟩)
  | (show (-(2 ^ 64 : Int) < _ ∧ _ < (2 ^ 64 : Int)) ∨ _; exact .inl ⟨by omega, by omega⟩)
  | (show _ ∨ (-(2 ^ 64 : Int) < _ ∧ _ < (2 ^ 64 : Int)); exact .inr ⟨by omega, by omega⟩)
  | (show (0 : Int) ≤ _ ∧ _ ≤ (1000000 : Int) ∧ _ < 2 ^ 64; exact ⟨by decide, by decide, by decide⟩))
local macro_rules | `(tactic| walk_at "rd") => `(tactic| repeat (first
  | with_reducible apply KR.seq
  | with_reducible apply KR.asg
  | with_reducible apply KR.drop
  | with_reducible apply KR.ret
  | with_reducible apply KR.retN
  | with_reducible apply KR.next
  | with_reducible apply KR.ifs
  | with_reducible refine KR.var rfl ?_
  | with_reducible refine L2.iteT ?_
  | with_reducible refine L2.iteF ?_
  | with_reducible refine KR.iteNF ?_
  | with_reducible refine KR.iteNT ?_
  | with_reducible apply KR.con
  | with_reducible apply KR.op
  | with_reducible apply KR.opI0
  | ((with_reducible refine KR.opI ?rc ?_); (case rc => walk_at "rc"))
  | with_reducible apply KR.un
  | with_reducible apply KR.unI
  | with_reducible apply KR.eqI
  | with_reducible apply KR.neI
  | with_reducible apply KR.test
  | with_reducible apply KR.tb'
  | with_reducible apply KR.exbl
  | with_reducible apply KR.and'
  | with_reducible apply KR.or'
  | with_reducible apply KR.not'
  | with_reducible apply KR.chain
  | with_reducible apply KR.call
  | with_reducible apply KR.callS
  | with_reducible apply KR.make
  | with_reducible apply KR.bm
  | with_reducible apply KR.errF
  | with_reducible apply KR.cons
  | with_reducible apply KR.nil
  | with_reducible apply KR.cb
  | with_reducible apply KR.cInt1
  | with_reducible apply KR.cI1
  | with_reducible apply KR.cI2
  | with_reducible apply KR.isi_ii
  | with_reducible apply KR.isi_ib
  | with_reducible apply KR.bits
  | with_reducible apply KR.exint
  | with_reducible apply KR.ifx
  | with_reducible refine KR.aug rfl ?_
  | with_reducible apply KR.ipI
  | with_reducible apply KR.for'
  | with_reducible apply KR.rng1
  | with_reducible apply KR.rng2
  | with_reducible apply KR.ilist
  | with_reducible apply KR.itup
  | with_reducible apply KR.tup
  | with_reducible apply KR.lst
  | with_reducible apply KR.andV
  | with_reducible apply KR.orV
  | with_reducible apply KR.notV
  | with_reducible apply KR.asgG
  | with_reducible apply KR.sub
  | with_reducible apply KR.fld
  | with_reducible apply KR.prop
  | with_reducible apply KR.meth
  | with_reducible apply KR.par
  | with_reducible apply KR.parN
  | with_reducible apply KR.raise1
  | with_reducible apply KR.raise0
  | with_reducible apply KR.exv
  | with_reducible apply KR.lc
  | with_reducible apply KR.ienT
  | with_reducible apply KR.sfld
  | with_reducible apply KR.sl
  | with_reducible apply KR.part
  | with_reducible apply KR.nopart
  | with_reducible apply KR.isNo
  | with_reducible refine KR.nnT ?_
  | with_reducible refine KR.niF ?_
  | with_reducible refine KR.nrF ?_
  | with_reducible refine KR.mnT ?_
  | with_reducible refine KR.miF ?_
  | with_reducible refine KR.mrF ?_))
section
variable {P : Program} {w : World} {K : PySem.W.Frag} {mg : Str → Option Value} {base : Heap} {A : Ad}
def sp_law_counted : Sp := fun vs H Q _ => ∃ p n k : Nat, vs = [.int p, .int n, .int k] ∧ (p : Int) ∈ primesL ∧ k ≤ n ∧ (n : Int) ≤ M60 ∧ ∀ H2, Evl.Ex H H2 → Q (.bl true) H2
theorem lt200 {p n : Nat} (hp : 2 ≤ p) (h : (n : Int) ≤ M60) : n < p ^ 200 := by
  have h1 : 2 ^ 200 ≤ p ^ 200 := Nat.pow_le_pow_left hp 200
  have h2 : (M60 : Int) < 2 ^ 200 := by decide
  have h3 : ((2 ^ 200 : Nat) : Int) = 2 ^ 200 := by decide
  omega
theorem ltBig {n : Nat} (h : (n : Int) ≤ M60) : n < 2 ^ 100000 := Nat.lt_of_lt_of_le (lt200 (p := 2) (by decide) h) (Nat.pow_le_pow_right (by decide) (by decide))
theorem okM_nat {n : Nat} (h : (n : Int) ≤ M60) : (0 : Int) ≤ n ∧ (n : Int) ≤ M60 := ⟨Int.natCast_nonneg _, h⟩
theorem two_of {p : Nat} (hp : (p : Int) ∈ primesL) : 2 ≤ p ∧ p < 100 := by
  obtain ⟨q', e, h2, h9⟩ := pr_of hp
  omega
variable {H : Hp} {Q : VK} {E : XK} {p n k a b J0 : Nat}
theorem sChoose (hJ : ∀ m : Nat, (m : Int) ≤ M60 → m < p ^ J0) (hp : (p : Int) ∈ primesL) (hk : k ≤ n) (hn : (n : Int) ≤ M60) (q : Q (.int (C p J0 k (n - k) 0 : Nat)) H) : sp_choose_depth A [.int p, .int n, .int k] H Q E := by
  refine ⟨p, n, k, rfl, fun z => absurd hp z, fun _ => ⟨fun z => absurd (okM_nat hn) z, fun _ => ⟨fun z => absurd (okM_nat (n := k) (by omega)) z, fun _ => ⟨fun z => by omega, fun _ J hJ2 => ?_⟩⟩⟩⟩
  have e : ((n : Int) - (k : Int)).toNat = n - k := by omega
  rw [e]
  have hJ' : n < p ^ J := hJ2
  have h2 := hJ n hn
  have := C_fuel (two_of hp).1 J k (n - k) 0 (by omega) (by omega) (by omega) J0 (by omega) (by omega)
  show Q (.int (C p J k (n - k) 0 : Nat)) H
  rw [this]
  exact q
theorem sCarries (hJ : ∀ m : Nat, (m : Int) ≤ M60 → m < p ^ J0) (hp : (p : Int) ∈ primesL) (hn : ((a + b : Nat) : Int) ≤ M60) (q : Q (.int (C p J0 a b 0 : Nat)) H) : sp_carries A [.int p, .int a, .int b] H Q E := by
  refine ⟨p, a, b, rfl, fun z => absurd hp z, fun _ => ⟨fun z => absurd (okM_nat (n := a) (by omega)) z, fun _ => ⟨fun z => absurd (okM_nat (n := b) (by omega)) z, fun _ J h1 h2 => ?_⟩⟩⟩
  have h3 := hJ _ hn
  show Q (.int (C p J a b 0 : Nat)) H
  rw [C_fuel (two_of hp).1 J a b 0 (by omega) h1 h2 J0 (by omega) (by omega)]
  exact q
theorem sFact (hJ : ∀ m : Nat, (m : Int) ≤ M60 → m < p ^ J0) (hp : (p : Int) ∈ primesL) (hn : (n : Int) ≤ M60) (q : Q (.int (L p J0 n : Nat)) H) : sp_factorial_depth A [.int p, .int n] H Q E := by
  refine ⟨p, n, rfl, fun z => absurd hp z, fun _ => ⟨fun z => absurd (okM_nat hn) z, fun _ J h1 => ?_⟩⟩
  show Q (.int (L p J n : Nat)) H
  rw [L_fuel (two_of hp).1 J n h1 J0 (hJ n hn)]
  exact q
theorem sSum (hJ : ∀ m : Nat, (m : Int) ≤ M60 → m < p ^ J0) (hp : (p : Int) ∈ primesL) (hn : (n : Int) ≤ M60) (q : Q (.int (S p J0 n : Nat)) H) : sp_digit_sum A [.int p, .int n] H Q E := by
  refine ⟨p, n, rfl, fun z => absurd hp z, fun _ => ⟨fun z => absurd (okM_nat hn) z, fun _ J h1 => ?_⟩⟩
  show Q (.int (S p J n : Nat)) H
  rw [S_fuel (two_of hp).1 J n h1 J0 (hJ n hn)]
  exact q
theorem sLF (hJ : ∀ m : Nat, (m : Int) ≤ M60 → m < p ^ J0) (hp : (p : Int) ∈ primesL) (hn : (n : Int) ≤ M60) (q : Q (.int (L p J0 n : Nat)) H) : sp_law_factorial [.int p, .int n] H Q E := by
  refine ⟨p, n, rfl, (two_of hp).1, (two_of hp).2, ltBig hn, fun J h1 => ?_⟩
  rw [L_fuel (two_of hp).1 J n h1 J0 (hJ n hn)]
  exact q
theorem sLS (hJ : ∀ m : Nat, (m : Int) ≤ M60 → m < p ^ J0) (hp : (p : Int) ∈ primesL) (hn : (n : Int) ≤ M60) (q : Q (.int (S p J0 n : Nat)) H) : sp_law_summed [.int p, .int n] H Q E := by
  refine ⟨p, n, rfl, (two_of hp).1, (two_of hp).2, ltBig hn, fun J h1 => ?_⟩
  rw [S_fuel (two_of hp).1 J n h1 J0 (hJ n hn)]
  exact q
theorem sLC (hJ : ∀ m : Nat, (m : Int) ≤ M60 → m < p ^ J0) (hp : (p : Int) ∈ primesL) (hn : ((a + b : Nat) : Int) ≤ M60) (q : Q (.int (C p J0 a b 0 : Nat)) H) : sp_law_carried [.int p, .int a, .int b] H Q E := by
  refine ⟨p, a, b, rfl, (two_of hp).1, (two_of hp).2, ltBig hn, fun J h1 => ?_⟩
  have h3 := hJ _ hn
  rw [C_fuel (two_of hp).1 J a b 0 (by omega) (by omega) (by omega) J0 (by omega) (by omega)]
  exact q
theorem sIs {x y : Int} (e : x = y) (q : Q (.bl true) H) : sp_law_is [.int x, .int y] H Q E := ⟨x, y, rfl, by rw [decide_eq_true e]; exact q⟩
theorem ok_law_counted (T : Txt P K mg A) : FnOk P w K mg base CX0 4 A.a_law_counted A.d_law_counted ["p", "n", "k"] sp_law_counted := by
  refine T.F_law_counted.ok sc_law_counted (fun vs H Q E h => ?_) (fun cdv Ar outer s H vs Q E hr h => ?_)
  · obtain ⟨_, _, _, rfl, _⟩ := h; rfl
  have nd := sc_law_counted.nd
  obtain ⟨p, n, k, rfl, hp, hk, hn, q⟩ := h
  obtain ⟨h2, h9⟩ := two_of hp
  obtain ⟨J0, hJ⟩ : ∃ J0, ∀ m : Nat, (m : Int) ≤ M60 → m < p ^ J0 := ⟨200, fun m hm => lt200 h2 hm⟩
  refine ⟨_, (pss_cons (ps_set (i := 3) nd rfl (.inl rfl) (pe_call (ok_law_carried T) (hr.mono (by decide)) (by rfl) T.g_law_carried T.k_law_carried T.b_law_carried .nil pass0 (pa_cons (pv 0) (pa_cons (pv 2) (pa_cons (pe_op op_sub (pv 1) (pv 2)) pa_nil)))))
    (pss_cons (ps_if (pt_not (pt_val (pe_call (ok_law_is T) (hr.mono (by decide)) (by rfl) T.g_law_is T.k_law_is T.b_law_is .nil pass0 (pa_cons (pe_call (ok_choose_depth T) (hr.mono (by decide)) (by rfl) T.g_choose_depth T.k_choose_depth T.b_choose_depth .nil passN (pa_cons (pv 0) (pa_cons (pv 1) (pa_cons (pv 2) pa_nil)))) (pa_cons (pv 3) pa_nil))))) (pss_one (ps_ret pe_bl)) pss_nil)
    (pss_cons (ps_if (pt_not (pt_val (pe_call (ok_law_is T) (hr.mono (by decide)) (by rfl) T.g_law_is T.k_law_is T.b_law_is .nil pass0 (pa_cons (pe_call (ok_carries T) (hr.mono (by decide)) (by rfl) T.g_carries T.k_carries T.b_carries .nil passN (pa_cons (pv 0) (pa_cons (pv 2) (pa_cons (pe_op op_sub (pv 1) (pv 2)) pa_nil)))) (pa_cons (pv 3) pa_nil))))) (pss_one (ps_ret pe_bl)) pss_nil)
    (pss_cons (ps_set (i := 4) nd rfl (.inl rfl) (pe_lst (pa_cons (pv 1) (pa_cons (pv 2) (pa_cons (pe_op op_sub (pv 1) (pv 2)) pa_nil)))))
    (pss_cons (ps_for PassesOwn.never rfl (pi_list (pv 4)) (pg_name (i := 5) nd rfl (Or.inl rfl)) (pss_cons (ps_if (pt_not (pt_val (pe_call (ok_law_is T) (hr.mono (by decide)) (by rfl) T.g_law_is T.k_law_is T.b_law_is .nil pass0 (pa_cons (pe_call (ok_factorial_depth T) (hr.mono (by decide)) (by rfl) T.g_factorial_depth T.k_factorial_depth T.b_factorial_depth .nil passN (pa_cons (pv 0) (pa_cons (pv 5) pa_nil))) (pa_cons (pe_call (ok_law_factorial T) (hr.mono (by decide)) (by rfl) T.g_law_factorial T.k_law_factorial T.b_law_factorial .nil pass0 (pa_cons (pv 0) (pa_cons (pv 5) pa_nil))) pa_nil))))) (pss_one (ps_ret pe_bl)) pss_nil)
    (pss_one (ps_if (pt_not (pt_val (pe_call (ok_law_is T) (hr.mono (by decide)) (by rfl) T.g_law_is T.k_law_is T.b_law_is .nil pass0 (pa_cons (pe_call (ok_digit_sum T) (hr.mono (by decide)) (by rfl) T.g_digit_sum T.k_digit_sum T.b_digit_sum .nil passN (pa_cons (pv 0) (pa_cons (pv 5) pa_nil))) (pa_cons (pe_call (ok_law_summed T) (hr.mono (by decide)) (by rfl) T.g_law_summed T.k_law_summed T.b_law_summed .nil pass0 (pa_cons (pv 0) (pa_cons (pv 5) pa_nil))) pa_nil))))) (pss_one (ps_ret pe_bl)) pss_nil))))
    (pss_cons (ps_set (i := 6) nd rfl (.inl rfl) (pe_op op_sub (pe_call (ok_factorial_depth T) (hr.mono (by decide)) (by rfl) T.g_factorial_depth T.k_factorial_depth T.b_factorial_depth .nil passN (pa_cons (pv 0) (pa_cons (pv 1) pa_nil))) (pe_call (ok_factorial_depth T) (hr.mono (by decide)) (by rfl) T.g_factorial_depth T.k_factorial_depth T.b_factorial_depth .nil passN (pa_cons (pv 0) (pa_cons (pv 2) pa_nil)))))
    (pss_cons (ps_set (i := 6) nd rfl (.inl rfl) (pe_op op_sub (pv 6) (pe_call (ok_factorial_depth T) (hr.mono (by decide)) (by rfl) T.g_factorial_depth T.k_factorial_depth T.b_factorial_depth .nil passN (pa_cons (pv 0) (pa_cons (pe_op op_sub (pv 1) (pv 2)) pa_nil)))))
    (pss_cons (ps_set (i := 7) nd rfl (.inl rfl) (pe_op op_sub (pe_op op_add (pe_call (ok_digit_sum T) (hr.mono (by decide)) (by rfl) T.g_digit_sum T.k_digit_sum T.b_digit_sum .nil passN (pa_cons (pv 0) (pa_cons (pv 2) pa_nil))) (pe_call (ok_digit_sum T) (hr.mono (by decide)) (by rfl) T.g_digit_sum T.k_digit_sum T.b_digit_sum .nil passN (pa_cons (pv 0) (pa_cons (pe_op op_sub (pv 1) (pv 2)) pa_nil)))) (pe_call (ok_digit_sum T) (hr.mono (by decide)) (by rfl) T.g_digit_sum T.k_digit_sum T.b_digit_sum .nil passN (pa_cons (pv 0) (pa_cons (pv 1) pa_nil)))))
    (pss_one (ps_ret (pe_and (pe_cmpR op_eq (pv 6) (pv 3) (nomark _)) (pe_one (pe_cmpR op_eq (pv 7) (pe_op op_mul (pv 3) (pe_op op_sub (pv 0) pe_int)) (nomark _)))))))))))))), ?_⟩
  have enk : (n : Int) - (k : Int) = ((n - k : Nat) : Int) := by omega
  have hadd : k + (n - k) = n := by omega
  have hn2 : ((k + (n - k) : Nat) : Int) ≤ M60 := by rw [hadd]; exact hn
  walk_at "rd"
  rw [enk]
  refine sLC hJ hp hn2 ?_
  walk_at "rd"
  refine sChoose hJ hp hk hn ?_
  walk_at "rd"
  refine sIs rfl ?_
  walk_at "rd"
  rw [enk]
  refine sCarries hJ hp hn2 ?_
  walk_at "rd"
  refine sIs rfl ?_
  walk_at "rd"
  rw [enk]
  refine ⟨by show (3 : Nat) ≤ sizeLine; decide, fun c hc => ?_⟩
  generalize hH1 : upd H c _ = H1
  have e1 : Evl.Ex H H1 := by rw [← hH1]; exact Evl.Ex.new hc
  have l1 : H1 c = some (.lst (([n, k, n - k] : List Nat).map fun x : Nat => V.int x)) := by rw [← hH1]; exact upd_same
  have hs : SqL K H1 c (([n, k, n - k] : List Nat).map fun x : Nat => V.int x) := .inl (.inl l1)
  have hparts : ∀ x ∈ ([n, k, n - k] : List Nat), (x : Int) ≤ M60 := by
    intro x hx
    simp at hx
    omega
  generalize ([n, k, n - k] : List Nat) = parts at hs hparts l1
  clear hH1
  walk_at "rd"
  refine KR.ilistN hs (KR.fwL (xs := parts.map fun x : Nat => V.int x) (fun i σ' H' => H' = H1 ∧ ∃ z, σ' = [some (.int p), some (.int n), some (.int k), some (.int (C p J0 k (n - k) 0 : Nat)), some (.ref c), z, none, none]) ⟨rfl, none, rfl⟩ ?_ ?_ ?_)
  · rintro i σ' H' hi ⟨rfl, _⟩
    exact hs
  · rintro i x σ' H' hx ⟨rfl, z, rfl⟩
    rw [List.getElem?_map] at hx
    obtain ⟨y, hy, rfl⟩ := Option.map_eq_some_iff.mp hx
    have hym := hparts y (List.mem_of_getElem? hy)
    walk_at "rd"
    refine sFact hJ hp hym ?_
    walk_at "rd"
    refine sLF hJ hp hym ?_
    walk_at "rd"
    refine sIs rfl ?_
    walk_at "rd"
    refine sSum hJ hp hym ?_
    walk_at "rd"
    refine sLS hJ hp hym ?_
    walk_at "rd"
    refine sIs rfl ?_
    walk_at "rd"
    exact ⟨rfl, _, rfl⟩
  · rintro σ' H' ⟨rfl, z, rfl⟩
    have hkm : (k : Int) ≤ M60 := by omega
    have hnk : ((n - k : Nat) : Int) ≤ M60 := by omega
    walk_at "rd"
    refine sFact hJ hp hn ?_
    walk_at "rd"
    refine sFact hJ hp hkm ?_
    walk_at "rd"
    rw [enk]
    refine sFact hJ hp hnk ?_
    walk_at "rd"
    refine sSum hJ hp hkm ?_
    walk_at "rd"
    rw [enk]
    refine sSum hJ hp hnk ?_
    walk_at "rd"
    refine sSum hJ hp hn ?_
    walk_at "rd"
    have hJ3 : k + (n - k) < p ^ J0 := by rw [hadd]; exact hJ n hn
    have hJ0 : k + (n - k) + 0 < p ^ J0 := hJ3
    have hL := L_C h2 J0 k (n - k) hJ3
    have hS := S_C h2 J0 k (n - k) 0 hJ0
    rw [hadd] at hL
    rw [Nat.add_zero, Nat.add_zero, hadd] at hS
    refine KR.iteDT (by omega) ?_
    walk_at "rd"
    have e : ((S p J0 k : Nat) : Int) + (S p J0 (n - k) : Nat) - (S p J0 n : Nat) = (C p J0 k (n - k) 0 : Nat) * ((p : Int) - 1) := by
      have e5 : ((p - 1 : Nat) : Int) = (p : Int) - 1 := by omega
      rw [← e5, ← Int.natCast_mul, Nat.mul_comm]
      omega
    rw [decide_eq_true e]
    exact q H' e1
end
end K7
namespace K7
open PySem PySem.Spec PyProof.Rows L2
local macro_rules | `(tactic| walk_at "rc") => `(tactic| first
  | assumption
  | (show (0 : Int) < _; omega)
  | (show (0 : Int) < _ ∧ _ < (1073741824 : Int); exact ⟨by omega, by omega⟩)
  | (show (-(2 ^ 64 : Int) < _ ∧ _ < (2 ^ 64 : Int)) ∨ _; exact .inl ⟨by omega, by omega⟩)
  | (show _ ∨ (-(2 ^ 64 : Int) < _ ∧ _ < (2 ^ 64 : Int)); exact .inr ⟨by omega, by omega⟩)
  | (show (0 : Int) ≤ _ ∧ _ ≤ (1000000 : Int) ∧ _ < 2 ^ 64; exact ⟨by decide, by decide, by decide⟩))
local macro_rules | `(tactic| walk_at "rd") => `(tactic| repeat (first
  | with_reducible apply KR.seq
  | with_reducible apply KR.asg
  | with_reducible apply KR.drop
  | with_reducible apply KR.ret
  | with_reducible apply KR.retN
  | with_reducible apply KR.next
  | with_reducible apply KR.ifs
  | with_reducible refine KR.var rfl ?_
  | with_reducible refine L2.iteT ?_
  | with_reducible refine L2.iteF ?_
  | with_reducible refine KR.iteNF ?_
  | with_reducible refine KR.iteNT ?_
  | with_reducible apply KR.con
  | with_reducible apply KR.op
  | with_reducible apply KR.opI0
  | ((with_reducible refine KR.opI ?rc ?_); (case rc => walk_at "rc"))
  | with_reducible apply KR.un
  | with_reducible apply KR.unI
  | with_reducible apply KR.eqI
  | with_reducible apply KR.neI
  | with_reducible apply KR.test
  | with_reducible apply KR.tb'
  | with_reducible apply KR.exbl
  | with_reducible apply KR.and'
  | with_reducible apply KR.or'
  | with_reducible apply KR.not'
  | with_reducible apply KR.chain
  | with_reducible apply KR.call
  | with_reducible apply KR.callS
  | with_reducible apply KR.make
  | with_reducible apply KR.bm
  | with_reducible apply KR.errF
  | with_reducible apply KR.cons
  | with_reducible apply KR.nil
  | with_reducible apply KR.cb
  | with_reducible apply KR.cInt1
  | with_reducible apply KR.cI1
  | with_reducible apply KR.cI2
  | with_reducible apply KR.isi_ii
  | with_reducible apply KR.isi_ib
  | with_reducible apply KR.bits
  | with_reducible apply KR.exint
  | with_reducible apply KR.ifx
  | with_reducible refine KR.aug rfl ?_
  | with_reducible apply KR.ipI
  | with_reducible apply KR.for'
  | with_reducible apply KR.rng1
  | with_reducible apply KR.rng2
  | with_reducible apply KR.ilist
  | with_reducible apply KR.itup
  | with_reducible apply KR.tup
  | with_reducible apply KR.lst
  | with_reducible apply KR.andV
  | with_reducible apply KR.orV
  | with_reducible apply KR.notV
  | with_reducible apply KR.asgG
  | with_reducible apply KR.sub
  | with_reducible apply KR.fld
  | with_reducible apply KR.prop
  | with_reducible apply KR.meth
  | with_reducible apply KR.par
  | with_reducible apply KR.parN
  | with_reducible apply KR.raise1
  | with_reducible apply KR.raise0
  | with_reducible apply KR.exv
  | with_reducible apply KR.lc
  | with_reducible apply KR.ienT
  | with_reducible apply KR.sfld
  | with_reducible apply KR.sl
  | with_reducible apply KR.part
  | with_reducible apply KR.nopart
  | with_reducible apply KR.isNo
  | with_reducible refine KR.nnT ?_
  | with_reducible refine KR.niF ?_
  | with_reducible refine KR.nrF ?_
  | with_reducible refine KR.mnT ?_
  | with_reducible refine KR.miF ?_
  | with_reducible refine KR.mrF ?_))
theorem Pool.ne {H : Hp} {a b : Addr} {o : HO} (h : Pool H a) (e : H b = some o) (hl : ∀ xs, o ≠ .lst xs) : b ≠ a := by
  obtain ⟨cs, _, ha⟩ := h
  intro z
  rw [z, ha] at e
  exact hl _ (Option.some.inj e).symm
theorem GObj.exB {A : Ad} {H H2 : Hp} {a g : Addr} {p i : Nat} (h : GObj A H g p i) (hp : Pool H a) (e : ExB a H H2) : GObj A H2 g p i := by
  obtain ⟨dx, t, h1, h2⟩ := h
  exact ⟨dx, t, e _ _ (hp.ne h1 (fun _ z => nomatch z)) h1, e _ _ (hp.ne h2 (fun _ z => nomatch z)) h2⟩
theorem pr_nat {p : Nat} (hp : (p : Int) ∈ primesL) : Pr p := by
  refine pr_list p ?_
  have h : ∀ x ∈ primesL, x.toNat ∈ [2, 3, 5, 7, 11, 13, 17, 19, 23, 29, 31, 37, 41, 43, 47, 53, 59, 61, 67, 71, 73, 79, 83, 89, 97] := by decide
  have := h _ hp
  rw [Int.toNat_natCast] at this
  exact this
theorem log_ok {b : Int} (h : 0 < b) (h2 : b.natAbs < 2 ^ 300) : b.natAbs.log2 < 9000 := by
  have h0 : b.natAbs ≠ 0 := by omega
  have := (Nat.log2_lt h0).mpr h2
  omega
theorem lt_big {n : Nat} (h : n < 2 ^ 2000 + 2 ^ 2000) : n < 2 ^ 100000 := by
  have e : (2 : Nat) ^ 2000 + 2 ^ 2000 = 2 ^ 2001 := by rw [Nat.pow_succ 2 2000, Nat.mul_two]
  rw [e] at h
  exact Nat.lt_of_lt_of_le h (Nat.pow_le_pow_right (by decide) (by decide))
theorem dL_of {p : Nat} {n : Int} (h : n ≠ 0) : dL p n = vI p n := if_neg h
theorem rowN_map (i : Nat) : (List.range i).map (fun _ => V.int 0) ++ [V.int 1] = rowV i := by
  unfold rowV rowN
  rw [List.map_append, List.map_replicate]
  congr 1
  exact List.map_const' .. |>.trans (by rw [List.length_range])
section
variable {P : Program} {w : World} {K : PySem.W.Frag} {mg : Str → Option Value} {base : Heap} {A : Ad}
def sp_law_row_told : Sp := fun vs H Q _ => ∃ (a : Addr) (p i : Nat) (g : Bool), vs = [.ref a, .int p, .int i, .bl g] ∧ Pool H a ∧ (p : Int) ∈ primesL ∧ i < 30 ∧
  ∀ H2, ExB a H H2 → Pool H2 a → Q (.bl true) H2
theorem ok_law_row_told (T : Txt P K mg A) : FnOk P w K mg base CX0 7 A.a_law_row_told A.d_law_row_told ["pool", "p", "i", "great"] sp_law_row_told := by
  refine T.F_law_row_told.ok sc_law_row_told (fun vs H Q E h => ?_) (fun cdv Ar outer s H vs Q E hr h => ?_)
  · obtain ⟨_, _, _, _, rfl, _⟩ := h; rfl
  have nd := sc_law_row_told.nd
  obtain ⟨a, p, i, gr, rfl, hpool, hp, hi, q⟩ := h
  obtain ⟨h2, h9⟩ := two_of hp
  refine ⟨_, (pss_cons (ps_set (i := 5) nd rfl (.inl rfl) (pe_make T.mk_Mahler (ok_Mahler_init T) (hr.mono (by decide)) (by rfl) T.g_Mahler T.b_Mahler_init .nil pass0 (pa_cons (pv 1) (pa_cons (pe_op op_cat (pe_lc (own := [("k", 4)]) (g := gName 4) (tt := tYes) rfl nd (pi_range1 (by rfl) T.n_range (pa_cons (pv 2) pa_nil)) (blkOk_by (own := [("k", 4)]) (N := ["pool", "p", "i", "great", "k", "g", "level", "pair", "apart", "top", "n", "told", "step", "near"]) (sc := defScope s_law_row_told) (by decide +kernel)) (fun _ _ _ _ _ => pg_name (i := 4) nd rfl (Or.inl rfl)) (fun _ _ _ _ _ => pts_nil) (fun _ _ _ _ _ => pe_int)) (pe_lst (pa_cons pe_int pa_nil))) pa_nil))))
    (pss_cons (ps_set (i := 6) nd rfl (.inl rfl) (pe_call (ok_law_step T) (hr.mono (by decide)) (by rfl) T.g_law_step T.k_law_step T.b_law_step .nil pass0 (pa_cons (pv 1) (pa_cons (pv 2) pa_nil))))
    (Evl.pss_cut (ps_set (i := 7) nd rfl (.inl rfl) (pe_meth0 (pv 5) T.cl_Mahler T.m_Mahler_pair (ok_Mahler_pair T) (hr.mono (by decide)) T.b_Mahler_pair .nil pass0))
    (Evl.pss_cut (ps_if (PW.pt (pw_and (pt_cmpR op_eq (pv 2) pe_int (nomark _)) (pw_and1 (PW.pt (pw_or (pt_cmpR op_notN (pe_prop (pv 5) T.cl_Mahler T.p_Mahler_bound (ok_Mahler_bound T) (hr.mono (by decide)) T.b_Mahler_bound .nil pass0 rfl) pe_non (nomark _)) (pw_or1 (pt_cmpR op_notN (pv 7) pe_non (nomark _)))))))) (pss_one (ps_ret pe_bl)) pss_nil)
    (Evl.pss_cut (ps_if (pt_cmpR op_gt (pv 2) pe_int (nomark _)) (pss_cons (ps_if (PW.pt (pw_or (pt_not (pt_val (pe_call (ok_law_is T) (hr.mono (by decide)) (by rfl) T.g_law_is T.k_law_is T.b_law_is .nil pass0 (pa_cons (pe_prop (pv 5) T.cl_Mahler T.p_Mahler_bound (ok_Mahler_bound T) (hr.mono (by decide)) T.b_Mahler_bound .nil pass0 rfl) (pa_cons (pv 6) pa_nil))))) (pw_or (pt_not (pt_val (pe_callB call_isi (by rfl) T.n_isinstance (by decide +kernel) (pa_cons (pv 7) (pa_cons (pe_bltn (v := .ty "tuple") (by rfl) T.n_tuple (by decide +kernel) rfl) pa_nil))))) (pw_or1 (pt_cmpR op_ne (pe_callB call_len_seq (by rfl) T.n_len PySem.boot_len (pa_cons (pv 7) pa_nil)) pe_int (nomark _)))))) (pss_one (ps_ret pe_bl)) pss_nil)
    (pss_cons (ps_if (PW.pt (pw_or (pt_cmpR op_isN (pe_call (ok_law_number T) (hr.mono (by decide)) (by rfl) T.g_law_number T.k_law_number T.b_law_number .nil pass0 (pa_cons (pe_ix ix_tup (pv 7) pe_int (fun _ _ => rfl)) pa_nil)) pe_non (nomark _)) (pw_or1 (pt_cmpR op_isN (pe_call (ok_law_number T) (hr.mono (by decide)) (by rfl) T.g_law_number T.k_law_number T.b_law_number .nil pass0 (pa_cons (pe_ix ix_tup (pv 7) pe_int (fun _ _ => rfl)) pa_nil)) pe_non (nomark _))))) (pss_one (ps_ret pe_bl)) pss_nil)
    (pss_cons (ps_if (PW.pt (pw_or (pt_cmpR op_eq (pe_ix ix_tup (pv 7) pe_int (fun _ _ => rfl)) (pe_ix ix_tup (pv 7) pe_int (fun _ _ => rfl)) (nomark _)) (pw_or1 (pt_cmpR op_lt (pe_callB (call_min2 rfl) (by rfl) T.n_min (by decide +kernel) (pa_cons (pe_ix ix_tup (pv 7) pe_int (fun _ _ => rfl)) (pa_cons (pe_ix ix_tup (pv 7) pe_int (fun _ _ => rfl)) pa_nil))) pe_int (nomark _))))) (pss_one (ps_ret pe_bl)) pss_nil)
    (pss_cons (ps_if (pt_cmpR op_gt (pe_callB (call_max2 rfl) (by rfl) T.n_max (by decide +kernel) (pa_cons (pe_ix ix_tup (pv 7) pe_int (fun _ _ => rfl)) (pa_cons (pe_ix ix_tup (pv 7) pe_int (fun _ _ => rfl)) pa_nil))) (pv 2) (nomark _)) (pss_one (ps_ret pe_bl)) pss_nil)
    (pss_cons (ps_set (i := 8) nd rfl (.inl rfl) (pe_op op_sub (pe_call (ok_law_choose T) (hr.mono (by decide)) (by rfl) T.g_law_choose T.k_law_choose T.b_law_choose .nil pass0 (pa_cons (pe_ix ix_tup (pv 7) pe_int (fun _ _ => rfl)) (pa_cons (pv 2) pa_nil))) (pe_call (ok_law_choose T) (hr.mono (by decide)) (by rfl) T.g_law_choose T.k_law_choose T.b_law_choose .nil pass0 (pa_cons (pe_ix ix_tup (pv 7) pe_int (fun _ _ => rfl)) (pa_cons (pv 2) pa_nil)))))
    (pss_one (ps_if (pt_cmpR op_ne (pe_call (ok_law_depth T) (hr.mono (by decide)) (by rfl) T.g_law_depth T.k_law_depth T.b_law_depth .nil pass0 (pa_cons (pv 1) (pa_cons (pv 8) pa_nil))) (pe_op op_sub (pe_call (ok_law_depth T) (hr.mono (by decide)) (by rfl) T.g_law_depth T.k_law_depth T.b_law_depth .nil pass0 (pa_cons (pv 1) (pa_cons (pe_op op_sub (pe_ix ix_tup (pv 7) pe_int (fun _ _ => rfl)) (pe_ix ix_tup (pv 7) pe_int (fun _ _ => rfl))) pa_nil))) (pv 6)) (nomark _)) (pss_one (ps_ret pe_bl)) pss_nil))))))) pss_nil)
    (pss_cons (ps_set (i := 9) nd rfl (.inl rfl) (pe_op op_pow pe_int pe_int))
    (Evl.pss_cut (ps_if (pt_val (pv 3)) (pss_one (ps_set (i := 9) nd rfl (.inl rfl) (pe_op op_pow pe_int pe_int))) pss_nil)
    (pss_cons (ps_for PassesOwn.never rfl (pi_range1 (by rfl) T.n_range (pa_cons pe_int pa_nil)) (pg_name (i := 4) nd rfl (Or.inl rfl)) (pss_cons (ps_set (i := 10) nd rfl (.inl rfl) (pe_op op_sub (pe_call (ok_law_draw T) (hr.mono (by decide)) (by rfl) T.g_law_draw T.k_law_draw T.b_law_draw .nil pass0 (pa_cons (pv 0) (pa_cons (pe_op op_add (pe_op op_mul pe_int (pv 9)) pe_int) (pa_cons (pe_op op_sub (pe_op op_add (pe_op op_add (pv 9) (pv 2)) (pe_op op_mul pe_int (pe_op op_mod (pv 4) pe_int))) pe_int) pa_nil)))) (pv 9)))
    (pss_cons (ps_set (i := 11) nd rfl (.inl rfl) (pe_meth (pv 5) T.cl_Mahler T.m_Mahler_value (ok_Mahler_value T) (hr.mono (by decide)) T.b_Mahler_value .nil pass0 (pa_cons (pv 10) pa_nil)))
    (pss_cons (ps_if (pt_not (pt_val (pe_call (ok_law_is T) (hr.mono (by decide)) (by rfl) T.g_law_is T.k_law_is T.b_law_is .nil pass0 (pa_cons (pv 11) (pa_cons (pe_call (ok_law_choose T) (hr.mono (by decide)) (by rfl) T.g_law_choose T.k_law_choose T.b_law_choose .nil pass0 (pa_cons (pv 10) (pa_cons (pv 2) pa_nil))) pa_nil))))) (pss_one (ps_ret pe_bl)) pss_nil)
    (Evl.pss_cut (ps_if (pt_cmpR op_ge (pv 10) (pv 2) (nomark _)) (pss_cons (ps_if (pt_not (pt_val (pe_call (ok_law_counted T) (hr.mono (by decide)) (by rfl) T.g_law_counted T.k_law_counted T.b_law_counted .nil pass0 (pa_cons (pv 1) (pa_cons (pv 10) (pa_cons (pv 2) pa_nil)))))) (pss_one (ps_ret pe_bl)) pss_nil)
    (pss_one (ps_if (pt_cmpR op_ne (pe_call (ok_law_depth T) (hr.mono (by decide)) (by rfl) T.g_law_depth T.k_law_depth T.b_law_depth .nil pass0 (pa_cons (pv 1) (pa_cons (pv 11) pa_nil))) (pe_call (ok_law_carried T) (hr.mono (by decide)) (by rfl) T.g_law_carried T.k_law_carried T.b_law_carried .nil pass0 (pa_cons (pv 1) (pa_cons (pv 2) (pa_cons (pe_op op_sub (pv 10) (pv 2)) pa_nil)))) (nomark _)) (pss_one (ps_ret pe_bl)) pss_nil))) pss_nil)
    (Evl.pss_cut (ps_if (pt_cmpR op_lt (pv 10) pe_int (nomark _)) (pss_cons (ps_if (pt_not (pt_val (pe_call (ok_law_counted T) (hr.mono (by decide)) (by rfl) T.g_law_counted T.k_law_counted T.b_law_counted .nil pass0 (pa_cons (pv 1) (pa_cons (pe_op op_sub (pe_op op_sub (pv 2) (pv 10)) pe_int) (pa_cons (pv 2) pa_nil)))))) (pss_one (ps_ret pe_bl)) pss_nil)
    (pss_one (ps_if (pt_cmpR op_ne (pe_call (ok_law_depth T) (hr.mono (by decide)) (by rfl) T.g_law_depth T.k_law_depth T.b_law_depth .nil pass0 (pa_cons (pv 1) (pa_cons (pv 11) pa_nil))) (pe_call (ok_law_carried T) (hr.mono (by decide)) (by rfl) T.g_law_carried T.k_law_carried T.b_law_carried .nil pass0 (pa_cons (pv 1) (pa_cons (pv 2) (pa_cons (pe_op op_sub (pe_un un_neg (pv 10)) pe_int) pa_nil)))) (nomark _)) (pss_one (ps_ret pe_bl)) pss_nil))) pss_nil)
    (pss_cons (ps_set (i := 12) nd rfl (.inl rfl) (pe_call (ok_law_power T) (hr.mono (by decide)) (by rfl) T.g_law_power T.k_law_power T.b_law_power .nil pass0 (pa_cons (pv 1) (pa_cons (pe_call (ok_law_draw T) (hr.mono (by decide)) (by rfl) T.g_law_draw T.k_law_draw T.b_law_draw .nil pass0 (pa_cons (pv 0) (pa_cons pe_int (pa_cons (pv 4) pa_nil)))) pa_nil))))
    (pss_cons (ps_set (i := 13) nd rfl (.inl rfl) (pe_op op_add (pv 10) (pe_op op_mul (pv 12) (pe_op op_add pe_int (pe_call (ok_law_draw T) (hr.mono (by decide)) (by rfl) T.g_law_draw T.k_law_draw T.b_law_draw .nil pass0 (pa_cons (pv 0) (pa_cons pe_int (pa_cons (pv 4) pa_nil))))))))
    (Evl.pss_cut (ps_if (pt_cmpR op_gt (pe_callB call_abs (by rfl) T.n_abs (by decide +kernel) (pa_cons (pv 13) pa_nil)) (pe_op op_pow pe_int pe_int) (nomark _)) (pss_one (ps_set (i := 13) nd rfl (.inl rfl) pe_int)) pss_nil)
    (pss_cons (ps_set (i := 8) nd rfl (.inl rfl) (pe_op op_sub (pe_meth (pv 5) T.cl_Mahler T.m_Mahler_value (ok_Mahler_value T) (hr.mono (by decide)) T.b_Mahler_value .nil pass0 (pa_cons (pv 13) pa_nil)) (pv 11)))
    (pss_one (ps_if (pt_cmpR op_lt (pe_call (ok_law_depth T) (hr.mono (by decide)) (by rfl) T.g_law_depth T.k_law_depth T.b_law_depth .nil pass0 (pa_cons (pv 1) (pa_cons (pe_op op_sub (pv 13) (pv 10)) pa_nil))) (pe_op op_pow pe_int pe_int) (nomark _)) (pss_one (ps_if (pt_cmpR op_lt (pe_call (ok_law_depth T) (hr.mono (by decide)) (by rfl) T.g_law_depth T.k_law_depth T.b_law_depth .nil pass0 (pa_cons (pv 1) (pa_cons (pv 8) pa_nil))) (pe_op op_sub (pe_call (ok_law_depth T) (hr.mono (by decide)) (by rfl) T.g_law_depth T.k_law_depth T.b_law_depth .nil pass0 (pa_cons (pv 1) (pa_cons (pe_op op_sub (pv 13) (pv 10)) pa_nil))) (pv 6)) (nomark _)) (pss_one (ps_ret pe_bl)) pss_nil)) pss_nil))))))))))))
    (pss_one (ps_ret pe_bl)))))))))), ?_⟩
  walk_at "rd"
  refine KR.lrngI i rfl (by omega) (KR.lwR (a := 0) (n := i) (fun _ => true) (fun _ => .int 0) (by omega) (fun _ => rfl) (fun _ _ _ _ _ => KR.etYes) ?_ ?_)
  · intro k H2 e2 _ hk _ H3 e3 Q' q'
    walk_at "rd"
    exact q' H3 (Evl.Ex.refl H3)
  intro b H0 hb e0 hv
  rw [Nat.sub_zero, KR.giv_all _ (fun _ => rfl)] at hv
  walk_at "rd"
  refine ⟨by show (1 : Nat) ≤ sizeLine; decide, fun c hc => ?_⟩
  refine ⟨b, c, _, _, rfl, rfl, Evl.Ex.new hc _ _ hv, upd_same, ?_, fun d hd => ?_⟩
  · rw [List.length_map, List.length_range]
    show i + 1 ≤ sizeLine
    rw [sizeLine_eq]
    omega
  rw [rowN_map]
  generalize hH1 : upd (upd H0 c _) d _ = H1
  have e1 : Evl.Ex H H1 := by rw [← hH1]; exact e0.trans ((Evl.Ex.new hc).trans (Evl.Ex.new hd))
  have l1 : H1 d = some (.lst (rowV i)) := by rw [← hH1]; exact upd_same
  clear hH1 hd hc hv e0
  walk_at "rd"
  intro g dx hg hdx hgd
  refine ⟨g, p, d, dx, i, rfl, hp, hi, upd_same, by rw [upd_ne (ne_of_none l1 hg), upd_ne (ne_of_none l1 hdx)]; exact l1, fun H2 k2 hG2 => ⟨rfl, ?_⟩⟩
  have e2 : Evl.Ex H H2 := fun y o hy => k2 y o (ne_of_none (e1 _ _ hy) hg) (by rw [upd_ne (ne_of_none (e1 _ _ hy) hg), upd_ne (ne_of_none (e1 _ _ hy) hdx)]; exact e1 _ _ hy)
  clear k2 l1 e1 hgd hg hdx
  walk_at "rd"
  refine ⟨p, i, rfl, h2, h9, hi, fun l hl1 hl2 => ?_⟩
  obtain ⟨gdx, gt, hg, hgt⟩ := id hG2
  refine KR.cut (Mid := fun σ' H' => ∃ w, σ' = [some (.ref a), some (.int p), some (.int i), some (.bl gr), none, some (.ref g), some (.int (l : Nat)), some w, none, none, none, none, none, none] ∧ Evl.Ex H2 H' ∧
    (i = 0 ∧ w = .non ∨ 0 < i ∧ ∃ (t : Addr) (x : Nat), w = .ref t ∧ H' t = some (.tup [.int x, .int i]) ∧ x < i ∧ vI p ((i : Int) - x) = l)) ?_ ?_
  · walk_at "rd"
    refine ⟨g, gdx, _, rfl, hg, rfl, ?_⟩
    walk_at "rd"
    refine ⟨g, p, i, rfl, hG2, h2, h9, hi, fun hi0 H3 e3 => ?_, fun hip l' x hl3 hl4 hx hv t H3 e3 ht => ?_⟩
    · exact ⟨.non, rfl, e3, .inl ⟨hi0, rfl⟩⟩
    · refine ⟨.ref t, rfl, e3, .inr ⟨hip, t, x, rfl, ht, hx, ?_⟩⟩
      rw [hv]
      exact lev_uniq h2 hl3 hl4 (hl1.resolve_left fun z => by omega) hl2
  rintro σ' H3 ⟨w, rfl, e3, hw⟩
  have hG3 := hG2.mono e3
  refine KR.cut (Mid := fun σ' H' => σ' = [some (.ref a), some (.int p), some (.int i), some (.bl gr), none, some (.ref g), some (.int (l : Nat)), some w, none, none, none, none, none, none] ∧ Evl.Ex H3 H') ?_ ?_
  · walk_at "rd"
    refine KR.iteD (fun c => ?_) (fun c => ?_)
    · have hi0 : i = 0 := by omega
      obtain ⟨_, rfl⟩ := hw.resolve_right (fun z => by omega)
      walk_at "rd"
      refine ⟨g, gdx, _, rfl, e3 _ _ hg, g, p, i, rfl, hG3, h2, h9, hi, fun _ H4 e4 => ?_, fun z => by omega⟩
      walk_at "rd"
      exact ⟨rfl, e4⟩
    · walk_at "rd"
      exact ⟨rfl, Evl.Ex.refl H3⟩
  rintro σ' H4 ⟨rfl, e4⟩
  have hG4 := hG3.mono e4
  refine KR.cut (Mid := fun σ' H' => (∃ z, σ' = [some (.ref a), some (.int p), some (.int i), some (.bl gr), none, some (.ref g), some (.int (l : Nat)), some w, z, none, none, none, none, none]) ∧ Evl.Ex H4 H') ?_ ?_
  · walk_at "rd"
    refine KR.iteD (fun c => ?_) (fun c => ?_)
    · have hip : 0 < i := by omega
      obtain ⟨_, t, x, rfl, ht, hx, hv⟩ := hw.resolve_left (fun z => by omega)
      have hpl : p ^ l ≤ i := hl1.resolve_left fun z => by omega
      have ht4 := e4 _ _ ht
      walk_at "rd"
      refine ⟨g, gdx, _, rfl, e4 _ _ (e3 _ _ hg), g, p, i, rfl, hG4, h2, h9, hi, fun z => by omega, fun _ l' hl3 hl4 H5 e5 => ?_⟩
      obtain rfl := lev_uniq h2 hl3 hl4 hpl hl2
      have ht5 := e5 _ _ ht4
      walk_at "rd"
      refine sIs rfl ?_
      walk_at "rd"
      refine KR.isi_tt ht5 ?_
      walk_at "rd"
      refine ⟨t, _, rfl, .inr (.inl (.inl ht5)), ?_⟩
      walk_at "rd"
      refine KR.iteND (fun z => absurd rfl z) (fun _ => ?_)
      walk_at "rd"
      have sT : SqT K H5 t [V.int x, V.int i] := .inl (.inl ht5)
      refine KR.ixT sT (v := .int x) rfl ?_
      walk_at "rd"
      refine ⟨x, rfl, ?_⟩
      walk_at "rd"
      refine KR.ixT sT (v := .int i) rfl ?_
      walk_at "rd"
      refine ⟨i, rfl, ?_⟩
      walk_at "rd"
      refine KR.ixT sT (v := .int x) rfl ?_
      walk_at "rd"
      refine KR.ixT sT (v := .int i) rfl ?_
      walk_at "rd"
      refine KR.iteDF (by omega) ?_
      walk_at "rd"
      refine KR.ixT sT (v := .int x) rfl ?_
      walk_at "rd"
      refine KR.ixT sT (v := .int i) rfl ?_
      walk_at "rd"
      rw [if_neg (show ¬ (i : Int) < x by omega)]
      refine KR.iteDF (by omega) ?_
      walk_at "rd"
      refine KR.ixT sT (v := .int x) rfl ?_
      walk_at "rd"
      refine KR.ixT sT (v := .int i) rfl ?_
      walk_at "rd"
      rw [if_pos (show (i : Int) > x by omega)]
      refine KR.iteDF (by omega) ?_
      walk_at "rd"
      refine KR.ixT sT (v := .int x) rfl ?_
      walk_at "rd"
      refine ⟨x, i, rfl, by omega, hi, ?_⟩
      walk_at "rd"
      refine KR.ixT sT (v := .int i) rfl ?_
      walk_at "rd"
      refine ⟨i, i, rfl, by omega, hi, ?_⟩
      rw [bz_small hx, bz_self]
      walk_at "rd"
      refine ⟨p, _, rfl, h2, h9, by show 1 < 2 ^ 100000; exact Nat.lt_of_lt_of_le (by decide : 1 < 2 ^ 1) (Nat.pow_le_pow_right (by decide) (by decide)), ?_⟩
      walk_at "rd"
      refine KR.ixT sT (v := .int x) rfl ?_
      walk_at "rd"
      refine KR.ixT sT (v := .int i) rfl ?_
      walk_at "rd"
      refine ⟨p, _, rfl, h2, h9, Nat.lt_of_lt_of_le (show ((x : Int) - i).natAbs < 2 ^ 5 by omega) (Nat.pow_le_pow_right (by decide) (by decide)), ?_⟩
      walk_at "rd"
      have e6 : dL p (0 - 1) = 0 := by
        show (if (0 - 1 : Int) = 0 then 10000 else vI p (0 - 1)) = 0
        rw [if_neg (by decide)]
        exact vI_one h2
      have e7 : dL p ((x : Int) - i) = l' := by
        rw [dL_of (by omega), ← hv]
        show vN p ((x : Int) - i).natAbs = vN p ((i : Int) - x).natAbs
        congr 1
        omega
      rw [e6, e7]
      refine KR.iteND (fun z => absurd (by omega) z) (fun _ => ?_)
      walk_at "rd"
      exact ⟨⟨_, rfl⟩, e5⟩
    · walk_at "rd"
      exact ⟨⟨none, rfl⟩, Evl.Ex.refl H4⟩
  rintro σ' H5 ⟨⟨z8, rfl⟩, e5⟩
  have hG5 := hG4.mono e5
  have ex5 : ExB a H H5 := ExB.of (((e2.trans e3).trans e4).trans e5)
  have hpool5 := hpool.ex (((e2.trans e3).trans e4).trans e5)
  clear hw e2 e3 e4 e5 hG2 hG3 hG4 hg hgt
  walk_at "rd"
  refine KR.cut (Mid := fun σ' H' => ∃ top : Int, (top = 1000000 ∨ top = 1000000000000) ∧ σ' = [some (.ref a), some (.int p), some (.int i), some (.bl gr), none, some (.ref g), some (.int (l : Nat)), some w, z8, some (.int top), none, none, none, none] ∧ H' = H5) ?_ ?_
  · cases gr with
    | true =>
      walk_at "rd"
      exact ⟨_, .inr rfl, rfl, rfl⟩
    | false =>
      walk_at "rd"
      exact ⟨_, .inl rfl, rfl, rfl⟩
  rintro σ' H6 ⟨top, htop, rfl, rfl⟩
  walk_at "rd"
  obtain ⟨J0, hJ⟩ : ∃ J0, ∀ m : Nat, (m : Int) ≤ M60 → m < p ^ J0 := ⟨200, fun m hm => lt200 h2 hm⟩
  have hprime := pr_nat hp
  refine KR.rngI 5 rfl (by decide) (KR.fwR (fun k σ' H' => ExB a H6 H' ∧ Pool H' a ∧ GObj A H' g p i ∧ ∃ z4 z8 z10 z11 z12 z13, σ' = [some (.ref a), some (.int p), some (.int i), some (.bl gr), z4, some (.ref g), some (.int (l : Nat)), some w, z8, some (.int top), z10, z11, z12, z13])
    ⟨ExB.refl _ _, hpool5, hG5, none, z8, none, none, none, none, rfl⟩ ?_ ?_)
  · rintro k σ' H7 hk ⟨ex7, hp7, hG7, z4, z8, z10, z11, z12, z13, rfl⟩
    walk_at "rd"
    have ht1 : 1000000 ≤ top := by omega
    have ht2 : top ≤ 1000000000000 := by omega
    refine ⟨a, _, _, rfl, hp7, by omega, log_ok (by omega) (Nat.lt_of_lt_of_le (show (2 * top + 1).natAbs < 2 ^ 50 by omega) (Nat.pow_le_pow_right (by decide) (by decide))), fun v H8 hv0 hv1 ex8 hp8 => ?_⟩
    have hG8 := hG7.exB hp7 ex8
    replace ex8 := ex7.trans ex8
    walk_at "rd"
    obtain ⟨n, hn⟩ : ∃ n, v - top = n := ⟨_, rfl⟩
    rw [hn]
    have hn1 : -1000000000000 ≤ n := by omega
    have hn2 : n ≤ 1000000000000 := by omega
    have hn3 : n.natAbs < 2 ^ 60 := by omega
    clear hn hv0 hv1
    obtain ⟨gdx, gt, hg, hgt⟩ := id hG8
    refine ⟨g, gdx, _, rfl, hg, rfl, ?_⟩
    walk_at "rd"
    refine ⟨g, n, p, i, rfl, hG8, hn1, hn2, hi, fun H9 e9 => ?_⟩
    have hG9 := hG8.mono e9
    have hp9 := hp8.ex e9
    have ex9 := ex8.trans (ExB.of e9)
    clear hG7 hG8 hg hgt hp8 ex8 ex7 e9
    walk_at "rd"
    refine ⟨n, i, rfl, hn3, hi, ?_⟩
    walk_at "rd"
    refine sIs rfl ?_
    walk_at "rd"
    have hbz := bz_bound hn3 hi
    have hbz2 : (bz n i).natAbs < 2 ^ 100000 := lt_big (Nat.lt_of_lt_of_le hbz (Nat.le_add_right _ _))
    refine KR.cut (Mid := fun σ' H' => σ' = [some (.ref a), some (.int p), some (.int i), some (.bl gr), some (.int (k : Nat)), some (.ref g), some (.int (l : Nat)), some w, z8, some (.int top), some (.int n), some (.int (bz n i)), z12, z13] ∧ Evl.Ex H9 H') ?_ ?_
    · walk_at "rd"
      refine KR.iteD (fun c => ?_) (fun c => ?_)
      · obtain ⟨N, rfl⟩ := Int.eq_ofNat_of_zero_le (show 0 ≤ n by omega)
        have hNi : i ≤ N := by omega
        walk_at "rd"
        refine ⟨p, N, i, rfl, hp, hNi, by show (N : Int) ≤ 1000000000000000000000000000000000000000000000000000000000000; omega, fun H10 e10 => ?_⟩
        walk_at "rd"
        refine ⟨p, _, rfl, h2, h9, hbz2, ?_⟩
        walk_at "rd"
        rw [show (N : Int) - (i : Int) = ((N - i : Nat) : Int) by omega]
        have hN60 : ((i + (N - i) : Nat) : Int) ≤ M60 := by show ((i + (N - i) : Nat) : Int) ≤ 1000000000000000000000000000000000000000000000000000000000000; omega
        refine sLC hJ hp hN60 ?_
        have hpos := bz_pos hNi
        have ek : dL p (bz (N : Int) i) = C p J0 i (N - i) 0 := by
          rw [dL_of (by omega)]
          exact kummer hprime hNi (hJ N (by show (N : Int) ≤ 1000000000000000000000000000000000000000000000000000000000000; omega))
        rw [ek]
        walk_at "rd"
        refine KR.iteND (fun z => absurd rfl z) (fun _ => ?_)
        walk_at "rd"
        exact ⟨rfl, e10⟩
      · walk_at "rd"
        exact ⟨rfl, Evl.Ex.refl _⟩
    rintro σ' H10 ⟨rfl, e10⟩
    refine KR.cut (Mid := fun σ' H' => σ' = [some (.ref a), some (.int p), some (.int i), some (.bl gr), some (.int (k : Nat)), some (.ref g), some (.int (l : Nat)), some w, z8, some (.int top), some (.int n), some (.int (bz n i)), z12, z13] ∧ Evl.Ex H9 H') ?_ ?_
    · walk_at "rd"
      refine KR.iteD (fun c => ?_) (fun c => ?_)
      · obtain ⟨M, hM⟩ := Int.eq_ofNat_of_zero_le (show 0 ≤ -n - 1 by omega)
        have eM : (i : Int) - n - 1 = ((i + M : Nat) : Int) := by omega
        walk_at "rd"
        rw [eM]
        have h60 : ((i + M : Nat) : Int) ≤ M60 := by show ((i + M : Nat) : Int) ≤ 1000000000000000000000000000000000000000000000000000000000000; omega
        refine ⟨p, i + M, i, rfl, hp, Nat.le_add_right _ _, h60, fun H11 e11 => ?_⟩
        walk_at "rd"
        refine ⟨p, _, rfl, h2, h9, hbz2, ?_⟩
        walk_at "rd"
        rw [hM]
        refine sLC hJ hp h60 ?_
        have hpos := bz_pos (show i ≤ i + M by omega)
        have hr1 := bz_refl n i
        rw [eM] at hr1
        have hr2 : (bz n i).natAbs = (bz ((i + M : Nat) : Int) i).natAbs := by rw [hr1, natAbs_sign]
        have ek : dL p (bz n i) = C p J0 i M 0 := by
          rw [dL_of (by omega)]
          show vN p (bz n i).natAbs = _
          rw [hr2, kummer hprime (Nat.le_add_right i M) (hJ _ h60), Nat.add_sub_cancel_left]
        rw [ek]
        walk_at "rd"
        refine KR.iteND (fun z => absurd rfl z) (fun _ => ?_)
        walk_at "rd"
        exact ⟨rfl, e10.trans e11⟩
      · walk_at "rd"
        exact ⟨rfl, e10⟩
    rintro σ' H11 ⟨rfl, e11⟩
    have hG11 := hG9.mono e11
    have hp11 := hp9.ex e11
    have ex11 := ex9.trans (ExB.of e11)
    clear hG9 hp9 ex9 e10 e11
    walk_at "rd"
    refine ⟨a, _, _, rfl, hp11, by decide, by decide, fun u H12 hu0 hu1 ex12 hp12 => ?_⟩
    have hG12 := hG11.exB hp11 ex12
    replace ex12 := ex11.trans ex12
    obtain ⟨u, rfl⟩ := Int.eq_ofNat_of_zero_le hu0
    walk_at "rd"
    refine ⟨p, u, rfl, by omega, by omega, ?_⟩
    generalize p ^ u = step
    walk_at "rd"
    refine ⟨a, _, _, rfl, hp12, by decide, by decide, fun y H13 hy0 hy1 ex13 hp13 => ?_⟩
    have hG13 := hG12.exB hp12 ex13
    replace ex13 := ex12.trans ex13
    walk_at "rd"
    generalize n + (step : Int) * (1 + y) = near0
    refine KR.cut (Mid := fun σ' H' => ∃ near : Int, near.natAbs ≤ 1000000000000 ∧ σ' = [some (.ref a), some (.int p), some (.int i), some (.bl gr), some (.int (k : Nat)), some (.ref g), some (.int (l : Nat)), some w, z8, some (.int top), some (.int n), some (.int (bz n i)), some (.int step), some (.int near)] ∧ H' = H13) ?_ ?_
    · walk_at "rd"
      refine KR.iteD (fun c => ?_) (fun c => ?_)
      · walk_at "rd"
        exact ⟨0, by decide, rfl, rfl⟩
      · walk_at "rd"
        rw [show (10 : Int) ^ Int.toNat 12 = 1000000000000 from by decide] at c
        exact ⟨near0, by split at c <;> omega, rfl, rfl⟩
    rintro σ' H14 ⟨near, hnear, rfl, rfl⟩
    have hnear3 : near.natAbs < 2 ^ 60 := by omega
    have hbn := bz_bound hnear3 hi
    obtain ⟨gdx, gt, hg, hgt⟩ := id hG13
    walk_at "rd"
    refine ⟨g, gdx, _, rfl, hg, rfl, ?_⟩
    walk_at "rd"
    refine ⟨g, near, p, i, rfl, hG13, by omega, by omega, hi, fun H15 e15 => ?_⟩
    have hG15 := hG13.mono e15
    have hp15 := hp13.ex e15
    have ex15 := ex13.trans (ExB.of e15)
    walk_at "rd"
    have hd1 : (near - n).natAbs < 2 ^ 100000 := Nat.lt_of_lt_of_le (show (near - n).natAbs < 2 ^ 60 by omega) (Nat.pow_le_pow_right (by decide) (by decide))
    have hd2 : (bz near i - bz n i).natAbs < 2 ^ 100000 := lt_big (Nat.lt_of_le_of_lt (show _ ≤ (bz near i).natAbs + (bz n i).natAbs by omega) (Nat.add_lt_add hbn hbz))
    refine ⟨p, _, rfl, h2, h9, hd1, ?_⟩
    walk_at "rd"
    refine KR.iteD (fun c => ?_) (fun c => ?_)
    · walk_at "rd"
      refine ⟨p, _, rfl, h2, h9, hd2, ?_⟩
      walk_at "rd"
      refine ⟨p, _, rfl, h2, h9, hd1, ?_⟩
      walk_at "rd"
      rw [show (10 : Int) ^ Int.toNat 4 = 10000 from by decide] at c
      have hne : near ≠ n := fun z => by
        rw [z, Int.sub_self] at c
        have : ((10000 : Nat) : Int) < 10000 := c
        omega
      have key : ¬ ((dL p (bz near i - bz n i) : Nat) : Int) < (dL p (near - n) : Nat) - (l : Nat) := by
        by_cases z : bz near i - bz n i = 0
        · rw [z]
          show ¬ ((10000 : Nat) : Int) < _
          omega
        · rw [dL_of z, dL_of (by omega)]
          have := lipschitz hprime hl2 n near hne z
          omega
      refine KR.iteDF key ?_
      walk_at "rd"
      exact ⟨ex15, hp15, hG15, _, _, _, _, _, _, rfl⟩
    · walk_at "rd"
      exact ⟨ex15, hp15, hG15, _, _, _, _, _, _, rfl⟩
  · rintro σ' H7 ⟨ex7, hp7, hG7, z4, z8, z10, z11, z12, z13, rfl⟩
    walk_at "rd"
    exact q H7 (ex5.trans ex7) hp7
end
end K7
namespace K7
open PySem PySem.Spec PyProof.Rows L2
local macro_rules | `(tactic| walk_at "rc") => `(tactic| first
  | assumption
  | (show (0 : Int) < _; omega)
  | (show (0 : Int) < _ ∧ _ < (1073741824 : Int); exact ⟨by omega, by omega⟩)
  | (show (-(2 ^ 64 : Int) < _ ∧ _ < (2 ^ 64 : Int)) ∨ _; exact .inl ⟨by omega, by omega⟩)
  | (show _ ∨ (-(2 ^ 64 : Int) < _ ∧ _ < (2 ^ 64 : Int)); exact .inr ⟨by omega, by omega⟩)
  | (show (0 : Int) ≤ _ ∧ _ ≤ (1000000 : Int) ∧ _ < 2 ^ 64; exact ⟨by decide, by decide, by decide⟩))
local macro_rules | `(tactic| walk_at "rd") => `(tactic| repeat (first
  | with_reducible apply KR.seq
  | with_reducible apply KR.asg
  | with_reducible apply KR.drop
  | with_reducible apply KR.ret
  | with_reducible apply KR.retN
  | with_reducible apply KR.next
  | with_reducible apply KR.ifs
  | with_reducible refine KR.var rfl ?_
  | with_reducible refine L2.iteT ?_
  | with_reducible refine L2.iteF ?_
  | with_reducible refine KR.iteNF ?_
  | with_reducible refine KR.iteNT ?_
  | with_reducible apply KR.con
  | with_reducible apply KR.op
  | with_reducible apply KR.opI0
  | ((with_reducible refine KR.opI ?rc ?_); (case rc => walk_at "rc"))
  | with_reducible apply KR.un
  | with_reducible apply KR.unI
  | with_reducible apply KR.eqI
  | with_reducible apply KR.neI
  | with_reducible apply KR.test
  | with_reducible apply KR.tb'
  | with_reducible apply KR.exbl
  | with_reducible apply KR.and'
  | with_reducible apply KR.or'
  | with_reducible apply KR.not'
  | with_reducible apply KR.chain
  | with_reducible apply KR.call
  | with_reducible apply KR.callS
  | with_reducible apply KR.make
  | with_reducible apply KR.bm
  | with_reducible apply KR.errF
  | with_reducible apply KR.cons
  | with_reducible apply KR.nil
  | with_reducible apply KR.cb
  | with_reducible apply KR.cInt1
  | with_reducible apply KR.cI1
  | with_reducible apply KR.cI2
  | with_reducible apply KR.isi_ii
  | with_reducible apply KR.isi_ib
  | with_reducible apply KR.bits
  | with_reducible apply KR.exint
  | with_reducible apply KR.ifx
  | with_reducible refine KR.aug rfl ?_
  | with_reducible apply KR.ipI
  | with_reducible apply KR.for'
  | with_reducible apply KR.rng1
  | with_reducible apply KR.rng2
  | with_reducible apply KR.ilist
  | with_reducible apply KR.itup
  | with_reducible apply KR.tup
  | with_reducible apply KR.lst
  | with_reducible apply KR.andV
  | with_reducible apply KR.orV
  | with_reducible apply KR.notV
  | with_reducible apply KR.asgG
  | with_reducible apply KR.sub
  | with_reducible apply KR.fld
  | with_reducible apply KR.prop
  | with_reducible apply KR.meth
  | with_reducible apply KR.par
  | with_reducible apply KR.parN
  | with_reducible apply KR.raise1
  | with_reducible apply KR.raise0
  | with_reducible apply KR.exv
  | with_reducible apply KR.lc
  | with_reducible apply KR.ienT
  | with_reducible apply KR.sfld
  | with_reducible apply KR.sl
  | with_reducible apply KR.part
  | with_reducible apply KR.nopart
  | with_reducible apply KR.isNo
  | with_reducible refine KR.nnT ?_
  | with_reducible refine KR.niF ?_
  | with_reducible refine KR.nrF ?_
  | with_reducible refine KR.mnT ?_
  | with_reducible refine KR.miF ?_
  | with_reducible refine KR.mrF ?_))
theorem eqv_same (tg : Str) (v : Int) : PyData.eqv (.tuple [.str tg, .int v]) (.tuple [.str tg, .int v]) = true := by
  simp [PyData.eqv, PyData.eqvAll]
theorem shaped_pair (tg : Str) (v : Int) (h : PyData.strOk tg = true := by decide +kernel) : SeqAt.shaped (.tuple [.str tg, .int v]) = true := by
  simp [SeqAt.shaped, PyData.canLay0, PyData.canLayAll0, PyData.depth, PyData.depthAll, h]
theorem ask_new {H Ht : Hp} {c u : Addr} {o : HO} {k : Nat} (hc : H c = some (.lst ((List.replicate k true).map V.bl))) (et : Evl.Ex H Ht) (hu : Ht u = none) :
    ExB c H (upd (upd Ht u o) c (.lst ((List.replicate k true).map V.bl ++ [V.bl true]))) ∧ (upd (upd Ht u o) c (.lst ((List.replicate k true).map V.bl ++ [V.bl true]))) c = some (.lst ((List.replicate (k + 1) true).map V.bl)) := by
  refine ⟨fun b o' n e => ?_, ?_⟩
  · rw [upd_ne n]
    exact Evl.Ex.new hu _ _ (et _ _ e)
  · rw [upd_same, List.replicate_succ', List.map_append]
    rfl
theorem odd_ok {p : Nat} (hp : (p : Int) ∈ primesL) : ∀ x ∈ ([0, 1, 4, 9, 91, 99, 100, 101, -2, -(p : Int), (p : Int) * p, 10 ^ Int.toNat 20] : List Int), x ∉ primesL := by
  have h : ∀ y ∈ primesL, -y ∉ primesL ∧ y * y ∉ primesL := by decide
  have h1 := h _ hp
  intro x hx
  simp only [List.mem_cons, List.not_mem_nil, or_false] at hx
  rcases hx with rfl | rfl | rfl | rfl | rfl | rfl | rfl | rfl | rfl | rfl | rfl | rfl
  any_goals decide
  · exact h1.1
  · exact h1.2
section
variable {P : Program} {w : World} {K : PySem.W.Frag} {mg : Str → Option Value} {base : Heap} {A : Ad}
def sp_law_refused : Sp := fun vs H Q _ => ∃ (a : Addr) (p : Nat), vs = [.ref a, .int p] ∧ Pool H a ∧ (p : Int) ∈ primesL ∧
  ∀ H2, ExB a H H2 → Pool H2 a → Q (.bl true) H2
theorem ok_law_refused (T : Txt P K mg A) : FnOk P w K mg base CX0 5 A.a_law_refused A.d_law_refused ["pool", "p"] sp_law_refused := by
  refine T.F_law_refused.ok sc_law_refused (fun vs H Q E h => ?_) (fun cdv Ar outer s H vs Q E hr h => ?_)
  · obtain ⟨_, _, rfl, _⟩ := h; rfl
  have nd := sc_law_refused.nd
  obtain ⟨a, p, rfl, hpool, hp, q⟩ := h
  obtain ⟨h2, h9⟩ := two_of hp
  refine ⟨_, (pss_cons (ps_set (i := 2) nd rfl (.inl rfl) (pe_op op_add pe_int (pe_call (ok_law_draw T) (hr.mono (by decide)) (by rfl) T.g_law_draw T.k_law_draw T.b_law_draw .nil pass0 (pa_cons (pv 0) (pa_cons (pe_op op_pow pe_int pe_int) (pa_cons pe_int pa_nil))))))
    (pss_cons (ps_set (i := 3) nd rfl (.inl rfl) (pe_lst (pa_cons pe_int (pa_cons pe_int (pa_cons pe_int (pa_cons pe_int (pa_cons pe_int (pa_cons pe_int (pa_cons pe_int (pa_cons pe_int (pa_cons (pe_un un_neg pe_int) (pa_cons (pe_un un_neg (pv 1)) (pa_cons (pe_op op_mul (pv 1) (pv 1)) (pa_cons (pe_op op_pow pe_int pe_int) pa_nil))))))))))))))
    (pss_cons (ps_set (i := 3) nd rfl (.inl rfl) (pe_ix ix_list (pv 3) (pe_call (ok_law_draw T) (hr.mono (by decide)) (by rfl) T.g_law_draw T.k_law_draw T.b_law_draw .nil pass0 (pa_cons (pv 0) (pa_cons pe_int (pa_cons pe_int pa_nil)))) (fun _ _ => rfl)))
    (pss_cons (ps_set (i := 4) nd rfl (.inl rfl) (pe_op op_add (pe_op op_pow pe_int pe_int) (pv 2)))
    (Evl.pss_cut (ps_if (pt_cmpR op_eq (pe_call (ok_law_draw T) (hr.mono (by decide)) (by rfl) T.g_law_draw T.k_law_draw T.b_law_draw .nil pass0 (pa_cons (pv 0) (pa_cons pe_int (pa_cons pe_int pa_nil)))) pe_int (nomark _)) (pss_one (ps_set (i := 4) nd rfl (.inl rfl) (pe_un un_neg (pv 2)))) pss_nil)
    (pss_cons (ps_set (i := 5) nd rfl (.inl rfl) (pe_call (ok_law_draw T) (hr.mono (by decide)) (by rfl) T.g_law_draw T.k_law_draw T.b_law_draw .nil pass0 (pa_cons (pv 0) (pa_cons pe_int (pa_cons pe_int pa_nil)))))
    (pss_cons (ps_set (i := 6) nd rfl (.inl rfl) (pe_lst pa_nil))
    (pss_cons (ps_for PassesOwn.never rfl (pi_list (pe_lst (pa_cons pe_str (pa_cons pe_str (pa_cons pe_str (pa_cons pe_str pa_nil)))))) (pg_name (i := 7) nd rfl (Or.inl rfl)) (pss_cons (ps_expr (pe_bm PySem.F.plainAttrs_list PySem.F.slot_list_append PySem.F.type_list_append mt_append (pv 6) (pa_cons (pe_cmpR (op_eqD hr.units) (pe_call (ok_law_call T) (hr.mono (by decide)) (by rfl) T.g_law_call T.k_law_call T.b_law_call .nil pass0 (pa_cons (pv 7) (pa_cons (pv 3) (pa_cons (pv 4) (pa_cons (pv 4) pa_nil))))) (pe_tup (pa_cons pe_str (pa_cons (pv 3) pa_nil))) (nomark _)) pa_nil)))
    (pss_one (ps_expr (pe_bm PySem.F.plainAttrs_list PySem.F.slot_list_append PySem.F.type_list_append mt_append (pv 6) (pa_cons (pe_cmpR (op_eqD hr.units) (pe_call (ok_law_call T) (hr.mono (by decide)) (by rfl) T.g_law_call T.k_law_call T.b_law_call .nil pass0 (pa_cons (pv 7) (pa_cons (pv 1) (pa_cons (pv 4) (pa_cons (pe_un un_neg pe_int) pa_nil))))) (pe_tup (pa_cons pe_str (pa_cons (pv 4) pa_nil))) (nomark _)) pa_nil))))))
    (pss_cons (ps_expr (pe_bm PySem.F.plainAttrs_list PySem.F.slot_list_append PySem.F.type_list_append mt_append (pv 6) (pa_cons (pe_cmpR (op_eqD hr.units) (pe_call (ok_law_call T) (hr.mono (by decide)) (by rfl) T.g_law_call T.k_law_call T.b_law_call .nil pass0 (pa_cons pe_str (pa_cons (pv 1) (pa_cons (pv 5) (pa_cons (pv 4) pa_nil))))) (pe_tup (pa_cons pe_str (pa_cons (pv 4) pa_nil))) (nomark _)) pa_nil)))
    (pss_cons (ps_expr (pe_bm PySem.F.plainAttrs_list PySem.F.slot_list_append PySem.F.type_list_append mt_append (pv 6) (pa_cons (pe_cmpR (op_eqD hr.units) (pe_call (ok_law_call T) (hr.mono (by decide)) (by rfl) T.g_law_call T.k_law_call T.b_law_call .nil pass0 (pa_cons pe_str (pa_cons (pv 1) (pa_cons (pv 5) (pa_cons (pv 4) pa_nil))))) (pe_tup (pa_cons pe_str (pa_cons (pv 4) pa_nil))) (nomark _)) pa_nil)))
    (pss_cons (ps_set (i := 8) nd rfl (.inl rfl) (pe_op op_add (pv 5) (pv 2)))
    (pss_cons (ps_expr (pe_bm PySem.F.plainAttrs_list PySem.F.slot_list_append PySem.F.type_list_append mt_append (pv 6) (pa_cons (pe_cmpR (op_eqD hr.units) (pe_call (ok_law_call T) (hr.mono (by decide)) (by rfl) T.g_law_call T.k_law_call T.b_law_call .nil pass0 (pa_cons pe_str (pa_cons (pv 1) (pa_cons (pv 5) (pa_cons (pv 8) pa_nil))))) (pe_tup (pa_cons pe_str (pa_cons (pv 8) pa_nil))) (nomark _)) pa_nil)))
    (pss_cons (ps_expr (pe_bm PySem.F.plainAttrs_list PySem.F.slot_list_append PySem.F.type_list_append mt_append (pv 6) (pa_cons (pe_cmpR (op_eqD hr.units) (pe_call (ok_law_call T) (hr.mono (by decide)) (by rfl) T.g_law_call T.k_law_call T.b_law_call .nil pass0 (pa_cons pe_str (pa_cons (pv 1) (pa_cons (pv 5) (pa_cons (pv 5) pa_nil))))) (pe_tup (pa_cons pe_str (pa_cons pe_int pa_nil))) (nomark _)) pa_nil)))
    (pss_cons (ps_expr (pe_bm PySem.F.plainAttrs_list PySem.F.slot_list_append PySem.F.type_list_append mt_append (pv 6) (pa_cons (pe_cmpR (op_eqD hr.units) (pe_call (ok_law_call T) (hr.mono (by decide)) (by rfl) T.g_law_call T.k_law_call T.b_law_call .nil pass0 (pa_cons pe_str (pa_cons (pv 1) (pa_cons (pe_op op_pow pe_int pe_int) (pa_cons (pe_op op_pow pe_int pe_int) pa_nil))))) (pe_tup (pa_cons pe_str (pa_cons pe_int pa_nil))) (nomark _)) pa_nil)))
    (pss_cons (ps_expr (pe_bm PySem.F.plainAttrs_list PySem.F.slot_list_append PySem.F.type_list_append mt_append (pv 6) (pa_cons (pe_cmpR (op_eqD hr.units) (pe_call (ok_law_call T) (hr.mono (by decide)) (by rfl) T.g_law_call T.k_law_call T.b_law_call .nil pass0 (pa_cons pe_str (pa_cons (pv 1) (pa_cons pe_int (pa_cons (pe_op op_pow pe_int pe_int) pa_nil))))) (pe_tup (pa_cons pe_str (pa_cons (pe_op op_pow pe_int pe_int) pa_nil))) (nomark _)) pa_nil)))
    (pss_one (ps_ret (pe_callB (cr_all rfl) (by rfl) T.n_all (by decide +kernel) (pa_cons (pv 6) pa_nil))))))))))))))))))), ?_⟩
  walk_at "rd"
  refine ⟨a, _, _, rfl, hpool, by decide, by decide, fun m0 H1 hm0 hm1 ex1 hp1 => ?_⟩
  walk_at "rd"
  obtain ⟨m, hm⟩ : ∃ m, 1 + m0 = m := ⟨_, rfl⟩
  rw [hm]
  have hmpos : 1 ≤ m := by omega
  have hmlt : m ≤ 1000000 := by
    have e : (10 : Int) ^ Int.toNat 6 = 1000000 := by decide
    omega
  clear hm hm0 hm1
  refine ⟨by show (12 : Nat) ≤ sizeLine; decide, fun o1 ho1 => ?_⟩
  generalize hG : upd H1 o1 _ = H2
  have lo : H2 o1 = some (.lst (([0, 1, 4, 9, 91, 99, 100, 101, -2, -(p : Int), (p : Int) * p, 10 ^ Int.toNat 20] : List Int).map V.int)) := by rw [← hG]; exact upd_same
  have ex2 : Evl.Ex H1 H2 := by rw [← hG]; exact Evl.Ex.new ho1
  have hlen : ([0, 1, 4, 9, 91, 99, 100, 101, -2, -(p : Int), (p : Int) * p, 10 ^ Int.toNat 20] : List Int).length = 12 := rfl
  have hodd := odd_ok hp
  generalize ([0, 1, 4, 9, 91, 99, 100, 101, -2, -(p : Int), (p : Int) * p, 10 ^ Int.toNat 20] : List Int) = Lo at lo hlen hodd
  have hp2 := hp1.ex ex2
  have hne : o1 ≠ a := by
    obtain ⟨cs, _, ha⟩ := hp1
    intro z
    rw [z, ha] at ho1
    cases ho1
  clear hG ho1
  walk_at "rd"
  refine ⟨a, _, _, rfl, hp2, by decide, by decide, fun v H3 hv0 hv1 ex3 hp3 => ?_⟩
  obtain ⟨j, rfl⟩ := Int.eq_ofNat_of_zero_le hv0
  have hj : j < Lo.length := by omega
  refine KR.ixL (.inl (.inl (ex3 _ _ hne lo))) (atI_nat (j := j) (v := V.int Lo[j]) (by rw [List.getElem?_map, List.getElem?_eq_getElem hj]; rfl)) ?_
  have hbad : Lo[j] ∉ primesL := hodd _ (List.getElem_mem hj)
  generalize Lo[j] = odd at hbad
  replace ex3 := ex1.trans ((ExB.of ex2).trans ex3)
  clear lo hlen hodd hj hv1 hv0 hne ex1 ex2 hp1 hp2
  walk_at "rd"
  refine KR.cut (Mid := fun σ' H' => ∃ far, ¬ okM far ∧ σ' = [some (.ref a), some (.int p), some (.int m), some (.int odd), some (.int far), none, none, none, none] ∧ ExB a H3 H' ∧ Pool H' a) ?_ ?_
  · walk_at "rd"
    refine ⟨a, _, _, rfl, hp3, by decide, by decide, fun v H4 hv0 hv1 ex4 hp4 => ?_⟩
    walk_at "rd"
    refine KR.iteD (fun _ => ?_) (fun _ => ?_)
    · walk_at "rd"
      exact ⟨-m, fun z => by have := z.1; omega, rfl, ex4, hp4⟩
    · walk_at "rd"
      refine ⟨10 ^ Int.toNat 60 + m, fun z => ?_, rfl, ex4, hp4⟩
      have h1 : 10 ^ Int.toNat 60 + m ≤ M60 := z.2
      have h2 : (10 : Int) ^ Int.toNat 60 = M60 := by decide
      omega
  rintro σ' H4 ⟨far, hfar, rfl, ex4, hp4⟩
  walk_at "rd"
  refine ⟨a, _, _, rfl, hp4, by decide, by decide, fun least H5 hl0 hl1 ex5 hp5 => ?_⟩
  replace ex5 := ex3.trans (ex4.trans ex5)
  clear ex3 ex4 hp3 hp4
  walk_at "rd"
  refine ⟨Nat.zero_le _, fun c hc => ?_⟩
  walk_at "rd"
  refine ⟨by show (4 : Nat) ≤ sizeLine; decide, fun b hb => ?_⟩
  have hca : c ≠ a := by
    obtain ⟨cs, _, ha⟩ := hp5
    intro z
    rw [z, ha] at hc
    cases hc
  have hcb : b ≠ c := fun z => by rw [z, upd_same] at hb; cases hb
  generalize hG : upd (upd H5 c _) b _ = H6
  have ex6 : Evl.Ex H5 H6 := by rw [← hG]; exact (Evl.Ex.new hc).trans (Evl.Ex.new hb)
  have lc : H6 c = some (.lst ((List.replicate 0 true).map V.bl)) := by rw [← hG, upd_ne hcb.symm, upd_same]; rfl
  have lb : H6 b = some (.lst (([("choose" : Str), "carries", "sum", "factorial"] : List Str).map V.str)) := by rw [← hG]; exact upd_same
  have hwords : ∀ x ∈ ([("choose" : Str), "carries", "sum", "factorial"] : List Str), x = "choose" ∨ x = "carries" ∨ x = "sum" ∨ x = "factorial" := by
    intro x hx
    simpa using hx
  have hwl : ([("choose" : Str), "carries", "sum", "factorial"] : List Str).length = 4 := rfl
  generalize ([("choose" : Str), "carries", "sum", "factorial"] : List Str) = words at lb hwords hwl
  clear hG hb
  have hfin : ∀ H', ExB c H6 H' → ExB a H H' ∧ Pool H' a := fun H' e => by
    obtain ⟨cs, hcs, ha⟩ := hp5.ex ex6
    exact ⟨fun y o hy ho => e y o (fun z => by
      have := ex5 y o hy ho
      rw [z, hc] at this
      cases this) (ex6 _ _ (ex5 y o hy ho)), cs, hcs, e _ _ hca.symm ha⟩
  refine ⟨b, rfl, ⟨_, .inl (.inl lb)⟩, KR.fwL (xs := words.map V.str) (fun i σ' H' => ExB c H6 H' ∧ (∃ k, k ≤ 2 * i ∧ H' c = some (.lst ((List.replicate k true).map V.bl))) ∧ ∃ z, σ' = [some (.ref a), some (.int p), some (.int m), some (.int odd), some (.int far), some (.int least), some (.ref c), z, none]) ⟨ExB.refl _ _, ⟨0, by omega, lc⟩, none, rfl⟩ ?_ ?_ ?_⟩
  · rintro i σ' H' _ ⟨e, _⟩
    exact .inl (.inl (e _ _ hcb lb))
  · rintro i x σ' H7 hx ⟨e7, ⟨k, hk, hc7⟩, z, rfl⟩
    have hi : i < 4 := by
      have := (List.getElem?_eq_some_iff.mp hx).1
      rw [List.length_map] at this
      omega
    rw [List.getElem?_map] at hx
    obtain ⟨w, hw, rfl⟩ := Option.map_eq_some_iff.mp hx
    have hww := hwords w (List.mem_of_getElem? hw)
    walk_at "rd"
    refine ⟨.inl ⟨rfl, _, .inl (.inl hc7)⟩, ?_⟩
    walk_at "rd"
    refine ⟨w, odd, far, far, "prime", odd, rfl, .badp hww hbad, fun t1 Ht1 et1 ht1 => ?_⟩
    walk_at "rd"
    refine ⟨by show (2 : Nat) ≤ sizeLine; decide, fun u1 hu1 => ?_⟩
    refine ⟨.tuple [.str "prime", .int (odd)], .tuple [.str "prime", .int (odd)], .tup (.inl (.inl (Evl.Ex.new hu1 _ _ ht1))) (.cons (.str _) (.cons (.int _) .nil)), .tup (.inl (.inl upd_same)) (.cons (.str _) (.cons (.int _) .nil)), shaped_pair _ _, shaped_pair _ _, ?_⟩
    rw [eqv_same]
    walk_at "rd"
    refine ⟨c, _, _, rfl, rfl, Evl.Ex.new hu1 _ _ (et1 _ _ hc7), by rw [List.length_map, List.length_replicate, sizeLine_eq]; omega, ?_⟩
    obtain ⟨eb1, nc1⟩ := ask_new (o := .tup [.str "prime", .int (odd)]) hc7 et1 hu1
    generalize upd (upd Ht1 u1 _) c _ = N1 at eb1 nc1 ⊢
    walk_at "rd"
    refine ⟨.inl ⟨rfl, _, .inl (.inl nc1)⟩, ?_⟩
    walk_at "rd"
    refine ⟨w, p, far, _, "range", far, rfl, .badf hww hp hfar, fun t2 Ht2 et2 ht2 => ?_⟩
    walk_at "rd"
    refine ⟨by show (2 : Nat) ≤ sizeLine; decide, fun u2 hu2 => ?_⟩
    refine ⟨.tuple [.str "range", .int (far)], .tuple [.str "range", .int (far)], .tup (.inl (.inl (Evl.Ex.new hu2 _ _ ht2))) (.cons (.str _) (.cons (.int _) .nil)), .tup (.inl (.inl upd_same)) (.cons (.str _) (.cons (.int _) .nil)), shaped_pair _ _, shaped_pair _ _, ?_⟩
    rw [eqv_same]
    walk_at "rd"
    refine ⟨c, _, _, rfl, rfl, Evl.Ex.new hu2 _ _ (et2 _ _ nc1), by rw [List.length_map, List.length_replicate, sizeLine_eq]; omega, ?_⟩
    obtain ⟨eb2, nc2⟩ := ask_new (o := .tup [.str "range", .int (far)]) nc1 et2 hu2
    generalize upd (upd Ht2 u2 _) c _ = N2 at eb2 nc2 ⊢
    walk_at "rd"
    exact ⟨e7.trans (eb1.trans eb2), ⟨k + 1 + 1, by omega, nc2⟩, _, rfl⟩
  · rintro σ' H7 ⟨e7, ⟨k, hk, hc7⟩, z, rfl⟩
    have hk8 : k ≤ 8 := by rw [List.length_map, hwl] at hk; exact hk
    have okl : okM least := ⟨hl0, by show least ≤ 1000000000000000000000000000000000000000000000000000000000000; omega⟩
    have ok6 : okM (10 ^ Int.toNat 60) := ⟨by decide, by decide⟩
    have ok0 : okM 0 := ⟨by decide, by decide⟩
    walk_at "rd"
    refine ⟨.inl ⟨rfl, _, .inl (.inl hc7)⟩, ?_⟩
    walk_at "rd"
    refine ⟨"choose", p, least, far, "range", far, rfl, .bads (.inl rfl) hp okl hfar, fun t1 Ht1 et1 ht1 => ?_⟩
    walk_at "rd"
    refine ⟨by show (2 : Nat) ≤ sizeLine; decide, fun u1 hu1 => ?_⟩
    refine ⟨.tuple [.str "range", .int (far)], .tuple [.str "range", .int (far)], .tup (.inl (.inl (Evl.Ex.new hu1 _ _ ht1))) (.cons (.str _) (.cons (.int _) .nil)), .tup (.inl (.inl upd_same)) (.cons (.str _) (.cons (.int _) .nil)), shaped_pair _ _, shaped_pair _ _, ?_⟩
    rw [eqv_same]
    walk_at "rd"
    refine ⟨c, _, _, rfl, rfl, Evl.Ex.new hu1 _ _ (et1 _ _ hc7), by rw [List.length_map, List.length_replicate, sizeLine_eq]; omega, ?_⟩
    obtain ⟨eb1, nc1⟩ := ask_new (o := .tup [.str "range", .int (far)]) hc7 et1 hu1
    generalize upd (upd Ht1 u1 _) c _ = N1 at eb1 nc1 ⊢
    walk_at "rd"
    refine ⟨.inl ⟨rfl, _, .inl (.inl nc1)⟩, ?_⟩
    walk_at "rd"
    refine ⟨"carries", p, least, far, "range", far, rfl, .bads (.inr rfl) hp okl hfar, fun t2 Ht2 et2 ht2 => ?_⟩
    walk_at "rd"
    refine ⟨by show (2 : Nat) ≤ sizeLine; decide, fun u2 hu2 => ?_⟩
    refine ⟨.tuple [.str "range", .int (far)], .tuple [.str "range", .int (far)], .tup (.inl (.inl (Evl.Ex.new hu2 _ _ ht2))) (.cons (.str _) (.cons (.int _) .nil)), .tup (.inl (.inl upd_same)) (.cons (.str _) (.cons (.int _) .nil)), shaped_pair _ _, shaped_pair _ _, ?_⟩
    rw [eqv_same]
    walk_at "rd"
    refine ⟨c, _, _, rfl, rfl, Evl.Ex.new hu2 _ _ (et2 _ _ nc1), by rw [List.length_map, List.length_replicate, sizeLine_eq]; omega, ?_⟩
    obtain ⟨eb2, nc2⟩ := ask_new (o := .tup [.str "range", .int (far)]) nc1 et2 hu2
    generalize upd (upd Ht2 u2 _) c _ = N2 at eb2 nc2 ⊢
    walk_at "rd"
    have oks : okM (least + m) := ⟨by omega, by show least + m ≤ 1000000000000000000000000000000000000000000000000000000000000; omega⟩
    refine ⟨.inl ⟨rfl, _, .inl (.inl nc2)⟩, ?_⟩
    walk_at "rd"
    refine ⟨"choose", p, least, (least + m), "range", (least + m), rfl, .less hp okl oks (by omega), fun t3 Ht3 et3 ht3 => ?_⟩
    walk_at "rd"
    refine ⟨by show (2 : Nat) ≤ sizeLine; decide, fun u3 hu3 => ?_⟩
    refine ⟨.tuple [.str "range", .int ((least + m))], .tuple [.str "range", .int ((least + m))], .tup (.inl (.inl (Evl.Ex.new hu3 _ _ ht3))) (.cons (.str _) (.cons (.int _) .nil)), .tup (.inl (.inl upd_same)) (.cons (.str _) (.cons (.int _) .nil)), shaped_pair _ _, shaped_pair _ _, ?_⟩
    rw [eqv_same]
    walk_at "rd"
    refine ⟨c, _, _, rfl, rfl, Evl.Ex.new hu3 _ _ (et3 _ _ nc2), by rw [List.length_map, List.length_replicate, sizeLine_eq]; omega, ?_⟩
    obtain ⟨eb3, nc3⟩ := ask_new (o := .tup [.str "range", .int ((least + m))]) nc2 et3 hu3
    generalize upd (upd Ht3 u3 _) c _ = N3 at eb3 nc3 ⊢
    walk_at "rd"
    refine ⟨.inl ⟨rfl, _, .inl (.inl nc3)⟩, ?_⟩
    walk_at "rd"
    refine ⟨"choose", p, least, least, "told", 0, rfl, .same hp okl rfl, fun t4 Ht4 et4 ht4 => ?_⟩
    walk_at "rd"
    refine ⟨by show (2 : Nat) ≤ sizeLine; decide, fun u4 hu4 => ?_⟩
    refine ⟨.tuple [.str "told", .int (0)], .tuple [.str "told", .int (0)], .tup (.inl (.inl (Evl.Ex.new hu4 _ _ ht4))) (.cons (.str _) (.cons (.int _) .nil)), .tup (.inl (.inl upd_same)) (.cons (.str _) (.cons (.int _) .nil)), shaped_pair _ _, shaped_pair _ _, ?_⟩
    rw [eqv_same]
    walk_at "rd"
    refine ⟨c, _, _, rfl, rfl, Evl.Ex.new hu4 _ _ (et4 _ _ nc3), by rw [List.length_map, List.length_replicate, sizeLine_eq]; omega, ?_⟩
    obtain ⟨eb4, nc4⟩ := ask_new (o := .tup [.str "told", .int (0)]) nc3 et4 hu4
    generalize upd (upd Ht4 u4 _) c _ = N4 at eb4 nc4 ⊢
    walk_at "rd"
    refine ⟨.inl ⟨rfl, _, .inl (.inl nc4)⟩, ?_⟩
    walk_at "rd"
    refine ⟨"choose", p, (10 ^ Int.toNat 60), (10 ^ Int.toNat 60), "told", 0, rfl, .same hp ok6 rfl, fun t5 Ht5 et5 ht5 => ?_⟩
    walk_at "rd"
    refine ⟨by show (2 : Nat) ≤ sizeLine; decide, fun u5 hu5 => ?_⟩
    refine ⟨.tuple [.str "told", .int (0)], .tuple [.str "told", .int (0)], .tup (.inl (.inl (Evl.Ex.new hu5 _ _ ht5))) (.cons (.str _) (.cons (.int _) .nil)), .tup (.inl (.inl upd_same)) (.cons (.str _) (.cons (.int _) .nil)), shaped_pair _ _, shaped_pair _ _, ?_⟩
    rw [eqv_same]
    walk_at "rd"
    refine ⟨c, _, _, rfl, rfl, Evl.Ex.new hu5 _ _ (et5 _ _ nc4), by rw [List.length_map, List.length_replicate, sizeLine_eq]; omega, ?_⟩
    obtain ⟨eb5, nc5⟩ := ask_new (o := .tup [.str "told", .int (0)]) nc4 et5 hu5
    generalize upd (upd Ht5 u5 _) c _ = N5 at eb5 nc5 ⊢
    walk_at "rd"
    refine ⟨.inl ⟨rfl, _, .inl (.inl nc5)⟩, ?_⟩
    walk_at "rd"
    refine ⟨"choose", p, 0, (10 ^ Int.toNat 60), "range", (10 ^ Int.toNat 60), rfl, .less hp ok0 ok6 (by decide), fun t6 Ht6 et6 ht6 => ?_⟩
    walk_at "rd"
    refine ⟨by show (2 : Nat) ≤ sizeLine; decide, fun u6 hu6 => ?_⟩
    refine ⟨.tuple [.str "range", .int ((10 ^ Int.toNat 60))], .tuple [.str "range", .int ((10 ^ Int.toNat 60))], .tup (.inl (.inl (Evl.Ex.new hu6 _ _ ht6))) (.cons (.str _) (.cons (.int _) .nil)), .tup (.inl (.inl upd_same)) (.cons (.str _) (.cons (.int _) .nil)), shaped_pair _ _, shaped_pair _ _, ?_⟩
    rw [eqv_same]
    walk_at "rd"
    refine ⟨c, _, _, rfl, rfl, Evl.Ex.new hu6 _ _ (et6 _ _ nc5), by rw [List.length_map, List.length_replicate, sizeLine_eq]; omega, ?_⟩
    obtain ⟨eb6, nc6⟩ := ask_new (o := .tup [.str "range", .int ((10 ^ Int.toNat 60))]) nc5 et6 hu6
    generalize upd (upd Ht6 u6 _) c _ = N6 at eb6 nc6 ⊢
    walk_at "rd"
    refine ⟨c, List.replicate (k + 1 + 1 + 1 + 1 + 1 + 1) true, rfl, .inl (.inl nc6), ?_⟩
    have hall : (List.replicate (k + 1 + 1 + 1 + 1 + 1 + 1) true).all id = true := by
      rw [List.all_eq_true]
      intro x hx
      exact List.eq_of_mem_replicate hx
    rw [hall]
    obtain ⟨f1, f2⟩ := hfin N6 (e7.trans (eb1.trans (eb2.trans (eb3.trans (eb4.trans (eb5.trans eb6))))))
    exact q N6 f1 f2
end
end K7
namespace K7
open PySem PySem.Spec PyProof.Rows L2
local macro_rules | `(tactic| walk_at "rc") => `(tactic| first
  | assumption
  | (show (0 : Int) < _; omega)
  | (show (0 : Int) < _ ∧ _ < (1073741824 : Int); exact ⟨by omega, by omega⟩)
  | (show (-(2 ^ 64 : Int) < _ ∧ _ < (2 ^ 64 : Int)) ∨ _; exact .inl ⟨by omega, by omega⟩)
  | (show _ ∨ (-(2 ^ 64 : Int) < _ ∧ _ < (2 ^ 64 : Int)); exact .inr ⟨by omega, by omega⟩)
  | (show (0 : Int) ≤ _ ∧ _ ≤ (1000000 : Int) ∧ _ < 2 ^ 64; exact ⟨by decide, by decide, by decide⟩))
local macro_rules | `(tactic| walk_at "rd") => `(tactic| repeat (first
  | with_reducible apply KR.seq
  | with_reducible apply KR.asg
  | with_reducible apply KR.drop
  | with_reducible apply KR.ret
  | with_reducible apply KR.retN
  | with_reducible apply KR.next
  | with_reducible apply KR.ifs
  | with_reducible refine KR.var rfl ?_
  | with_reducible refine L2.iteT ?_
  | with_reducible refine L2.iteF ?_
  | with_reducible refine KR.iteNF ?_
  | with_reducible refine KR.iteNT ?_
  | with_reducible apply KR.con
  | with_reducible apply KR.op
  | with_reducible apply KR.opI0
  | ((with_reducible refine KR.opI ?rc ?_); (case rc => walk_at "rc"))
  | with_reducible apply KR.un
  | with_reducible apply KR.unI
  | with_reducible apply KR.eqI
  | with_reducible apply KR.neI
  | with_reducible apply KR.test
  | with_reducible apply KR.tb'
  | with_reducible apply KR.exbl
  | with_reducible apply KR.and'
  | with_reducible apply KR.or'
  | with_reducible apply KR.not'
  | with_reducible apply KR.chain
  | with_reducible apply KR.call
  | with_reducible apply KR.callS
  | with_reducible apply KR.make
  | with_reducible apply KR.bm
  | with_reducible apply KR.errF
  | with_reducible apply KR.cons
  | with_reducible apply KR.nil
  | with_reducible apply KR.cb
  | with_reducible apply KR.cInt1
  | with_reducible apply KR.cI1
  | with_reducible apply KR.cI2
  | with_reducible apply KR.isi_ii
  | with_reducible apply KR.isi_ib
  | with_reducible apply KR.bits
  | with_reducible apply KR.exint
  | with_reducible apply KR.ifx
  | with_reducible refine KR.aug rfl ?_
  | with_reducible apply KR.ipI
  | with_reducible apply KR.for'
  | with_reducible apply KR.rng1
  | with_reducible apply KR.rng2
  | with_reducible apply KR.ilist
  | with_reducible apply KR.itup
  | with_reducible apply KR.tup
  | with_reducible apply KR.lst
  | with_reducible apply KR.andV
  | with_reducible apply KR.orV
  | with_reducible apply KR.notV
  | with_reducible apply KR.asgG
  | with_reducible apply KR.sub
  | with_reducible apply KR.fld
  | with_reducible apply KR.prop
  | with_reducible apply KR.meth
  | with_reducible apply KR.par
  | with_reducible apply KR.parN
  | with_reducible apply KR.raise1
  | with_reducible apply KR.raise0
  | with_reducible apply KR.exv
  | with_reducible apply KR.lc
  | with_reducible apply KR.ienT
  | with_reducible apply KR.sfld
  | with_reducible apply KR.sl
  | with_reducible apply KR.part
  | with_reducible apply KR.nopart
  | with_reducible apply KR.isNo
  | with_reducible refine KR.nnT ?_
  | with_reducible refine KR.niF ?_
  | with_reducible refine KR.nrF ?_
  | with_reducible refine KR.mnT ?_
  | with_reducible refine KR.miF ?_
  | with_reducible refine KR.mrF ?_))
section
variable {P : Program} {w : World} {K : PySem.W.Frag} {mg : Str → Option Value} {base : Heap} {A : Ad}
def sp_law (K : PySem.W.Frag) : Sp := fun vs H Q _ => ∃ (a : Addr) (ns : List Int), vs = [.ref a] ∧ SqL K H a (ns.map V.int) ∧ ∀ H2, Q (.bl true) H2
theorem ok_law (T : Txt P K mg A) : FnOk P w K mg base CX0 8 A.a_law A.d_law ["script"] (sp_law K) := by
  refine T.F_law.ok sc_law (fun vs H Q E h => ?_) (fun cdv Ar outer s H vs Q E hr h => ?_)
  · obtain ⟨_, _, rfl, _⟩ := h; rfl
  have nd := sc_law.nd
  obtain ⟨a0, ns, rfl, hs, q⟩ := h
  refine ⟨_, (pss_cons (ps_set (i := 1) nd rfl (.inl rfl) (pe_call (ok_law_begin T) (hr.mono (by decide)) (by rfl) T.g_law_begin T.k_law_begin T.b_law_begin .nil pass0 (pa_cons (pv 0) pa_nil)))
    (pss_cons (ps_set (i := 2) nd rfl (.inl rfl) (pe_cmpR op_eq (pe_call (ok_law_draw T) (hr.mono (by decide)) (by rfl) T.g_law_draw T.k_law_draw T.b_law_draw .nil pass0 (pa_cons (pv 1) (pa_cons pe_int (pa_cons pe_int pa_nil)))) pe_int (nomark _)))
    (pss_cons (ps_set (i := 3) nd rfl (.inl rfl) (pe_call (ok_law_prime T) (hr.mono (by decide)) (by rfl) T.g_law_prime T.k_law_prime T.b_law_prime .nil pass0 (pa_cons (pv 1) pa_nil)))
    (pss_cons (ps_set (i := 4) nd rfl (.inl rfl) (pe_lst (pa_cons (pe_call (ok_law_draw T) (hr.mono (by decide)) (by rfl) T.g_law_draw T.k_law_draw T.b_law_draw .nil pass0 (pa_cons (pv 1) (pa_cons pe_int (pa_cons pe_int pa_nil)))) (pa_cons (pe_call (ok_law_draw T) (hr.mono (by decide)) (by rfl) T.g_law_draw T.k_law_draw T.b_law_draw .nil pass0 (pa_cons (pv 1) (pa_cons pe_int (pa_cons pe_int pa_nil)))) pa_nil))))
    (pss_cons (ps_for PassesOwn.never rfl (pi_list (pv 4)) (pg_name (i := 5) nd rfl (Or.inl rfl)) (pss_one (ps_if (pt_not (pt_val (pe_call (ok_law_row_told T) (hr.mono (by decide)) (by rfl) T.g_law_row_told T.k_law_row_told T.b_law_row_told .nil pass0 (pa_cons (pv 1) (pa_cons (pv 3) (pa_cons (pv 5) (pa_cons (pv 2) pa_nil))))))) (pss_one (ps_ret pe_bl)) pss_nil)))
    (pss_cons (ps_set (i := 6) nd rfl (.inl rfl) (pe_op op_pow pe_int pe_int))
    (Evl.pss_cut (ps_if (pt_val (pv 2)) (pss_one (ps_set (i := 6) nd rfl (.inl rfl) (pe_op op_pow pe_int pe_int))) pss_nil)
    (pss_cons (ps_set (i := 7) nd rfl (.inl rfl) (pe_call (ok_law_draw T) (hr.mono (by decide)) (by rfl) T.g_law_draw T.k_law_draw T.b_law_draw .nil pass0 (pa_cons (pv 1) (pa_cons (pe_op op_add (pv 6) pe_int) (pa_cons pe_int pa_nil)))))
    (pss_cons (ps_set (i := 8) nd rfl (.inl rfl) (pe_call (ok_law_draw T) (hr.mono (by decide)) (by rfl) T.g_law_draw T.k_law_draw T.b_law_draw .nil pass0 (pa_cons (pv 1) (pa_cons (pe_op op_add (pv 7) pe_int) (pa_cons pe_int pa_nil)))))
    (pss_cons (ps_set (i := 9) nd rfl (.inl rfl) (pe_lst (pa_cons (pe_tup (pa_cons (pv 7) (pa_cons (pv 8) pa_nil))) (pa_cons (pe_tup (pa_cons (pv 7) (pa_cons pe_int pa_nil))) (pa_cons (pe_tup (pa_cons (pv 7) (pa_cons (pv 7) pa_nil))) (pa_cons (pe_tup (pa_cons (pv 8) (pa_cons (pe_op op_fdiv (pv 8) pe_int) pa_nil))) (pa_cons (pe_tup (pa_cons (pv 6) (pa_cons (pv 8) pa_nil))) pa_nil)))))))
    (pss_cons (ps_for PassesOwn.never rfl (pi_list (pv 9)) (pg_name (i := 10) nd rfl (Or.inl rfl)) (pss_one (ps_if (pt_not (pt_val (pe_call (ok_law_counted T) (hr.mono (by decide)) (by rfl) T.g_law_counted T.k_law_counted T.b_law_counted .nil pass0 (pa_cons (pv 3) (pa_cons (pe_ix ix_tup (pv 10) pe_int (fun _ _ => rfl)) (pa_cons (pe_ix ix_tup (pv 10) pe_int (fun _ _ => rfl)) pa_nil)))))) (pss_one (ps_ret pe_bl)) pss_nil)))
    (pss_cons (ps_set (i := 11) nd rfl (.inl rfl) (pe_call (ok_law_power T) (hr.mono (by decide)) (by rfl) T.g_law_power T.k_law_power T.b_law_power .nil pass0 (pa_cons (pv 3) (pa_cons (pe_call (ok_law_draw T) (hr.mono (by decide)) (by rfl) T.g_law_draw T.k_law_draw T.b_law_draw .nil pass0 (pa_cons (pv 1) (pa_cons pe_int (pa_cons pe_int pa_nil)))) pa_nil))))
    (pss_cons (ps_if (PW.pt (pw_or (pt_not (pt_val (pe_call (ok_law_counted T) (hr.mono (by decide)) (by rfl) T.g_law_counted T.k_law_counted T.b_law_counted .nil pass0 (pa_cons (pv 3) (pa_cons (pv 11) (pa_cons pe_int pa_nil)))))) (pw_or1 (pt_not (pt_val (pe_call (ok_law_counted T) (hr.mono (by decide)) (by rfl) T.g_law_counted T.k_law_counted T.b_law_counted .nil pass0 (pa_cons (pv 3) (pa_cons (pe_op op_add (pv 11) pe_int) (pa_cons pe_int pa_nil))))))))) (pss_one (ps_ret pe_bl)) pss_nil)
    (pss_one (ps_ret (pe_and (pe_call (ok_law_refused T) (hr.mono (by decide)) (by rfl) T.g_law_refused T.k_law_refused T.b_law_refused .nil pass0 (pa_cons (pv 1) (pa_cons (pv 3) pa_nil))) (pe_one (pe_call (ok_law_counted T) (hr.mono (by decide)) (by rfl) T.g_law_counted T.k_law_counted T.b_law_counted .nil pass0 (pa_cons (pv 3) (pa_cons (pv 7) (pa_cons (pv 8) pa_nil))))))))))))))))))))), ?_⟩
  walk_at "rd"
  refine ⟨a0, ns, rfl, hs, fun a H1 hp1 => ?_⟩
  clear hs
  walk_at "rd"
  refine ⟨a, _, _, rfl, hp1, by decide, by decide, fun v H2 hv0 hv1 ex2 hp2 => ?_⟩
  clear ex2 hp1
  walk_at "rd"
  generalize decide (v = 0) = gr
  clear hv0 hv1
  refine ⟨a, rfl, hp2, fun pI H3 hpI ex3 hp3 => ?_⟩
  clear ex3 hp2
  obtain ⟨p, rfl, h2, h9⟩ := pr_of hpI
  walk_at "rd"
  refine ⟨a, _, _, rfl, hp3, by decide, by decide, fun x H4 hx0 hx1 ex4 hp4 => ?_⟩
  walk_at "rd"
  refine ⟨a, _, _, rfl, hp4, by decide, by decide, fun y H5 hy0 hy1 ex5 hp5 => ?_⟩
  clear ex4 ex5 hp3 hp4
  obtain ⟨x, rfl⟩ := Int.eq_ofNat_of_zero_le hx0
  obtain ⟨y, rfl⟩ := Int.eq_ofNat_of_zero_le hy0
  walk_at "rd"
  refine ⟨by show (2 : Nat) ≤ sizeLine; decide, fun c hc => ?_⟩
  generalize hG : upd H5 c _ = H6
  have lc : H6 c = some (.lst (([x, y] : List Nat).map fun z : Nat => V.int z)) := by rw [← hG]; exact upd_same
  have hp6 : Pool H6 a := by rw [← hG]; exact hp5.ex (Evl.Ex.new hc)
  have hca : c ≠ a := by
    obtain ⟨cs, _, ha⟩ := hp5
    intro z
    rw [z, ha] at hc
    cases hc
  have hsp : ∀ z ∈ ([x, y] : List Nat), z < 30 := by
    intro z hz
    simp only [List.mem_cons, List.not_mem_nil, or_false] at hz
    omega
  generalize ([x, y] : List Nat) = spots at lc hsp
  clear hG hc hx0 hx1 hy0 hy1 hp5
  walk_at "rd"
  refine KR.ilistN (xs := spots.map fun z : Nat => V.int z) (.inl (.inl lc)) (KR.fwL (xs := spots.map fun z : Nat => V.int z) (fun i σ' H' => Pool H' a ∧ H' c = some (.lst (spots.map fun z : Nat => V.int z)) ∧ ∃ z, σ' = [some (.ref a0), some (.ref a), some (.bl gr), some (.int p), some (.ref c), z, none, none, none, none, none, none]) ⟨hp6, lc, none, rfl⟩ ?_ ?_ ?_)
  · rintro i σ' H' _ ⟨_, h, _⟩
    exact .inl (.inl h)
  · rintro i z σ' H' hz ⟨hp', lc', z5, rfl⟩
    rw [List.getElem?_map] at hz
    obtain ⟨j, hj, rfl⟩ := Option.map_eq_some_iff.mp hz
    walk_at "rd"
    refine ⟨a, p, j, gr, rfl, hp', hpI, hsp j (List.mem_of_getElem? hj), fun H8 ex8 hp8 => ?_⟩
    walk_at "rd"
    exact ⟨hp8, ex8 _ _ hca lc', _, rfl⟩
  rintro σ' H7 ⟨hp7, _, z5, rfl⟩
  clear hp6 lc hsp hca
  walk_at "rd"
  refine KR.cut (Mid := fun σ' H' => ∃ top : Nat, (top : Int) ≤ M60 ∧ σ' = [some (.ref a0), some (.ref a), some (.bl gr), some (.int p), some (.ref c), z5, some (.int (top : Nat)), none, none, none, none, none] ∧ H' = H7) ?_ ?_
  · cases gr with
    | true =>
      walk_at "rd"
      exact ⟨10 ^ 60, by decide, rfl, rfl⟩
    | false =>
      walk_at "rd"
      exact ⟨10 ^ 9, by decide, rfl, rfl⟩
  rintro σ' H8 ⟨top, htop, rfl, rfl⟩
  have hM : M60 < 2 ^ 299 := by decide
  have hlog : ∀ m : Nat, (m : Int) ≤ M60 → ((m : Int) + 1).natAbs < 2 ^ 300 := fun m hm => by
    have h1 : ((m : Int) + 1).natAbs = m + 1 := by omega
    have h2 : ((2 ^ 300 : Nat) : Int) = 2 ^ 300 := by decide
    have h3 : (2 : Int) ^ 300 = 2 ^ 299 * 2 := by decide
    omega
  walk_at "rd"
  refine ⟨a, _, _, rfl, hp7, by omega, log_ok (by omega) (hlog top htop), fun n H9 hn0 hn1 ex9 hp9 => ?_⟩
  clear ex9 hp7
  obtain ⟨n, rfl⟩ := Int.eq_ofNat_of_zero_le hn0
  have hn : (n : Int) ≤ M60 := by omega
  walk_at "rd"
  refine ⟨a, _, _, rfl, hp9, by omega, log_ok (by omega) (hlog n hn), fun k H10 hk0 hk1 ex10 hp10 => ?_⟩
  clear ex10 hp9
  obtain ⟨k, rfl⟩ := Int.eq_ofNat_of_zero_le hk0
  have hkn : k ≤ n := by omega
  have hnt : n ≤ top := by omega
  clear hn0 hn1 hk0 hk1 hlog hM
  walk_at "rd"
  have sz2 : (2 : Nat) ≤ sizeLine := by decide
  refine ⟨sz2, fun t1 h1 => ?_⟩
  walk_at "rd"
  refine ⟨sz2, fun t2 h2' => ?_⟩
  walk_at "rd"
  refine ⟨sz2, fun t3 h3 => ?_⟩
  walk_at "rd"
  refine ⟨sz2, fun t4 h4 => ?_⟩
  walk_at "rd"
  refine ⟨sz2, fun t5 h5 => ?_⟩
  walk_at "rd"
  refine ⟨by show (5 : Nat) ≤ sizeLine; decide, fun d hd => ?_⟩
  have g5 := Evl.Ex.new (o := .tup [.int top, .int k]) h5
  have g4 := (Evl.Ex.new (o := .tup [.int k, .int ((k : Int) / 2)]) h4).trans g5
  have g3 := (Evl.Ex.new (o := .tup [.int n, .int n]) h3).trans g4
  have g2 := (Evl.Ex.new (o := .tup [.int n, .int 0]) h2').trans g3
  have g1 := (Evl.Ex.new (o := .tup [.int n, .int k]) h1).trans g2
  have r1 := g2 t1 _ upd_same
  have r2 := g3 t2 _ upd_same
  have r3 := g4 t3 _ upd_same
  have r4 := g5 t4 _ upd_same
  have r5 : (upd (upd (upd (upd (upd H10 t1 (.tup [.int n, .int k])) t2 (.tup [.int n, .int 0])) t3 (.tup [.int n, .int n])) t4 (.tup [.int k, .int ((k : Int) / 2)])) t5 (.tup [.int top, .int k])) t5 = some (.tup [.int top, .int k]) := upd_same
  generalize hG5 : upd (upd (upd (upd (upd H10 t1 _) t2 _) t3 _) t4 _) t5 _ = G5 at g1 g2 g3 g4 g5 r1 r2 r3 r4 r5 hd ⊢
  generalize hG : upd G5 d _ = H11
  have e11 : Evl.Ex G5 H11 := by rw [← hG]; exact Evl.Ex.new hd
  have ld : H11 d = some (.lst (([t1, t2, t3, t4, t5] : List Addr).map V.ref)) := by rw [← hG]; exact upd_same
  have hp11 : Pool H11 a := (hp10.ex g1).ex e11
  have hall : ∀ r ∈ ([t1, t2, t3, t4, t5] : List Addr), ∃ n k : Nat, H11 r = some (.tup [.int n, .int k]) ∧ k ≤ n ∧ (n : Int) ≤ M60 := by
    intro r hr
    simp only [List.mem_cons, List.not_mem_nil, or_false] at hr
    rcases hr with rfl | rfl | rfl | rfl | rfl
    · exact ⟨n, k, e11 _ _ r1, hkn, hn⟩
    · exact ⟨n, 0, e11 _ _ r2, Nat.zero_le _, hn⟩
    · exact ⟨n, n, e11 _ _ r3, Nat.le_refl _, hn⟩
    · exact ⟨k, k / 2, e11 _ _ r4, by omega, by omega⟩
    · exact ⟨top, k, e11 _ _ r5, by omega, htop⟩
  generalize ([t1, t2, t3, t4, t5] : List Addr) = refs at ld hall
  clear hG hG5 g1 g2 g3 g4 g5 r1 r2 r3 r4 r5 hd h1 h2' h3 h4 h5 hp10 e11
  walk_at "rd"
  refine KR.ilistN (xs := refs.map V.ref) (.inl (.inl ld)) (KR.fwL (xs := refs.map V.ref) (fun i σ' H' => Evl.Ex H11 H' ∧ ∃ z, σ' = [some (.ref a0), some (.ref a), some (.bl gr), some (.int p), some (.ref c), z5, some (.int (top : Nat)), some (.int (n : Nat)), some (.int (k : Nat)), some (.ref d), z, none]) ⟨Evl.Ex.refl _, none, rfl⟩ ?_ ?_ ?_)
  · rintro i σ' H' _ ⟨e, _⟩
    exact .inl (.inl (e _ _ ld))
  · rintro i z σ' H' hz ⟨e, z10, rfl⟩
    rw [List.getElem?_map] at hz
    obtain ⟨r, hr', rfl⟩ := Option.map_eq_some_iff.mp hz
    obtain ⟨N, M, hr2, hNM, hN⟩ := hall r (List.mem_of_getElem? hr')
    have sT : SqT K H' r [V.int N, V.int M] := .inl (.inl (e _ _ hr2))
    walk_at "rd"
    refine KR.ixT sT (v := .int N) rfl ?_
    walk_at "rd"
    refine KR.ixT sT (v := .int M) rfl ?_
    walk_at "rd"
    refine ⟨p, N, M, rfl, hpI, hNM, hN, fun H12 e12 => ?_⟩
    walk_at "rd"
    exact ⟨e.trans e12, _, rfl⟩
  rintro σ' H12 ⟨e12, z10, rfl⟩
  have hp12 := hp11.ex e12
  clear e12 hp11 ld hall
  walk_at "rd"
  refine ⟨a, _, _, rfl, hp12, by decide, by decide, fun u H13 hu0 hu1 ex13 hp13 => ?_⟩
  obtain ⟨u, rfl⟩ := Int.eq_ofNat_of_zero_le hu0
  walk_at "rd"
  refine ⟨p, u, rfl, by omega, by omega, ?_⟩
  have hpu1 : 1 ≤ p ^ u := Nat.pow_pos (by omega)
  have hpu2 : p ^ u < 10 ^ 12 := by
    have h1 : p ^ u ≤ p ^ 5 := Nat.pow_le_pow_right (by omega) (by omega)
    have h2 : p ^ 5 ≤ 99 ^ 5 := Nat.pow_le_pow_left (by omega) 5
    have h3 : (99 : Nat) ^ 5 < 10 ^ 12 := by decide
    omega
  generalize p ^ u = step at hpu1 hpu2
  have hs1 : ((step : Nat) : Int) ≤ M60 := by show (step : Int) ≤ 1000000000000000000000000000000000000000000000000000000000000; omega
  have hs2 : ((step + 1 : Nat) : Int) ≤ M60 := by show ((step + 1 : Nat) : Int) ≤ 1000000000000000000000000000000000000000000000000000000000000; omega
  walk_at "rd"
  refine ⟨p, step, 1, rfl, hpI, hpu1, hs1, fun H14 e14 => ?_⟩
  walk_at "rd"
  refine ⟨p, step + 1, 1, rfl, hpI, by omega, hs2, fun H15 e15 => ?_⟩
  walk_at "rd"
  refine ⟨a, p, rfl, (hp13.ex e14).ex e15, hpI, fun H16 _ _ => ?_⟩
  walk_at "rd"
  exact ⟨p, n, k, rfl, hpI, hkn, hn, fun H17 _ => q H17⟩
end
end K7
namespace K7
open PySem PySem.Spec PyProof.Rows L2
theorem all_mk {prog : Program} {w : World} {K : PySem.W.Frag} {h : Heap} {mg : Str → Option Value} {fa : Addr} {CM pM : Addr}
    {f_look_prime : Addr} {od_look_prime an_look_prime : Option Addr} {sl_look_prime : Array (Option Value)} {oc_look_prime kV_look_prime dc_look_prime pm_look_prime cd_look_prime ct_look_prime : Value}
    {f_look_range : Addr} {od_look_range an_look_range : Option Addr} {sl_look_range : Array (Option Value)} {oc_look_range kV_look_range dc_look_range pm_look_range cd_look_range ct_look_range : Value}
    {f_look_size : Addr} {od_look_size an_look_size : Option Addr} {sl_look_size : Array (Option Value)} {oc_look_size kV_look_size dc_look_size pm_look_size cd_look_size ct_look_size : Value}
    {f_look_list : Addr} {od_look_list an_look_list : Option Addr} {sl_look_list : Array (Option Value)} {oc_look_list kV_look_list dc_look_list pm_look_list cd_look_list ct_look_list : Value}
    {f_look_each : Addr} {od_look_each an_look_each : Option Addr} {sl_look_each : Array (Option Value)} {oc_look_each kV_look_each dc_look_each pm_look_each cd_look_each ct_look_each : Value}
    {f_parted : Addr} {od_parted an_parted : Option Addr} {sl_parted : Array (Option Value)} {oc_parted kV_parted dc_parted pm_parted cd_parted ct_parted : Value}
    {f_int_depth : Addr} {od_int_depth an_int_depth : Option Addr} {sl_int_depth : Array (Option Value)} {oc_int_depth kV_int_depth dc_int_depth pm_int_depth cd_int_depth ct_int_depth : Value}
    {f_summed_digits : Addr} {od_summed_digits an_summed_digits : Option Addr} {sl_summed_digits : Array (Option Value)} {oc_summed_digits kV_summed_digits dc_summed_digits pm_summed_digits cd_summed_digits ct_summed_digits : Value}
    {f_counted_carries : Addr} {od_counted_carries an_counted_carries : Option Addr} {sl_counted_carries : Array (Option Value)} {oc_counted_carries kV_counted_carries dc_counted_carries pm_counted_carries cd_counted_carries ct_counted_carries : Value}
    {f_digit_sum : Addr} {od_digit_sum an_digit_sum : Option Addr} {sl_digit_sum : Array (Option Value)} {oc_digit_sum kV_digit_sum dc_digit_sum pm_digit_sum cd_digit_sum ct_digit_sum : Value}
    {f_carries : Addr} {od_carries an_carries : Option Addr} {sl_carries : Array (Option Value)} {oc_carries kV_carries dc_carries pm_carries cd_carries ct_carries : Value}
    {f_factorial_depth : Addr} {od_factorial_depth an_factorial_depth : Option Addr} {sl_factorial_depth : Array (Option Value)} {oc_factorial_depth kV_factorial_depth dc_factorial_depth pm_factorial_depth cd_factorial_depth ct_factorial_depth : Value}
    {f_choose_depth : Addr} {od_choose_depth an_choose_depth : Option Addr} {sl_choose_depth : Array (Option Value)} {oc_choose_depth kV_choose_depth dc_choose_depth pm_choose_depth cd_choose_depth ct_choose_depth : Value}
    {f_level_of : Addr} {od_level_of an_level_of : Option Addr} {sl_level_of : Array (Option Value)} {oc_level_of kV_level_of dc_level_of pm_level_of cd_level_of ct_level_of : Value}
    {f_row_value : Addr} {od_row_value an_row_value : Option Addr} {sl_row_value : Array (Option Value)} {oc_row_value kV_row_value dc_row_value pm_row_value cd_row_value ct_row_value : Value}
    {f_row_bound : Addr} {od_row_bound an_row_bound : Option Addr} {sl_row_bound : Array (Option Value)} {oc_row_bound kV_row_bound dc_row_bound pm_row_bound cd_row_bound ct_row_bound : Value}
    {f_Mahler_init : Addr} {od_Mahler_init an_Mahler_init : Option Addr} {sl_Mahler_init : Array (Option Value)} {oc_Mahler_init kV_Mahler_init dc_Mahler_init pm_Mahler_init cd_Mahler_init ct_Mahler_init : Value}
    {f_Mahler_value : Addr} {od_Mahler_value an_Mahler_value : Option Addr} {sl_Mahler_value : Array (Option Value)} {oc_Mahler_value kV_Mahler_value dc_Mahler_value pm_Mahler_value cd_Mahler_value ct_Mahler_value : Value}
    {f_Mahler_bound : Addr} {od_Mahler_bound an_Mahler_bound : Option Addr} {sl_Mahler_bound : Array (Option Value)} {oc_Mahler_bound kV_Mahler_bound dc_Mahler_bound pm_Mahler_bound cd_Mahler_bound ct_Mahler_bound : Value}
    {rest_Mahler_bound : List Value}
    {f_Mahler_pair : Addr} {od_Mahler_pair an_Mahler_pair : Option Addr} {sl_Mahler_pair : Array (Option Value)} {oc_Mahler_pair kV_Mahler_pair dc_Mahler_pair pm_Mahler_pair cd_Mahler_pair ct_Mahler_pair : Value}
    {f_law_begin : Addr} {od_law_begin an_law_begin : Option Addr} {sl_law_begin : Array (Option Value)} {oc_law_begin kV_law_begin dc_law_begin pm_law_begin cd_law_begin ct_law_begin : Value}
    {f_law_draw : Addr} {od_law_draw an_law_draw : Option Addr} {sl_law_draw : Array (Option Value)} {oc_law_draw kV_law_draw dc_law_draw pm_law_draw cd_law_draw ct_law_draw : Value}
    {f_law_prime : Addr} {od_law_prime an_law_prime : Option Addr} {sl_law_prime : Array (Option Value)} {oc_law_prime kV_law_prime dc_law_prime pm_law_prime cd_law_prime ct_law_prime : Value}
    {f_law_power : Addr} {od_law_power an_law_power : Option Addr} {sl_law_power : Array (Option Value)} {oc_law_power kV_law_power dc_law_power pm_law_power cd_law_power ct_law_power : Value}
    {f_law_depth : Addr} {od_law_depth an_law_depth : Option Addr} {sl_law_depth : Array (Option Value)} {oc_law_depth kV_law_depth dc_law_depth pm_law_depth cd_law_depth ct_law_depth : Value}
    {f_law_is : Addr} {od_law_is an_law_is : Option Addr} {sl_law_is : Array (Option Value)} {oc_law_is kV_law_is dc_law_is pm_law_is cd_law_is ct_law_is : Value}
    {f_law_number : Addr} {od_law_number an_law_number : Option Addr} {sl_law_number : Array (Option Value)} {oc_law_number kV_law_number dc_law_number pm_law_number cd_law_number ct_law_number : Value}
    {f_law_call : Addr} {od_law_call an_law_call : Option Addr} {sl_law_call : Array (Option Value)} {oc_law_call kV_law_call dc_law_call pm_law_call cd_law_call ct_law_call : Value}
    {f_law_carried : Addr} {od_law_carried an_law_carried : Option Addr} {sl_law_carried : Array (Option Value)} {oc_law_carried kV_law_carried dc_law_carried pm_law_carried cd_law_carried ct_law_carried : Value}
    {f_law_summed : Addr} {od_law_summed an_law_summed : Option Addr} {sl_law_summed : Array (Option Value)} {oc_law_summed kV_law_summed dc_law_summed pm_law_summed cd_law_summed ct_law_summed : Value}
    {f_law_factorial : Addr} {od_law_factorial an_law_factorial : Option Addr} {sl_law_factorial : Array (Option Value)} {oc_law_factorial kV_law_factorial dc_law_factorial pm_law_factorial cd_law_factorial ct_law_factorial : Value}
    {f_law_step : Addr} {od_law_step an_law_step : Option Addr} {sl_law_step : Array (Option Value)} {oc_law_step kV_law_step dc_law_step pm_law_step cd_law_step ct_law_step : Value}
    {f_law_choose : Addr} {od_law_choose an_law_choose : Option Addr} {sl_law_choose : Array (Option Value)} {oc_law_choose kV_law_choose dc_law_choose pm_law_choose cd_law_choose ct_law_choose : Value}
    {f_law_counted : Addr} {od_law_counted an_law_counted : Option Addr} {sl_law_counted : Array (Option Value)} {oc_law_counted kV_law_counted dc_law_counted pm_law_counted cd_law_counted ct_law_counted : Value}
    {f_law_row_told : Addr} {od_law_row_told an_law_row_told : Option Addr} {sl_law_row_told : Array (Option Value)} {oc_law_row_told kV_law_row_told dc_law_row_told pm_law_row_told cd_law_row_told ct_law_row_told : Value}
    {f_law_refused : Addr} {od_law_refused an_law_refused : Option Addr} {sl_law_refused : Array (Option Value)} {oc_law_refused kV_law_refused dc_law_refused pm_law_refused cd_law_refused ct_law_refused : Value}
    {f_law : Addr} {od_law an_law : Option Addr} {sl_law : Array (Option Value)} {oc_law kV_law dc_law pm_law cd_law ct_law : Value}
    {tk_MOST_COUNTED : Tok}
    {tk_MOST_ROW : Tok}
    {tk_MOST_ENTRY : Tok}
    {tk_MOST_PLACE : Tok}
    {aS : Addr} {dS : Option Addr} {itS : Array Value} {nS : Nat} {slS : Array (Option Value)}
    {C_PrimedeepError : Addr}
    {C_SizeError : Addr}
    {C_RangeError : Addr}
    {C_PrimeError : Addr}
    {C_DepthError : Addr}
    {C_ZeroError : Addr}
    {C_MixError : Addr}
    {C_BarError : Addr}
    {C_MonicError : Addr}
    {C_RepeatError : Addr}
    {C_FieldError : Addr}
    {C_EditError : Addr}
    {C_TextError : Addr}
    {C_HistoryError : Addr}
    {I_RangeError V_RangeError W_RangeError N_RangeError : Addr} {nm_RangeError q_RangeError : Str} {bs_RangeError bm_RangeError sub_RangeError : List Value} {sn_RangeError : List Str} {ab_RangeError : Bool} {col_RangeError : Option Bool} {dd_RangeError : Option Addr} {m0_RangeError m1_RangeError m2_RangeError m3_RangeError m5_RangeError : Option Value}
    {foc_RangeError fdoc_RangeError fpm_RangeError fct_RangeError : Value} {fod_RangeError fan_RangeError : Option Addr} {fsl_RangeError : Array (Option Value)} {fk_RangeError : Nat}
    {cl_RangeError ccl_RangeError : Value} {cld_RangeError cdd_RangeError : Option Addr} {csl_RangeError ccs_RangeError : Array (Option Value)} {cv_RangeError : Array Value} {cf_RangeError : Str} {tf_RangeError : Tok}
    {I_PrimeError V_PrimeError W_PrimeError N_PrimeError : Addr} {nm_PrimeError q_PrimeError : Str} {bs_PrimeError bm_PrimeError sub_PrimeError : List Value} {sn_PrimeError : List Str} {ab_PrimeError : Bool} {col_PrimeError : Option Bool} {dd_PrimeError : Option Addr} {m0_PrimeError m1_PrimeError m2_PrimeError m3_PrimeError m5_PrimeError : Option Value}
    {foc_PrimeError fdoc_PrimeError fpm_PrimeError fct_PrimeError : Value} {fod_PrimeError fan_PrimeError : Option Addr} {fsl_PrimeError : Array (Option Value)} {fk_PrimeError : Nat}
    {cl_PrimeError ccl_PrimeError : Value} {cld_PrimeError cdd_PrimeError : Option Addr} {csl_PrimeError ccs_PrimeError : Array (Option Value)} {cv_PrimeError : Array Value} {cf_PrimeError : Str} {tf_PrimeError : Tok}
    (X : K.In h) (G : h.Ns mainGlobals mg) (hfa : mg "law" = some (.ref fa))
    (aM : PySem.W.nsIn K mainGlobals "Mahler" = some (some (.ref CM)))
    (pgM : PySem.W.plainGet K CM Str.empty = true)
    (hdM : PySem.W.hasDictIn K CM = true)
    (poM : PySem.W.plainOver K CM = true)
    (saM : PySem.W.findIn K (.ref CM) "__setattr__" = some (some (.builtin "object.__setattr__")))
    (mkM : PySem.W.makesIn K CM = true)
    (kM : PySem.W.keepIn K (.ref CM) = true)
    (nap : PySem.W.findIn K (.ref CM) "p" = some none)
    (nar : PySem.W.findIn K (.ref CM) "row" = some none)
    (a_look_prime : PySem.W.nsIn K mainGlobals "look_prime" = some (some (.ref f_look_prime)))
    (l_look_prime : K.lookup f_look_prime = some ⟨oc_look_prime, od_look_prime, .func (PySem.W.fnOf "look_prime" "look_prime" (defArgs s_look_prime) (defBody s_look_prime) (defScope s_look_prime) .none kV_look_prime dc_look_prime pm_look_prime an_look_prime cd_look_prime ct_look_prime), sl_look_prime⟩)
    (c_look_prime : PySem.W.codeIn K cd_look_prime "look_prime" = true)
    (k_look_prime : PySem.W.keepIn K (.ref f_look_prime) = true)
    (a_look_range : PySem.W.nsIn K mainGlobals "look_range" = some (some (.ref f_look_range)))
    (l_look_range : K.lookup f_look_range = some ⟨oc_look_range, od_look_range, .func (PySem.W.fnOf "look_range" "look_range" (defArgs s_look_range) (defBody s_look_range) (defScope s_look_range) .none kV_look_range dc_look_range pm_look_range an_look_range cd_look_range ct_look_range), sl_look_range⟩)
    (c_look_range : PySem.W.codeIn K cd_look_range "look_range" = true)
    (k_look_range : PySem.W.keepIn K (.ref f_look_range) = true)
    (a_look_size : PySem.W.nsIn K mainGlobals "look_size" = some (some (.ref f_look_size)))
    (l_look_size : K.lookup f_look_size = some ⟨oc_look_size, od_look_size, .func (PySem.W.fnOf "look_size" "look_size" (defArgs s_look_size) (defBody s_look_size) (defScope s_look_size) .none kV_look_size dc_look_size pm_look_size an_look_size cd_look_size ct_look_size), sl_look_size⟩)
    (c_look_size : PySem.W.codeIn K cd_look_size "look_size" = true)
    (k_look_size : PySem.W.keepIn K (.ref f_look_size) = true)
    (a_look_list : PySem.W.nsIn K mainGlobals "look_list" = some (some (.ref f_look_list)))
    (l_look_list : K.lookup f_look_list = some ⟨oc_look_list, od_look_list, .func (PySem.W.fnOf "look_list" "look_list" (defArgs s_look_list) (defBody s_look_list) (defScope s_look_list) .none kV_look_list dc_look_list pm_look_list an_look_list cd_look_list ct_look_list), sl_look_list⟩)
    (c_look_list : PySem.W.codeIn K cd_look_list "look_list" = true)
    (k_look_list : PySem.W.keepIn K (.ref f_look_list) = true)
    (a_look_each : PySem.W.nsIn K mainGlobals "look_each" = some (some (.ref f_look_each)))
    (l_look_each : K.lookup f_look_each = some ⟨oc_look_each, od_look_each, .func (PySem.W.fnOf "look_each" "look_each" (defArgs s_look_each) (defBody s_look_each) (defScope s_look_each) .none kV_look_each dc_look_each pm_look_each an_look_each cd_look_each ct_look_each), sl_look_each⟩)
    (c_look_each : PySem.W.codeIn K cd_look_each "look_each" = true)
    (k_look_each : PySem.W.keepIn K (.ref f_look_each) = true)
    (a_parted : PySem.W.nsIn K mainGlobals "parted" = some (some (.ref f_parted)))
    (l_parted : K.lookup f_parted = some ⟨oc_parted, od_parted, .func (PySem.W.fnOf "parted" "parted" (defArgs s_parted) (defBody s_parted) (defScope s_parted) .none kV_parted dc_parted pm_parted an_parted cd_parted ct_parted), sl_parted⟩)
    (c_parted : PySem.W.codeIn K cd_parted "parted" = true)
    (k_parted : PySem.W.keepIn K (.ref f_parted) = true)
    (a_int_depth : PySem.W.nsIn K mainGlobals "int_depth" = some (some (.ref f_int_depth)))
    (l_int_depth : K.lookup f_int_depth = some ⟨oc_int_depth, od_int_depth, .func (PySem.W.fnOf "int_depth" "int_depth" (defArgs s_int_depth) (defBody s_int_depth) (defScope s_int_depth) .none kV_int_depth dc_int_depth pm_int_depth an_int_depth cd_int_depth ct_int_depth), sl_int_depth⟩)
    (c_int_depth : PySem.W.codeIn K cd_int_depth "int_depth" = true)
    (k_int_depth : PySem.W.keepIn K (.ref f_int_depth) = true)
    (a_summed_digits : PySem.W.nsIn K mainGlobals "summed_digits" = some (some (.ref f_summed_digits)))
    (l_summed_digits : K.lookup f_summed_digits = some ⟨oc_summed_digits, od_summed_digits, .func (PySem.W.fnOf "summed_digits" "summed_digits" (defArgs s_summed_digits) (defBody s_summed_digits) (defScope s_summed_digits) .none kV_summed_digits dc_summed_digits pm_summed_digits an_summed_digits cd_summed_digits ct_summed_digits), sl_summed_digits⟩)
    (c_summed_digits : PySem.W.codeIn K cd_summed_digits "summed_digits" = true)
    (k_summed_digits : PySem.W.keepIn K (.ref f_summed_digits) = true)
    (a_counted_carries : PySem.W.nsIn K mainGlobals "counted_carries" = some (some (.ref f_counted_carries)))
    (l_counted_carries : K.lookup f_counted_carries = some ⟨oc_counted_carries, od_counted_carries, .func (PySem.W.fnOf "counted_carries" "counted_carries" (defArgs s_counted_carries) (defBody s_counted_carries) (defScope s_counted_carries) .none kV_counted_carries dc_counted_carries pm_counted_carries an_counted_carries cd_counted_carries ct_counted_carries), sl_counted_carries⟩)
    (c_counted_carries : PySem.W.codeIn K cd_counted_carries "counted_carries" = true)
    (k_counted_carries : PySem.W.keepIn K (.ref f_counted_carries) = true)
    (a_digit_sum : PySem.W.nsIn K mainGlobals "digit_sum" = some (some (.ref f_digit_sum)))
    (l_digit_sum : K.lookup f_digit_sum = some ⟨oc_digit_sum, od_digit_sum, .func (PySem.W.fnOf "digit_sum" "digit_sum" (defArgs s_digit_sum) (defBody s_digit_sum) (defScope s_digit_sum) .none kV_digit_sum dc_digit_sum pm_digit_sum an_digit_sum cd_digit_sum ct_digit_sum), sl_digit_sum⟩)
    (c_digit_sum : PySem.W.codeIn K cd_digit_sum "digit_sum" = true)
    (k_digit_sum : PySem.W.keepIn K (.ref f_digit_sum) = true)
    (a_carries : PySem.W.nsIn K mainGlobals "carries" = some (some (.ref f_carries)))
    (l_carries : K.lookup f_carries = some ⟨oc_carries, od_carries, .func (PySem.W.fnOf "carries" "carries" (defArgs s_carries) (defBody s_carries) (defScope s_carries) .none kV_carries dc_carries pm_carries an_carries cd_carries ct_carries), sl_carries⟩)
    (c_carries : PySem.W.codeIn K cd_carries "carries" = true)
    (k_carries : PySem.W.keepIn K (.ref f_carries) = true)
    (a_factorial_depth : PySem.W.nsIn K mainGlobals "factorial_depth" = some (some (.ref f_factorial_depth)))
    (l_factorial_depth : K.lookup f_factorial_depth = some ⟨oc_factorial_depth, od_factorial_depth, .func (PySem.W.fnOf "factorial_depth" "factorial_depth" (defArgs s_factorial_depth) (defBody s_factorial_depth) (defScope s_factorial_depth) .none kV_factorial_depth dc_factorial_depth pm_factorial_depth an_factorial_depth cd_factorial_depth ct_factorial_depth), sl_factorial_depth⟩)
    (c_factorial_depth : PySem.W.codeIn K cd_factorial_depth "factorial_depth" = true)
    (k_factorial_depth : PySem.W.keepIn K (.ref f_factorial_depth) = true)
    (a_choose_depth : PySem.W.nsIn K mainGlobals "choose_depth" = some (some (.ref f_choose_depth)))
    (l_choose_depth : K.lookup f_choose_depth = some ⟨oc_choose_depth, od_choose_depth, .func (PySem.W.fnOf "choose_depth" "choose_depth" (defArgs s_choose_depth) (defBody s_choose_depth) (defScope s_choose_depth) .none kV_choose_depth dc_choose_depth pm_choose_depth an_choose_depth cd_choose_depth ct_choose_depth), sl_choose_depth⟩)
    (c_choose_depth : PySem.W.codeIn K cd_choose_depth "choose_depth" = true)
    (k_choose_depth : PySem.W.keepIn K (.ref f_choose_depth) = true)
    (a_level_of : PySem.W.nsIn K mainGlobals "level_of" = some (some (.ref f_level_of)))
    (l_level_of : K.lookup f_level_of = some ⟨oc_level_of, od_level_of, .func (PySem.W.fnOf "level_of" "level_of" (defArgs s_level_of) (defBody s_level_of) (defScope s_level_of) .none kV_level_of dc_level_of pm_level_of an_level_of cd_level_of ct_level_of), sl_level_of⟩)
    (c_level_of : PySem.W.codeIn K cd_level_of "level_of" = true)
    (k_level_of : PySem.W.keepIn K (.ref f_level_of) = true)
    (a_row_value : PySem.W.nsIn K mainGlobals "row_value" = some (some (.ref f_row_value)))
    (l_row_value : K.lookup f_row_value = some ⟨oc_row_value, od_row_value, .func (PySem.W.fnOf "row_value" "row_value" (defArgs s_row_value) (defBody s_row_value) (defScope s_row_value) .none kV_row_value dc_row_value pm_row_value an_row_value cd_row_value ct_row_value), sl_row_value⟩)
    (c_row_value : PySem.W.codeIn K cd_row_value "row_value" = true)
    (k_row_value : PySem.W.keepIn K (.ref f_row_value) = true)
    (a_row_bound : PySem.W.nsIn K mainGlobals "row_bound" = some (some (.ref f_row_bound)))
    (l_row_bound : K.lookup f_row_bound = some ⟨oc_row_bound, od_row_bound, .func (PySem.W.fnOf "row_bound" "row_bound" (defArgs s_row_bound) (defBody s_row_bound) (defScope s_row_bound) .none kV_row_bound dc_row_bound pm_row_bound an_row_bound cd_row_bound ct_row_bound), sl_row_bound⟩)
    (c_row_bound : PySem.W.codeIn K cd_row_bound "row_bound" = true)
    (k_row_bound : PySem.W.keepIn K (.ref f_row_bound) = true)
    (at_Mahler_init : PySem.W.findIn K (.ref CM) "__init__" = some (some (.ref f_Mahler_init)))
    (fn_Mahler_init : PySem.W.isFn K (.ref f_Mahler_init) = true)
    (l_Mahler_init : K.lookup f_Mahler_init = some ⟨oc_Mahler_init, od_Mahler_init, .func (PySem.W.fnOf "__init__" "Mahler.__init__" (defArgs s_Mahler_init) (defBody s_Mahler_init) (defScope s_Mahler_init) .none kV_Mahler_init dc_Mahler_init pm_Mahler_init an_Mahler_init cd_Mahler_init ct_Mahler_init), sl_Mahler_init⟩)
    (c_Mahler_init : PySem.W.codeIn K cd_Mahler_init "Mahler.__init__" = true)
    (k_Mahler_init : PySem.W.keepIn K (.ref f_Mahler_init) = true)
    (at_Mahler_value : PySem.W.findIn K (.ref CM) "value" = some (some (.ref f_Mahler_value)))
    (fn_Mahler_value : PySem.W.isFn K (.ref f_Mahler_value) = true)
    (l_Mahler_value : K.lookup f_Mahler_value = some ⟨oc_Mahler_value, od_Mahler_value, .func (PySem.W.fnOf "value" "Mahler.value" (defArgs s_Mahler_value) (defBody s_Mahler_value) (defScope s_Mahler_value) .none kV_Mahler_value dc_Mahler_value pm_Mahler_value an_Mahler_value cd_Mahler_value ct_Mahler_value), sl_Mahler_value⟩)
    (c_Mahler_value : PySem.W.codeIn K cd_Mahler_value "Mahler.value" = true)
    (k_Mahler_value : PySem.W.keepIn K (.ref f_Mahler_value) = true)
    (at_Mahler_bound : PySem.W.findIn K (.ref CM) "bound" = some (some (.ref pM)))
    (ge_Mahler_bound : PySem.W.specialIn K (.ref pM) "__get__" = some (some (.builtin "property.__get__")))
    (ta_Mahler_bound : PySem.W.takesIn K (.ref pM) = some true)
    (re_Mahler_bound : PySem.W.recIn K pM "property" = some (.ref f_Mahler_bound :: rest_Mahler_bound))
    (l_Mahler_bound : K.lookup f_Mahler_bound = some ⟨oc_Mahler_bound, od_Mahler_bound, .func (PySem.W.fnOf "bound" "Mahler.bound" (defArgs s_Mahler_bound) (defBody s_Mahler_bound) (defScope s_Mahler_bound) .none kV_Mahler_bound dc_Mahler_bound pm_Mahler_bound an_Mahler_bound cd_Mahler_bound ct_Mahler_bound), sl_Mahler_bound⟩)
    (c_Mahler_bound : PySem.W.codeIn K cd_Mahler_bound "Mahler.bound" = true)
    (k_Mahler_bound : PySem.W.keepIn K (.ref f_Mahler_bound) = true)
    (at_Mahler_pair : PySem.W.findIn K (.ref CM) "pair" = some (some (.ref f_Mahler_pair)))
    (fn_Mahler_pair : PySem.W.isFn K (.ref f_Mahler_pair) = true)
    (l_Mahler_pair : K.lookup f_Mahler_pair = some ⟨oc_Mahler_pair, od_Mahler_pair, .func (PySem.W.fnOf "pair" "Mahler.pair" (defArgs s_Mahler_pair) (defBody s_Mahler_pair) (defScope s_Mahler_pair) .none kV_Mahler_pair dc_Mahler_pair pm_Mahler_pair an_Mahler_pair cd_Mahler_pair ct_Mahler_pair), sl_Mahler_pair⟩)
    (c_Mahler_pair : PySem.W.codeIn K cd_Mahler_pair "Mahler.pair" = true)
    (k_Mahler_pair : PySem.W.keepIn K (.ref f_Mahler_pair) = true)
    (a_law_begin : PySem.W.nsIn K mainGlobals "_law_begin" = some (some (.ref f_law_begin)))
    (l_law_begin : K.lookup f_law_begin = some ⟨oc_law_begin, od_law_begin, .func (PySem.W.fnOf "_law_begin" "_law_begin" (defArgs s_law_begin) (defBody s_law_begin) (defScope s_law_begin) .none kV_law_begin dc_law_begin pm_law_begin an_law_begin cd_law_begin ct_law_begin), sl_law_begin⟩)
    (c_law_begin : PySem.W.codeIn K cd_law_begin "_law_begin" = true)
    (k_law_begin : PySem.W.keepIn K (.ref f_law_begin) = true)
    (a_law_draw : PySem.W.nsIn K mainGlobals "_law_draw" = some (some (.ref f_law_draw)))
    (l_law_draw : K.lookup f_law_draw = some ⟨oc_law_draw, od_law_draw, .func (PySem.W.fnOf "_law_draw" "_law_draw" (defArgs s_law_draw) (defBody s_law_draw) (defScope s_law_draw) .none kV_law_draw dc_law_draw pm_law_draw an_law_draw cd_law_draw ct_law_draw), sl_law_draw⟩)
    (c_law_draw : PySem.W.codeIn K cd_law_draw "_law_draw" = true)
    (k_law_draw : PySem.W.keepIn K (.ref f_law_draw) = true)
    (a_law_prime : PySem.W.nsIn K mainGlobals "_law_prime" = some (some (.ref f_law_prime)))
    (l_law_prime : K.lookup f_law_prime = some ⟨oc_law_prime, od_law_prime, .func (PySem.W.fnOf "_law_prime" "_law_prime" (defArgs s_law_prime) (defBody s_law_prime) (defScope s_law_prime) .none kV_law_prime dc_law_prime pm_law_prime an_law_prime cd_law_prime ct_law_prime), sl_law_prime⟩)
    (c_law_prime : PySem.W.codeIn K cd_law_prime "_law_prime" = true)
    (k_law_prime : PySem.W.keepIn K (.ref f_law_prime) = true)
    (a_law_power : PySem.W.nsIn K mainGlobals "_law_power" = some (some (.ref f_law_power)))
    (l_law_power : K.lookup f_law_power = some ⟨oc_law_power, od_law_power, .func (PySem.W.fnOf "_law_power" "_law_power" (defArgs s_law_power) (defBody s_law_power) (defScope s_law_power) .none kV_law_power dc_law_power pm_law_power an_law_power cd_law_power ct_law_power), sl_law_power⟩)
    (c_law_power : PySem.W.codeIn K cd_law_power "_law_power" = true)
    (k_law_power : PySem.W.keepIn K (.ref f_law_power) = true)
    (a_law_depth : PySem.W.nsIn K mainGlobals "_law_depth" = some (some (.ref f_law_depth)))
    (l_law_depth : K.lookup f_law_depth = some ⟨oc_law_depth, od_law_depth, .func (PySem.W.fnOf "_law_depth" "_law_depth" (defArgs s_law_depth) (defBody s_law_depth) (defScope s_law_depth) .none kV_law_depth dc_law_depth pm_law_depth an_law_depth cd_law_depth ct_law_depth), sl_law_depth⟩)
    (c_law_depth : PySem.W.codeIn K cd_law_depth "_law_depth" = true)
    (k_law_depth : PySem.W.keepIn K (.ref f_law_depth) = true)
    (a_law_is : PySem.W.nsIn K mainGlobals "_law_is" = some (some (.ref f_law_is)))
    (l_law_is : K.lookup f_law_is = some ⟨oc_law_is, od_law_is, .func (PySem.W.fnOf "_law_is" "_law_is" (defArgs s_law_is) (defBody s_law_is) (defScope s_law_is) .none kV_law_is dc_law_is pm_law_is an_law_is cd_law_is ct_law_is), sl_law_is⟩)
    (c_law_is : PySem.W.codeIn K cd_law_is "_law_is" = true)
    (k_law_is : PySem.W.keepIn K (.ref f_law_is) = true)
    (a_law_number : PySem.W.nsIn K mainGlobals "_law_number" = some (some (.ref f_law_number)))
    (l_law_number : K.lookup f_law_number = some ⟨oc_law_number, od_law_number, .func (PySem.W.fnOf "_law_number" "_law_number" (defArgs s_law_number) (defBody s_law_number) (defScope s_law_number) .none kV_law_number dc_law_number pm_law_number an_law_number cd_law_number ct_law_number), sl_law_number⟩)
    (c_law_number : PySem.W.codeIn K cd_law_number "_law_number" = true)
    (k_law_number : PySem.W.keepIn K (.ref f_law_number) = true)
    (a_law_call : PySem.W.nsIn K mainGlobals "_law_call" = some (some (.ref f_law_call)))
    (l_law_call : K.lookup f_law_call = some ⟨oc_law_call, od_law_call, .func (PySem.W.fnOf "_law_call" "_law_call" (defArgs s_law_call) (defBody s_law_call) (defScope s_law_call) .none kV_law_call dc_law_call pm_law_call an_law_call cd_law_call ct_law_call), sl_law_call⟩)
    (c_law_call : PySem.W.codeIn K cd_law_call "_law_call" = true)
    (k_law_call : PySem.W.keepIn K (.ref f_law_call) = true)
    (a_law_carried : PySem.W.nsIn K mainGlobals "_law_carried" = some (some (.ref f_law_carried)))
    (l_law_carried : K.lookup f_law_carried = some ⟨oc_law_carried, od_law_carried, .func (PySem.W.fnOf "_law_carried" "_law_carried" (defArgs s_law_carried) (defBody s_law_carried) (defScope s_law_carried) .none kV_law_carried dc_law_carried pm_law_carried an_law_carried cd_law_carried ct_law_carried), sl_law_carried⟩)
    (c_law_carried : PySem.W.codeIn K cd_law_carried "_law_carried" = true)
    (k_law_carried : PySem.W.keepIn K (.ref f_law_carried) = true)
    (a_law_summed : PySem.W.nsIn K mainGlobals "_law_summed" = some (some (.ref f_law_summed)))
    (l_law_summed : K.lookup f_law_summed = some ⟨oc_law_summed, od_law_summed, .func (PySem.W.fnOf "_law_summed" "_law_summed" (defArgs s_law_summed) (defBody s_law_summed) (defScope s_law_summed) .none kV_law_summed dc_law_summed pm_law_summed an_law_summed cd_law_summed ct_law_summed), sl_law_summed⟩)
    (c_law_summed : PySem.W.codeIn K cd_law_summed "_law_summed" = true)
    (k_law_summed : PySem.W.keepIn K (.ref f_law_summed) = true)
    (a_law_factorial : PySem.W.nsIn K mainGlobals "_law_factorial" = some (some (.ref f_law_factorial)))
    (l_law_factorial : K.lookup f_law_factorial = some ⟨oc_law_factorial, od_law_factorial, .func (PySem.W.fnOf "_law_factorial" "_law_factorial" (defArgs s_law_factorial) (defBody s_law_factorial) (defScope s_law_factorial) .none kV_law_factorial dc_law_factorial pm_law_factorial an_law_factorial cd_law_factorial ct_law_factorial), sl_law_factorial⟩)
    (c_law_factorial : PySem.W.codeIn K cd_law_factorial "_law_factorial" = true)
    (k_law_factorial : PySem.W.keepIn K (.ref f_law_factorial) = true)
    (a_law_step : PySem.W.nsIn K mainGlobals "_law_step" = some (some (.ref f_law_step)))
    (l_law_step : K.lookup f_law_step = some ⟨oc_law_step, od_law_step, .func (PySem.W.fnOf "_law_step" "_law_step" (defArgs s_law_step) (defBody s_law_step) (defScope s_law_step) .none kV_law_step dc_law_step pm_law_step an_law_step cd_law_step ct_law_step), sl_law_step⟩)
    (c_law_step : PySem.W.codeIn K cd_law_step "_law_step" = true)
    (k_law_step : PySem.W.keepIn K (.ref f_law_step) = true)
    (a_law_choose : PySem.W.nsIn K mainGlobals "_law_choose" = some (some (.ref f_law_choose)))
    (l_law_choose : K.lookup f_law_choose = some ⟨oc_law_choose, od_law_choose, .func (PySem.W.fnOf "_law_choose" "_law_choose" (defArgs s_law_choose) (defBody s_law_choose) (defScope s_law_choose) .none kV_law_choose dc_law_choose pm_law_choose an_law_choose cd_law_choose ct_law_choose), sl_law_choose⟩)
    (c_law_choose : PySem.W.codeIn K cd_law_choose "_law_choose" = true)
    (k_law_choose : PySem.W.keepIn K (.ref f_law_choose) = true)
    (a_law_counted : PySem.W.nsIn K mainGlobals "_law_counted" = some (some (.ref f_law_counted)))
    (l_law_counted : K.lookup f_law_counted = some ⟨oc_law_counted, od_law_counted, .func (PySem.W.fnOf "_law_counted" "_law_counted" (defArgs s_law_counted) (defBody s_law_counted) (defScope s_law_counted) .none kV_law_counted dc_law_counted pm_law_counted an_law_counted cd_law_counted ct_law_counted), sl_law_counted⟩)
    (c_law_counted : PySem.W.codeIn K cd_law_counted "_law_counted" = true)
    (k_law_counted : PySem.W.keepIn K (.ref f_law_counted) = true)
    (a_law_row_told : PySem.W.nsIn K mainGlobals "_law_row_told" = some (some (.ref f_law_row_told)))
    (l_law_row_told : K.lookup f_law_row_told = some ⟨oc_law_row_told, od_law_row_told, .func (PySem.W.fnOf "_law_row_told" "_law_row_told" (defArgs s_law_row_told) (defBody s_law_row_told) (defScope s_law_row_told) .none kV_law_row_told dc_law_row_told pm_law_row_told an_law_row_told cd_law_row_told ct_law_row_told), sl_law_row_told⟩)
    (c_law_row_told : PySem.W.codeIn K cd_law_row_told "_law_row_told" = true)
    (k_law_row_told : PySem.W.keepIn K (.ref f_law_row_told) = true)
    (a_law_refused : PySem.W.nsIn K mainGlobals "_law_refused" = some (some (.ref f_law_refused)))
    (l_law_refused : K.lookup f_law_refused = some ⟨oc_law_refused, od_law_refused, .func (PySem.W.fnOf "_law_refused" "_law_refused" (defArgs s_law_refused) (defBody s_law_refused) (defScope s_law_refused) .none kV_law_refused dc_law_refused pm_law_refused an_law_refused cd_law_refused ct_law_refused), sl_law_refused⟩)
    (c_law_refused : PySem.W.codeIn K cd_law_refused "_law_refused" = true)
    (k_law_refused : PySem.W.keepIn K (.ref f_law_refused) = true)
    (a_law : PySem.W.nsIn K mainGlobals "law" = some (some (.ref f_law)))
    (l_law : K.lookup f_law = some ⟨oc_law, od_law, .func (PySem.W.fnOf "law" "law" (defArgs s_law) (defBody s_law) (defScope s_law) .none kV_law dc_law pm_law an_law cd_law ct_law), sl_law⟩)
    (c_law : PySem.W.codeIn K cd_law "law" = true)
    (k_law : PySem.W.keepIn K (.ref f_law) = true)
    (n_len : PySem.W.nsIn K mainGlobals "len" = some none)
    (n_int : PySem.W.nsIn K mainGlobals "int" = some none)
    (n_bool : PySem.W.nsIn K mainGlobals "bool" = some none)
    (n_tuple : PySem.W.nsIn K mainGlobals "tuple" = some none)
    (n_abs : PySem.W.nsIn K mainGlobals "abs" = some none)
    (n_isinstance : PySem.W.nsIn K mainGlobals "isinstance" = some none)
    (n_all : PySem.W.nsIn K mainGlobals "all" = some none)
    (n_max : PySem.W.nsIn K mainGlobals "max" = some none)
    (n_min : PySem.W.nsIn K mainGlobals "min" = some none)
    (n_range : PySem.W.nsIn K mainGlobals "range" = some none)
    (n_enumerate : PySem.W.nsIn K mainGlobals "enumerate" = some none)
    (n_ValueError : PySem.W.nsIn K mainGlobals "ValueError" = some none)
    (c_MOST_COUNTED : PySem.W.nsIn K mainGlobals "MOST_COUNTED" = some (some (.int 1000000000000000000000000000000000000000000000000000000000000 tk_MOST_COUNTED)))
    (c_MOST_ROW : PySem.W.nsIn K mainGlobals "MOST_ROW" = some (some (.int 30 tk_MOST_ROW)))
    (c_MOST_ENTRY : PySem.W.nsIn K mainGlobals "MOST_ENTRY" = some (some (.int 1000000000000000000000000000000 tk_MOST_ENTRY)))
    (c_MOST_PLACE : PySem.W.nsIn K mainGlobals "MOST_PLACE" = some (some (.int 1000000000000 tk_MOST_PLACE)))
    (aSP : PySem.W.nsIn K mainGlobals "SMALL_PRIMES" = some (some (.ref aS)))
    (lSP : K.lookup aS = some ⟨.type "tuple", dS, .seq itS nS, slS⟩)
    (iSP : PySem.KX.intsOf itS.toList = primesL.map some)
    (zSP : itS.size ≤ 1000)
    (e_PrimedeepError : PySem.W.nsIn K mainGlobals "PrimedeepError" = some (some (.ref C_PrimedeepError)))
    (e_SizeError : PySem.W.nsIn K mainGlobals "SizeError" = some (some (.ref C_SizeError)))
    (e_RangeError : PySem.W.nsIn K mainGlobals "RangeError" = some (some (.ref C_RangeError)))
    (e_PrimeError : PySem.W.nsIn K mainGlobals "PrimeError" = some (some (.ref C_PrimeError)))
    (e_DepthError : PySem.W.nsIn K mainGlobals "DepthError" = some (some (.ref C_DepthError)))
    (e_ZeroError : PySem.W.nsIn K mainGlobals "ZeroError" = some (some (.ref C_ZeroError)))
    (e_MixError : PySem.W.nsIn K mainGlobals "MixError" = some (some (.ref C_MixError)))
    (e_BarError : PySem.W.nsIn K mainGlobals "BarError" = some (some (.ref C_BarError)))
    (e_MonicError : PySem.W.nsIn K mainGlobals "MonicError" = some (some (.ref C_MonicError)))
    (e_RepeatError : PySem.W.nsIn K mainGlobals "RepeatError" = some (some (.ref C_RepeatError)))
    (e_FieldError : PySem.W.nsIn K mainGlobals "FieldError" = some (some (.ref C_FieldError)))
    (e_EditError : PySem.W.nsIn K mainGlobals "EditError" = some (some (.ref C_EditError)))
    (e_TextError : PySem.W.nsIn K mainGlobals "TextError" = some (some (.ref C_TextError)))
    (e_HistoryError : PySem.W.nsIn K mainGlobals "HistoryError" = some (some (.ref C_HistoryError)))
    (tp : PySem.W.nsIn K cStatics "thirdparty.any" = some none)
    (sg : PySem.W.nsIn K mainGlobals "super" = some none)
    (topS_ : (prog.main.scope.names.lookup ("super" : Str)).isSome = false)
    (xc_RangeError : K.lookup C_RangeError = some (PySem.excClassObj nm_RangeError q_RangeError C_RangeError N_RangeError bs_RangeError bm_RangeError true sn_RangeError sub_RangeError ab_RangeError col_RangeError dd_RangeError m0_RangeError m1_RangeError m2_RangeError m3_RangeError m5_RangeError "ValueError.__new__"))
    (xr_RangeError : PySem.HandSPX.refsVE bm_RangeError = true)
    (xs_RangeError : PySem.W.findIn K (.ref C_RangeError) "__setattr__" = some (some (.builtin "object.__setattr__")))
    (xg_RangeError : PySem.W.findIn K (.ref C_RangeError) "__getattribute__" = some (some (.builtin "BaseException.__getattribute__")))
    (xgg_RangeError : PySem.W.findIn K (.ref C_RangeError) "__getattr__" = some (none))
    (xi_RangeError : PySem.W.findIn K (.ref C_RangeError) "__init__" = some (some (.ref I_RangeError)))
    (xt_RangeError : PySem.W.typeIn K (.ref I_RangeError) = some (.type "function"))
    (xk_RangeError : PySem.W.keepIn K (.ref C_RangeError) = true)
    (xe_RangeError : PySem.W.subIn K (.ref C_RangeError) (.type "BaseException") = some true)
    (xv_RangeError : PySem.W.subIn K (.ref C_RangeError) (.type "ValueError") = some true)
    (xy_RangeError : PySem.W.typeIn K (.ref C_RangeError) = some (.type "type"))
    (xh_RangeError : PySem.W.hasDictIn K C_RangeError = true)
    (xm_RangeError : PySem.W.mroIn K C_RangeError (.ref C_RangeError) = some true)
    (xu_RangeError : PySem.W.ks_superIn K C_RangeError C_RangeError "__init__" = some (some (.builtin "ValueError.__init__")))
    (xf_RangeError : K.lookup I_RangeError = some ⟨foc_RangeError, fod_RangeError, .func (PySem.W.ksFn "__init__" "RangeError.__init__" (PySem.KX.args1 "number" ⟨14, 17, 14, 21⟩ ⟨14, 23, 14, 29⟩) [PySem.KX.supS "integer out of bounds" fk_RangeError ⟨15, 8, 15, 13⟩ ⟨15, 8, 15, 15⟩ ⟨15, 8, 15, 24⟩ ⟨15, 25, 15, 48⟩ ⟨15, 8, 15, 49⟩ ⟨15, 8, 15, 49⟩, PySem.KX.fldS "number" ⟨16, 8, 16, 12⟩ ⟨16, 8, 16, 19⟩ ⟨16, 22, 16, 28⟩ ⟨16, 8, 16, 28⟩] (PySem.KX.scope1 "number") .none .none fdoc_RangeError fpm_RangeError fan_RangeError (.ref W_RangeError) fct_RangeError V_RangeError), fsl_RangeError⟩)
    (xd_RangeError : PySem.W.codeIn K (.ref W_RangeError) "RangeError.__init__" = true)
    (xn_RangeError : PySem.W.findIn K (.ref C_RangeError) "number" = some (none))
    (xl_RangeError : K.lookup V_RangeError = some ⟨cl_RangeError, cld_RangeError, .cell (some (.ref C_RangeError)), csl_RangeError⟩)
    (xw_RangeError : K.lookup W_RangeError = some ⟨ccl_RangeError, cdd_RangeError, .fields cv_RangeError, ccs_RangeError⟩)
    (xw2_RangeError : cv_RangeError[2]? = some (.str cf_RangeError tf_RangeError))
    (xw3_RangeError : ((prog.main.file : Str) == cf_RangeError) = true)
    (ic_RangeError : (PySem.W.clsIn K C_RangeError).isSome = true)
    (ih_RangeError : PySem.W.findIn K (.ref C_RangeError) "__class__" = some (some (.builtin "object.__class__")))
    (im_RangeError : PySem.W.mroIn K C_RangeError (.type "object") = some true)
    (ex_RangeError : PySem.W.exmOne K (.ref C_RangeError) (.ref C_PrimedeepError) = some true)
    (kv_RangeError : PySem.W.kitOne K (.ref C_RangeError) (.type "ValueError") = some true)
    (kt_RangeError_SizeError : PySem.W.kitOne K (.ref C_RangeError) (.ref C_SizeError) = some false)
    (kt_RangeError_RangeError : PySem.W.kitOne K (.ref C_RangeError) (.ref C_RangeError) = some true)
    (kt_RangeError_PrimeError : PySem.W.kitOne K (.ref C_RangeError) (.ref C_PrimeError) = some false)
    (kt_RangeError_DepthError : PySem.W.kitOne K (.ref C_RangeError) (.ref C_DepthError) = some false)
    (kt_RangeError_ZeroError : PySem.W.kitOne K (.ref C_RangeError) (.ref C_ZeroError) = some false)
    (kt_RangeError_MixError : PySem.W.kitOne K (.ref C_RangeError) (.ref C_MixError) = some false)
    (kt_RangeError_BarError : PySem.W.kitOne K (.ref C_RangeError) (.ref C_BarError) = some false)
    (kt_RangeError_MonicError : PySem.W.kitOne K (.ref C_RangeError) (.ref C_MonicError) = some false)
    (kt_RangeError_RepeatError : PySem.W.kitOne K (.ref C_RangeError) (.ref C_RepeatError) = some false)
    (kt_RangeError_FieldError : PySem.W.kitOne K (.ref C_RangeError) (.ref C_FieldError) = some false)
    (kt_RangeError_EditError : PySem.W.kitOne K (.ref C_RangeError) (.ref C_EditError) = some false)
    (kt_RangeError_TextError : PySem.W.kitOne K (.ref C_RangeError) (.ref C_TextError) = some false)
    (kt_RangeError_HistoryError : PySem.W.kitOne K (.ref C_RangeError) (.ref C_HistoryError) = some false)
    (xc_PrimeError : K.lookup C_PrimeError = some (PySem.excClassObj nm_PrimeError q_PrimeError C_PrimeError N_PrimeError bs_PrimeError bm_PrimeError true sn_PrimeError sub_PrimeError ab_PrimeError col_PrimeError dd_PrimeError m0_PrimeError m1_PrimeError m2_PrimeError m3_PrimeError m5_PrimeError "ValueError.__new__"))
    (xr_PrimeError : PySem.HandSPX.refsVE bm_PrimeError = true)
    (xs_PrimeError : PySem.W.findIn K (.ref C_PrimeError) "__setattr__" = some (some (.builtin "object.__setattr__")))
    (xg_PrimeError : PySem.W.findIn K (.ref C_PrimeError) "__getattribute__" = some (some (.builtin "BaseException.__getattribute__")))
    (xgg_PrimeError : PySem.W.findIn K (.ref C_PrimeError) "__getattr__" = some (none))
    (xi_PrimeError : PySem.W.findIn K (.ref C_PrimeError) "__init__" = some (some (.ref I_PrimeError)))
    (xt_PrimeError : PySem.W.typeIn K (.ref I_PrimeError) = some (.type "function"))
    (xk_PrimeError : PySem.W.keepIn K (.ref C_PrimeError) = true)
    (xe_PrimeError : PySem.W.subIn K (.ref C_PrimeError) (.type "BaseException") = some true)
    (xv_PrimeError : PySem.W.subIn K (.ref C_PrimeError) (.type "ValueError") = some true)
    (xy_PrimeError : PySem.W.typeIn K (.ref C_PrimeError) = some (.type "type"))
    (xh_PrimeError : PySem.W.hasDictIn K C_PrimeError = true)
    (xm_PrimeError : PySem.W.mroIn K C_PrimeError (.ref C_PrimeError) = some true)
    (xu_PrimeError : PySem.W.ks_superIn K C_PrimeError C_PrimeError "__init__" = some (some (.builtin "ValueError.__init__")))
    (xf_PrimeError : K.lookup I_PrimeError = some ⟨foc_PrimeError, fod_PrimeError, .func (PySem.W.ksFn "__init__" "PrimeError.__init__" (PySem.KX.args1 "number" ⟨19, 17, 19, 21⟩ ⟨19, 23, 19, 29⟩) [PySem.KX.supS "not an allowed prime" fk_PrimeError ⟨20, 8, 20, 13⟩ ⟨20, 8, 20, 15⟩ ⟨20, 8, 20, 24⟩ ⟨20, 25, 20, 47⟩ ⟨20, 8, 20, 48⟩ ⟨20, 8, 20, 48⟩, PySem.KX.fldS "number" ⟨21, 8, 21, 12⟩ ⟨21, 8, 21, 19⟩ ⟨21, 22, 21, 28⟩ ⟨21, 8, 21, 28⟩] (PySem.KX.scope1 "number") .none .none fdoc_PrimeError fpm_PrimeError fan_PrimeError (.ref W_PrimeError) fct_PrimeError V_PrimeError), fsl_PrimeError⟩)
    (xd_PrimeError : PySem.W.codeIn K (.ref W_PrimeError) "PrimeError.__init__" = true)
    (xn_PrimeError : PySem.W.findIn K (.ref C_PrimeError) "number" = some (none))
    (xl_PrimeError : K.lookup V_PrimeError = some ⟨cl_PrimeError, cld_PrimeError, .cell (some (.ref C_PrimeError)), csl_PrimeError⟩)
    (xw_PrimeError : K.lookup W_PrimeError = some ⟨ccl_PrimeError, cdd_PrimeError, .fields cv_PrimeError, ccs_PrimeError⟩)
    (xw2_PrimeError : cv_PrimeError[2]? = some (.str cf_PrimeError tf_PrimeError))
    (xw3_PrimeError : ((prog.main.file : Str) == cf_PrimeError) = true)
    (ic_PrimeError : (PySem.W.clsIn K C_PrimeError).isSome = true)
    (ih_PrimeError : PySem.W.findIn K (.ref C_PrimeError) "__class__" = some (some (.builtin "object.__class__")))
    (im_PrimeError : PySem.W.mroIn K C_PrimeError (.type "object") = some true)
    (ex_PrimeError : PySem.W.exmOne K (.ref C_PrimeError) (.ref C_PrimedeepError) = some true)
    (kv_PrimeError : PySem.W.kitOne K (.ref C_PrimeError) (.type "ValueError") = some true)
    (kt_PrimeError_SizeError : PySem.W.kitOne K (.ref C_PrimeError) (.ref C_SizeError) = some false)
    (kt_PrimeError_RangeError : PySem.W.kitOne K (.ref C_PrimeError) (.ref C_RangeError) = some false)
    (kt_PrimeError_PrimeError : PySem.W.kitOne K (.ref C_PrimeError) (.ref C_PrimeError) = some true)
    (kt_PrimeError_DepthError : PySem.W.kitOne K (.ref C_PrimeError) (.ref C_DepthError) = some false)
    (kt_PrimeError_ZeroError : PySem.W.kitOne K (.ref C_PrimeError) (.ref C_ZeroError) = some false)
    (kt_PrimeError_MixError : PySem.W.kitOne K (.ref C_PrimeError) (.ref C_MixError) = some false)
    (kt_PrimeError_BarError : PySem.W.kitOne K (.ref C_PrimeError) (.ref C_BarError) = some false)
    (kt_PrimeError_MonicError : PySem.W.kitOne K (.ref C_PrimeError) (.ref C_MonicError) = some false)
    (kt_PrimeError_RepeatError : PySem.W.kitOne K (.ref C_PrimeError) (.ref C_RepeatError) = some false)
    (kt_PrimeError_FieldError : PySem.W.kitOne K (.ref C_PrimeError) (.ref C_FieldError) = some false)
    (kt_PrimeError_EditError : PySem.W.kitOne K (.ref C_PrimeError) (.ref C_EditError) = some false)
    (kt_PrimeError_TextError : PySem.W.kitOne K (.ref C_PrimeError) (.ref C_TextError) = some false)
    (kt_PrimeError_HistoryError : PySem.W.kitOne K (.ref C_PrimeError) (.ref C_HistoryError) = some false)
    (icn : PySem.W.specialIn K (.builtin "object.__class__") "__get__" = some (some (.builtin "getset_descriptor.__get__")))
    (ict : PySem.W.takesIn K (.builtin "object.__class__") = some true) :
    ∃ fd : FuncData, (∀ (s : Shared) (v : Value), BindsTo s fd ⟨[v], []⟩ [("script", v)]) ∧ ∀ base : Heap, K.In base → base.Ns mainGlobals mg → FnOk prog w K mg base CX0 8 fa fd ["script"] (sp_law K) := by
  have e := hfa.symm.trans (PySem.W.mg_of X G a_law)
  cases e
  have T : Txt prog K mg ⟨f_look_prime, _, f_look_range, _, f_look_size, _, f_look_list, _, f_look_each, _, f_parted, _, f_int_depth, _, f_summed_digits, _, f_counted_carries, _, f_digit_sum, _, f_carries, _, f_factorial_depth, _, f_choose_depth, _, f_level_of, _, f_row_value, _, f_row_bound, _, f_Mahler_init, _, f_Mahler_value, _, f_Mahler_bound, _, f_Mahler_pair, _, f_law_begin, _, f_law_draw, _, f_law_prime, _, f_law_power, _, f_law_depth, _, f_law_is, _, f_law_number, _, f_law_call, _, f_law_carried, _, f_law_summed, _, f_law_factorial, _, f_law_step, _, f_law_choose, _, f_law_counted, _, f_law_row_told, _, f_law_refused, _, fa, _, aS, CM, pM, C_PrimedeepError, 0, 0, 0, C_SizeError, 0, 0, 0, C_RangeError, I_RangeError, V_RangeError, W_RangeError, C_PrimeError, I_PrimeError, V_PrimeError, W_PrimeError, C_DepthError, 0, 0, 0, C_ZeroError, 0, 0, 0, C_MixError, 0, 0, 0, C_BarError, 0, 0, 0, C_MonicError, 0, 0, 0, C_RepeatError, 0, 0, 0, C_FieldError, 0, 0, 0, C_EditError, 0, 0, 0, C_TextError, 0, 0, 0, C_HistoryError, 0, 0, 0⟩ :=
    { F_look_prime := fun_mk (st := s_look_prime) l_look_prime c_look_prime k_look_prime,
      g_look_prime := PySem.W.mg_of X G a_look_prime,
      F_look_range := fun_mk (st := s_look_range) l_look_range c_look_range k_look_range,
      g_look_range := PySem.W.mg_of X G a_look_range,
      F_look_size := fun_mk (st := s_look_size) l_look_size c_look_size k_look_size,
      g_look_size := PySem.W.mg_of X G a_look_size,
      F_look_list := fun_mk (st := s_look_list) l_look_list c_look_list k_look_list,
      g_look_list := PySem.W.mg_of X G a_look_list,
      F_look_each := fun_mk (st := s_look_each) l_look_each c_look_each k_look_each,
      g_look_each := PySem.W.mg_of X G a_look_each,
      F_parted := fun_mk (st := s_parted) l_parted c_parted k_parted,
      g_parted := PySem.W.mg_of X G a_parted,
      F_int_depth := fun_mk (st := s_int_depth) l_int_depth c_int_depth k_int_depth,
      g_int_depth := PySem.W.mg_of X G a_int_depth,
      F_summed_digits := fun_mk (st := s_summed_digits) l_summed_digits c_summed_digits k_summed_digits,
      g_summed_digits := PySem.W.mg_of X G a_summed_digits,
      F_counted_carries := fun_mk (st := s_counted_carries) l_counted_carries c_counted_carries k_counted_carries,
      g_counted_carries := PySem.W.mg_of X G a_counted_carries,
      F_digit_sum := fun_mk (st := s_digit_sum) l_digit_sum c_digit_sum k_digit_sum,
      g_digit_sum := PySem.W.mg_of X G a_digit_sum,
      F_carries := fun_mk (st := s_carries) l_carries c_carries k_carries,
      g_carries := PySem.W.mg_of X G a_carries,
      F_factorial_depth := fun_mk (st := s_factorial_depth) l_factorial_depth c_factorial_depth k_factorial_depth,
      g_factorial_depth := PySem.W.mg_of X G a_factorial_depth,
      F_choose_depth := fun_mk (st := s_choose_depth) l_choose_depth c_choose_depth k_choose_depth,
      g_choose_depth := PySem.W.mg_of X G a_choose_depth,
      F_level_of := fun_mk (st := s_level_of) l_level_of c_level_of k_level_of,
      g_level_of := PySem.W.mg_of X G a_level_of,
      F_row_value := fun_mk (st := s_row_value) l_row_value c_row_value k_row_value,
      g_row_value := PySem.W.mg_of X G a_row_value,
      F_row_bound := fun_mk (st := s_row_bound) l_row_bound c_row_bound k_row_bound,
      g_row_bound := PySem.W.mg_of X G a_row_bound,
      F_Mahler_init := fun_mk (st := s_Mahler_init) l_Mahler_init c_Mahler_init k_Mahler_init,
      F_Mahler_value := fun_mk (st := s_Mahler_value) l_Mahler_value c_Mahler_value k_Mahler_value,
      F_Mahler_bound := fun_mk (st := s_Mahler_bound) l_Mahler_bound c_Mahler_bound k_Mahler_bound,
      F_Mahler_pair := fun_mk (st := s_Mahler_pair) l_Mahler_pair c_Mahler_pair k_Mahler_pair,
      F_law_begin := fun_mk (st := s_law_begin) l_law_begin c_law_begin k_law_begin,
      g_law_begin := PySem.W.mg_of X G a_law_begin,
      F_law_draw := fun_mk (st := s_law_draw) l_law_draw c_law_draw k_law_draw,
      g_law_draw := PySem.W.mg_of X G a_law_draw,
      F_law_prime := fun_mk (st := s_law_prime) l_law_prime c_law_prime k_law_prime,
      g_law_prime := PySem.W.mg_of X G a_law_prime,
      F_law_power := fun_mk (st := s_law_power) l_law_power c_law_power k_law_power,
      g_law_power := PySem.W.mg_of X G a_law_power,
      F_law_depth := fun_mk (st := s_law_depth) l_law_depth c_law_depth k_law_depth,
      g_law_depth := PySem.W.mg_of X G a_law_depth,
      F_law_is := fun_mk (st := s_law_is) l_law_is c_law_is k_law_is,
      g_law_is := PySem.W.mg_of X G a_law_is,
      F_law_number := fun_mk (st := s_law_number) l_law_number c_law_number k_law_number,
      g_law_number := PySem.W.mg_of X G a_law_number,
      F_law_call := fun_mk (st := s_law_call) l_law_call c_law_call k_law_call,
      g_law_call := PySem.W.mg_of X G a_law_call,
      F_law_carried := fun_mk (st := s_law_carried) l_law_carried c_law_carried k_law_carried,
      g_law_carried := PySem.W.mg_of X G a_law_carried,
      F_law_summed := fun_mk (st := s_law_summed) l_law_summed c_law_summed k_law_summed,
      g_law_summed := PySem.W.mg_of X G a_law_summed,
      F_law_factorial := fun_mk (st := s_law_factorial) l_law_factorial c_law_factorial k_law_factorial,
      g_law_factorial := PySem.W.mg_of X G a_law_factorial,
      F_law_step := fun_mk (st := s_law_step) l_law_step c_law_step k_law_step,
      g_law_step := PySem.W.mg_of X G a_law_step,
      F_law_choose := fun_mk (st := s_law_choose) l_law_choose c_law_choose k_law_choose,
      g_law_choose := PySem.W.mg_of X G a_law_choose,
      F_law_counted := fun_mk (st := s_law_counted) l_law_counted c_law_counted k_law_counted,
      g_law_counted := PySem.W.mg_of X G a_law_counted,
      F_law_row_told := fun_mk (st := s_law_row_told) l_law_row_told c_law_row_told k_law_row_told,
      g_law_row_told := PySem.W.mg_of X G a_law_row_told,
      F_law_refused := fun_mk (st := s_law_refused) l_law_refused c_law_refused k_law_refused,
      g_law_refused := PySem.W.mg_of X G a_law_refused,
      F_law := fun_mk (st := s_law) l_law c_law k_law,
      g_law := PySem.W.mg_of X G a_law,
      n_len := PySem.W.mg_none_of X G n_len,
      n_int := PySem.W.mg_none_of X G n_int,
      n_bool := PySem.W.mg_none_of X G n_bool,
      n_tuple := PySem.W.mg_none_of X G n_tuple,
      n_abs := PySem.W.mg_none_of X G n_abs,
      n_isinstance := PySem.W.mg_none_of X G n_isinstance,
      n_all := PySem.W.mg_none_of X G n_all,
      n_max := PySem.W.mg_none_of X G n_max,
      n_min := PySem.W.mg_none_of X G n_min,
      n_range := PySem.W.mg_none_of X G n_range,
      n_enumerate := PySem.W.mg_none_of X G n_enumerate,
      n_ValueError := PySem.W.mg_none_of X G n_ValueError,
      c_MOST_COUNTED := ⟨_, PySem.W.mg_of X G c_MOST_COUNTED⟩,
      c_MOST_ROW := ⟨_, PySem.W.mg_of X G c_MOST_ROW⟩,
      c_MOST_ENTRY := ⟨_, PySem.W.mg_of X G c_MOST_ENTRY⟩,
      c_MOST_PLACE := ⟨_, PySem.W.mg_of X G c_MOST_PLACE⟩,
      c_SMALL_PRIMES := PySem.W.mg_of X G aSP,
      tSP := ⟨_, _, _, _, lSP, by rw [sizeLine_eq]; omega, PySem.KX.vals_of_ints iSP⟩,
      g_PrimedeepError := PySem.W.mg_of X G e_PrimedeepError,
      g_SizeError := PySem.W.mg_of X G e_SizeError,
      g_RangeError := PySem.W.mg_of X G e_RangeError,
      g_PrimeError := PySem.W.mg_of X G e_PrimeError,
      g_DepthError := PySem.W.mg_of X G e_DepthError,
      g_ZeroError := PySem.W.mg_of X G e_ZeroError,
      g_MixError := PySem.W.mg_of X G e_MixError,
      g_BarError := PySem.W.mg_of X G e_BarError,
      g_MonicError := PySem.W.mg_of X G e_MonicError,
      g_RepeatError := PySem.W.mg_of X G e_RepeatError,
      g_FieldError := PySem.W.mg_of X G e_FieldError,
      g_EditError := PySem.W.mg_of X G e_EditError,
      g_TextError := PySem.W.mg_of X G e_TextError,
      g_HistoryError := PySem.W.mg_of X G e_HistoryError,
      e_RangeError := PySem.KX.err1_mk X G e_RangeError xc_RangeError xr_RangeError xs_RangeError xg_RangeError xgg_RangeError xi_RangeError xt_RangeError xk_RangeError xe_RangeError xv_RangeError xy_RangeError xh_RangeError xm_RangeError xu_RangeError tp sg xl_RangeError xw_RangeError xw2_RangeError xw3_RangeError topS_ xn_RangeError (by decide) xf_RangeError xd_RangeError (fun _ _ => ⟨_, rfl⟩),
      ei_RangeError := ⟨ic_RangeError, xg_RangeError, xgg_RangeError, xe_RangeError, ih_RangeError, icn, ict, im_RangeError⟩,
      ex_RangeError := ex_RangeError,
      kv_RangeError := kv_RangeError,
      kt_RangeError_SizeError := kt_RangeError_SizeError,
      kt_RangeError_RangeError := kt_RangeError_RangeError,
      kt_RangeError_PrimeError := kt_RangeError_PrimeError,
      kt_RangeError_DepthError := kt_RangeError_DepthError,
      kt_RangeError_ZeroError := kt_RangeError_ZeroError,
      kt_RangeError_MixError := kt_RangeError_MixError,
      kt_RangeError_BarError := kt_RangeError_BarError,
      kt_RangeError_MonicError := kt_RangeError_MonicError,
      kt_RangeError_RepeatError := kt_RangeError_RepeatError,
      kt_RangeError_FieldError := kt_RangeError_FieldError,
      kt_RangeError_EditError := kt_RangeError_EditError,
      kt_RangeError_TextError := kt_RangeError_TextError,
      kt_RangeError_HistoryError := kt_RangeError_HistoryError,
      e_PrimeError := PySem.KX.err1_mk X G e_PrimeError xc_PrimeError xr_PrimeError xs_PrimeError xg_PrimeError xgg_PrimeError xi_PrimeError xt_PrimeError xk_PrimeError xe_PrimeError xv_PrimeError xy_PrimeError xh_PrimeError xm_PrimeError xu_PrimeError tp sg xl_PrimeError xw_PrimeError xw2_PrimeError xw3_PrimeError topS_ xn_PrimeError (by decide) xf_PrimeError xd_PrimeError (fun _ _ => ⟨_, rfl⟩),
      ei_PrimeError := ⟨ic_PrimeError, xg_PrimeError, xgg_PrimeError, xe_PrimeError, ih_PrimeError, icn, ict, im_PrimeError⟩,
      ex_PrimeError := ex_PrimeError,
      kv_PrimeError := kv_PrimeError,
      kt_PrimeError_SizeError := kt_PrimeError_SizeError,
      kt_PrimeError_RangeError := kt_PrimeError_RangeError,
      kt_PrimeError_PrimeError := kt_PrimeError_PrimeError,
      kt_PrimeError_DepthError := kt_PrimeError_DepthError,
      kt_PrimeError_ZeroError := kt_PrimeError_ZeroError,
      kt_PrimeError_MixError := kt_PrimeError_MixError,
      kt_PrimeError_BarError := kt_PrimeError_BarError,
      kt_PrimeError_MonicError := kt_PrimeError_MonicError,
      kt_PrimeError_RepeatError := kt_PrimeError_RepeatError,
      kt_PrimeError_FieldError := kt_PrimeError_FieldError,
      kt_PrimeError_EditError := kt_PrimeError_EditError,
      kt_PrimeError_TextError := kt_PrimeError_TextError,
      kt_PrimeError_HistoryError := kt_PrimeError_HistoryError,
      cl_Mahler := ⟨pgM, hdM, poM, saM⟩,
      mk_Mahler := ⟨mkM, at_Mahler_init, fn_Mahler_init, kM⟩,
      g_Mahler := PySem.W.mg_of X G aM,
      m_Mahler_value := ⟨at_Mahler_value, fn_Mahler_value, k_Mahler_value⟩,
      m_Mahler_pair := ⟨at_Mahler_pair, fn_Mahler_pair, k_Mahler_pair⟩,
      p_Mahler_bound := ⟨at_Mahler_bound, ge_Mahler_bound, ta_Mahler_bound, ⟨_, re_Mahler_bound⟩⟩,
      na_Mahler_p := nap,
      na_Mahler_row := nar }
  exact ⟨_, fun s v => by obtain ⟨_, _, kV, doc, pm, an, cdv, ct, _, e, _⟩ := T.F_law.ex; exact .of_eq rfl, fun base _ _ => ok_law T⟩
end K7
open PySem PySem.W PyProof.Rows
theorem PySem.Challenge.cw_primedeep_k77_choices_by_carries_holds : PySem.Challenge.rw_primedeep_k77_choices_by_carries.Holds := by
  w_on; o_law; k_head; (case hw => w_witness2)
  k_fill
  refine L2.walk_of (l := PySem.Challenge.rw_primedeep_k77_choices_by_carries) (n := 63) (k := 8) (x := "script") (CX := fun _ => L2.CX0) (sp := fun w => K7.sp_law _) rfl (by decide) rfl ⟨rfl, by decide, by decide⟩ (fun w h Y => PySem.W.kIn_of Y) ?F (fun _ _ a ns hl _ hS => ⟨a, ns, rfl, hS, fun _ => rfl⟩) (fun _ _ _ _ _ h => h)
  case F =>
    intro w mg fa h KX G hmg
    refine' K7.all_mk KX G hmg ?aM ?pgM ?hdM ?poM ?saM ?mkM ?kM ?nap ?nar ?a_look_prime ?l_look_prime ?c_look_prime ?k_look_prime ?a_look_range ?l_look_range ?c_look_range ?k_look_range ?a_look_size ?l_look_size ?c_look_size ?k_look_size ?a_look_list ?l_look_list ?c_look_list ?k_look_list ?a_look_each ?l_look_each ?c_look_each ?k_look_each ?a_parted ?l_parted ?c_parted ?k_parted ?a_int_depth ?l_int_depth ?c_int_depth ?k_int_depth ?a_summed_digits ?l_summed_digits ?c_summed_digits ?k_summed_digits ?a_counted_carries ?l_counted_carries ?c_counted_carries ?k_counted_carries ?a_digit_sum ?l_digit_sum ?c_digit_sum ?k_digit_sum ?a_carries ?l_carries ?c_carries ?k_carries ?a_factorial_depth ?l_factorial_depth ?c_factorial_depth ?k_factorial_depth ?a_choose_depth ?l_choose_depth ?c_choose_depth ?k_choose_depth ?a_level_of ?l_level_of ?c_level_of ?k_level_of ?a_row_value ?l_row_value ?c_row_value ?k_row_value ?a_row_bound ?l_row_bound ?c_row_bound ?k_row_bound ?at_Mahler_init ?fn_Mahler_init ?l_Mahler_init ?c_Mahler_init ?k_Mahler_init ?at_Mahler_value ?fn_Mahler_value ?l_Mahler_value ?c_Mahler_value ?k_Mahler_value ?at_Mahler_bound ?ge_Mahler_bound ?ta_Mahler_bound ?re_Mahler_bound ?l_Mahler_bound ?c_Mahler_bound ?k_Mahler_bound ?at_Mahler_pair ?fn_Mahler_pair ?l_Mahler_pair ?c_Mahler_pair ?k_Mahler_pair ?a_law_begin ?l_law_begin ?c_law_begin ?k_law_begin ?a_law_draw ?l_law_draw ?c_law_draw ?k_law_draw ?a_law_prime ?l_law_prime ?c_law_prime ?k_law_prime ?a_law_power ?l_law_power ?c_law_power ?k_law_power ?a_law_depth ?l_law_depth ?c_law_depth ?k_law_depth ?a_law_is ?l_law_is ?c_law_is ?k_law_is ?a_law_number ?l_law_number ?c_law_number ?k_law_number ?a_law_call ?l_law_call ?c_law_call ?k_law_call ?a_law_carried ?l_law_carried ?c_law_carried ?k_law_carried ?a_law_summed ?l_law_summed ?c_law_summed ?k_law_summed ?a_law_factorial ?l_law_factorial ?c_law_factorial ?k_law_factorial ?a_law_step ?l_law_step ?c_law_step ?k_law_step ?a_law_choose ?l_law_choose ?c_law_choose ?k_law_choose ?a_law_counted ?l_law_counted ?c_law_counted ?k_law_counted ?a_law_row_told ?l_law_row_told ?c_law_row_told ?k_law_row_told ?a_law_refused ?l_law_refused ?c_law_refused ?k_law_refused ?a_law ?l_law ?c_law ?k_law ?n_len ?n_int ?n_bool ?n_tuple ?n_abs ?n_isinstance ?n_all ?n_max ?n_min ?n_range ?n_enumerate ?n_ValueError ?c_MOST_COUNTED ?c_MOST_ROW ?c_MOST_ENTRY ?c_MOST_PLACE ?aSP ?lSP ?iSP ?zSP ?e_PrimedeepError ?e_SizeError ?e_RangeError ?e_PrimeError ?e_DepthError ?e_ZeroError ?e_MixError ?e_BarError ?e_MonicError ?e_RepeatError ?e_FieldError ?e_EditError ?e_TextError ?e_HistoryError ?tp ?sg ?topS_ ?xc_RangeError ?xr_RangeError ?xs_RangeError ?xg_RangeError ?xgg_RangeError ?xi_RangeError ?xt_RangeError ?xk_RangeError ?xe_RangeError ?xv_RangeError ?xy_RangeError ?xh_RangeError ?xm_RangeError ?xu_RangeError ?xf_RangeError ?xd_RangeError ?xn_RangeError ?xl_RangeError ?xw_RangeError ?xw2_RangeError ?xw3_RangeError ?ic_RangeError ?ih_RangeError ?im_RangeError ?ex_RangeError ?kv_RangeError ?kt_RangeError_SizeError ?kt_RangeError_RangeError ?kt_RangeError_PrimeError ?kt_RangeError_DepthError ?kt_RangeError_ZeroError ?kt_RangeError_MixError ?kt_RangeError_BarError ?kt_RangeError_MonicError ?kt_RangeError_RepeatError ?kt_RangeError_FieldError ?kt_RangeError_EditError ?kt_RangeError_TextError ?kt_RangeError_HistoryError ?xc_PrimeError ?xr_PrimeError ?xs_PrimeError ?xg_PrimeError ?xgg_PrimeError ?xi_PrimeError ?xt_PrimeError ?xk_PrimeError ?xe_PrimeError ?xv_PrimeError ?xy_PrimeError ?xh_PrimeError ?xm_PrimeError ?xu_PrimeError ?xf_PrimeError ?xd_PrimeError ?xn_PrimeError ?xl_PrimeError ?xw_PrimeError ?xw2_PrimeError ?xw3_PrimeError ?ic_PrimeError ?ih_PrimeError ?im_PrimeError ?ex_PrimeError ?kv_PrimeError ?kt_PrimeError_SizeError ?kt_PrimeError_RangeError ?kt_PrimeError_PrimeError ?kt_PrimeError_DepthError ?kt_PrimeError_ZeroError ?kt_PrimeError_MixError ?kt_PrimeError_BarError ?kt_PrimeError_MonicError ?kt_PrimeError_RepeatError ?kt_PrimeError_FieldError ?kt_PrimeError_EditError ?kt_PrimeError_TextError ?kt_PrimeError_HistoryError ?icn ?ict
    (case aM => k_is)
    (case pgM => k_is)
    (case hdM => k_is)
    (case poM => k_is)
    (case saM => k_is)
    (case mkM => k_is)
    (case kM => k_is)
    (case nap => k_is)
    (case nar => k_is)
    (case a_look_prime => k_is)
    (case l_look_prime => k_is)
    (case c_look_prime => k_is)
    (case k_look_prime => k_is)
    (case a_look_range => k_is)
    (case l_look_range => k_is)
    (case c_look_range => k_is)
    (case k_look_range => k_is)
    (case a_look_size => k_is)
    (case l_look_size => k_is)
    (case c_look_size => k_is)
    (case k_look_size => k_is)
    (case a_look_list => k_is)
    (case l_look_list => k_is)
    (case c_look_list => k_is)
    (case k_look_list => k_is)
    (case a_look_each => k_is)
    (case l_look_each => k_is)
    (case c_look_each => k_is)
    (case k_look_each => k_is)
    (case a_parted => k_is)
    (case l_parted => k_is)
    (case c_parted => k_is)
    (case k_parted => k_is)
    (case a_int_depth => k_is)
    (case l_int_depth => k_is)
    (case c_int_depth => k_is)
    (case k_int_depth => k_is)
    (case a_summed_digits => k_is)
    (case l_summed_digits => k_is)
    (case c_summed_digits => k_is)
    (case k_summed_digits => k_is)
    (case a_counted_carries => k_is)
    (case l_counted_carries => k_is)
    (case c_counted_carries => k_is)
    (case k_counted_carries => k_is)
    (case a_digit_sum => k_is)
    (case l_digit_sum => k_is)
    (case c_digit_sum => k_is)
    (case k_digit_sum => k_is)
    (case a_carries => k_is)
    (case l_carries => k_is)
    (case c_carries => k_is)
    (case k_carries => k_is)
    (case a_factorial_depth => k_is)
    (case l_factorial_depth => k_is)
    (case c_factorial_depth => k_is)
    (case k_factorial_depth => k_is)
    (case a_choose_depth => k_is)
    (case l_choose_depth => k_is)
    (case c_choose_depth => k_is)
    (case k_choose_depth => k_is)
    (case a_level_of => k_is)
    (case l_level_of => k_is)
    (case c_level_of => k_is)
    (case k_level_of => k_is)
    (case a_row_value => k_is)
    (case l_row_value => k_is)
    (case c_row_value => k_is)
    (case k_row_value => k_is)
    (case a_row_bound => k_is)
    (case l_row_bound => k_is)
    (case c_row_bound => k_is)
    (case k_row_bound => k_is)
    (case at_Mahler_init => k_is)
    (case fn_Mahler_init => k_is)
    (case l_Mahler_init => k_is)
    (case c_Mahler_init => k_is)
    (case k_Mahler_init => k_is)
    (case at_Mahler_value => k_is)
    (case fn_Mahler_value => k_is)
    (case l_Mahler_value => k_is)
    (case c_Mahler_value => k_is)
    (case k_Mahler_value => k_is)
    (case at_Mahler_bound => k_is)
    (case ge_Mahler_bound => k_is)
    (case ta_Mahler_bound => k_is)
    (case re_Mahler_bound => k_is)
    (case l_Mahler_bound => k_is)
    (case c_Mahler_bound => k_is)
    (case k_Mahler_bound => k_is)
    (case at_Mahler_pair => k_is)
    (case fn_Mahler_pair => k_is)
    (case l_Mahler_pair => k_is)
    (case c_Mahler_pair => k_is)
    (case k_Mahler_pair => k_is)
    (case a_law_begin => k_is)
    (case l_law_begin => k_is)
    (case c_law_begin => k_is)
    (case k_law_begin => k_is)
    (case a_law_draw => k_is)
    (case l_law_draw => k_is)
    (case c_law_draw => k_is)
    (case k_law_draw => k_is)
    (case a_law_prime => k_is)
    (case l_law_prime => k_is)
    (case c_law_prime => k_is)
    (case k_law_prime => k_is)
    (case a_law_power => k_is)
    (case l_law_power => k_is)
    (case c_law_power => k_is)
    (case k_law_power => k_is)
    (case a_law_depth => k_is)
    (case l_law_depth => k_is)
    (case c_law_depth => k_is)
    (case k_law_depth => k_is)
    (case a_law_is => k_is)
    (case l_law_is => k_is)
    (case c_law_is => k_is)
    (case k_law_is => k_is)
    (case a_law_number => k_is)
    (case l_law_number => k_is)
    (case c_law_number => k_is)
    (case k_law_number => k_is)
    (case a_law_call => k_is)
    (case l_law_call => k_is)
    (case c_law_call => k_is)
    (case k_law_call => k_is)
    (case a_law_carried => k_is)
    (case l_law_carried => k_is)
    (case c_law_carried => k_is)
    (case k_law_carried => k_is)
    (case a_law_summed => k_is)
    (case l_law_summed => k_is)
    (case c_law_summed => k_is)
    (case k_law_summed => k_is)
    (case a_law_factorial => k_is)
    (case l_law_factorial => k_is)
    (case c_law_factorial => k_is)
    (case k_law_factorial => k_is)
    (case a_law_step => k_is)
    (case l_law_step => k_is)
    (case c_law_step => k_is)
    (case k_law_step => k_is)
    (case a_law_choose => k_is)
    (case l_law_choose => k_is)
    (case c_law_choose => k_is)
    (case k_law_choose => k_is)
    (case a_law_counted => k_is)
    (case l_law_counted => k_is)
    (case c_law_counted => k_is)
    (case k_law_counted => k_is)
    (case a_law_row_told => k_is)
    (case l_law_row_told => k_is)
    (case c_law_row_told => k_is)
    (case k_law_row_told => k_is)
    (case a_law_refused => k_is)
    (case l_law_refused => k_is)
    (case c_law_refused => k_is)
    (case k_law_refused => k_is)
    (case a_law => k_is)
    (case l_law => k_is)
    (case c_law => k_is)
    (case k_law => k_is)
    (case n_len => k_is)
    (case n_int => k_is)
    (case n_bool => k_is)
    (case n_tuple => k_is)
    (case n_abs => k_is)
    (case n_isinstance => k_is)
    (case n_all => k_is)
    (case n_max => k_is)
    (case n_min => k_is)
    (case n_range => k_is)
    (case n_enumerate => k_is)
    (case n_ValueError => k_is)
    (case c_MOST_COUNTED => k_is)
    (case c_MOST_ROW => k_is)
    (case c_MOST_ENTRY => k_is)
    (case c_MOST_PLACE => k_is)
    (case aSP => k_is)
    (case lSP => k_is)
    (case iSP => rfl)
    (case zSP => decide +kernel)
    (case e_PrimedeepError => k_is)
    (case e_SizeError => k_is)
    (case e_RangeError => k_is)
    (case e_PrimeError => k_is)
    (case e_DepthError => k_is)
    (case e_ZeroError => k_is)
    (case e_MixError => k_is)
    (case e_BarError => k_is)
    (case e_MonicError => k_is)
    (case e_RepeatError => k_is)
    (case e_FieldError => k_is)
    (case e_EditError => k_is)
    (case e_TextError => k_is)
    (case e_HistoryError => k_is)
    (case tp => k_is)
    (case sg => k_is)
    (case topS_ => kernel_rfl)
    (case xc_RangeError => k_is)
    (case xr_RangeError => decide +kernel)
    (case xs_RangeError => k_is)
    (case xg_RangeError => k_is)
    (case xgg_RangeError => k_is)
    (case xi_RangeError => k_is)
    (case xt_RangeError => k_is)
    (case xk_RangeError => k_is)
    (case xe_RangeError => k_is)
    (case xv_RangeError => k_is)
    (case xy_RangeError => k_is)
    (case xh_RangeError => k_is)
    (case xm_RangeError => k_is)
    (case xu_RangeError => kernel_rfl)
    (case xf_RangeError => k_is)
    (case xd_RangeError => k_is)
    (case xn_RangeError => k_is)
    (case xl_RangeError => k_is)
    (case xw_RangeError => k_is)
    (case xw2_RangeError => rfl)
    (case xw3_RangeError => kernel_rfl)
    (case ic_RangeError => kernel_rfl)
    (case ih_RangeError => k_is)
    (case im_RangeError => k_is)
    (case ex_RangeError => kernel_rfl)
    (case kv_RangeError => kernel_rfl)
    (case kt_RangeError_SizeError => kernel_rfl)
    (case kt_RangeError_RangeError => kernel_rfl)
    (case kt_RangeError_PrimeError => kernel_rfl)
    (case kt_RangeError_DepthError => kernel_rfl)
    (case kt_RangeError_ZeroError => kernel_rfl)
    (case kt_RangeError_MixError => kernel_rfl)
    (case kt_RangeError_BarError => kernel_rfl)
    (case kt_RangeError_MonicError => kernel_rfl)
    (case kt_RangeError_RepeatError => kernel_rfl)
    (case kt_RangeError_FieldError => kernel_rfl)
    (case kt_RangeError_EditError => kernel_rfl)
    (case kt_RangeError_TextError => kernel_rfl)
    (case kt_RangeError_HistoryError => kernel_rfl)
    (case xc_PrimeError => k_is)
    (case xr_PrimeError => decide +kernel)
    (case xs_PrimeError => k_is)
    (case xg_PrimeError => k_is)
    (case xgg_PrimeError => k_is)
    (case xi_PrimeError => k_is)
    (case xt_PrimeError => k_is)
    (case xk_PrimeError => k_is)
    (case xe_PrimeError => k_is)
    (case xv_PrimeError => k_is)
    (case xy_PrimeError => k_is)
    (case xh_PrimeError => k_is)
    (case xm_PrimeError => k_is)
    (case xu_PrimeError => kernel_rfl)
    (case xf_PrimeError => k_is)
    (case xd_PrimeError => k_is)
    (case xn_PrimeError => k_is)
    (case xl_PrimeError => k_is)
    (case xw_PrimeError => k_is)
    (case xw2_PrimeError => rfl)
    (case xw3_PrimeError => kernel_rfl)
    (case ic_PrimeError => kernel_rfl)
    (case ih_PrimeError => k_is)
    (case im_PrimeError => k_is)
    (case ex_PrimeError => kernel_rfl)
    (case kv_PrimeError => kernel_rfl)
    (case kt_PrimeError_SizeError => kernel_rfl)
    (case kt_PrimeError_RangeError => kernel_rfl)
    (case kt_PrimeError_PrimeError => kernel_rfl)
    (case kt_PrimeError_DepthError => kernel_rfl)
    (case kt_PrimeError_ZeroError => kernel_rfl)
    (case kt_PrimeError_MixError => kernel_rfl)
    (case kt_PrimeError_BarError => kernel_rfl)
    (case kt_PrimeError_MonicError => kernel_rfl)
    (case kt_PrimeError_RepeatError => kernel_rfl)
    (case kt_PrimeError_FieldError => kernel_rfl)
    (case kt_PrimeError_EditError => kernel_rfl)
    (case kt_PrimeError_TextError => kernel_rfl)
    (case kt_PrimeError_HistoryError => kernel_rfl)
    (case icn => k_is)
    (case ict => k_is)
