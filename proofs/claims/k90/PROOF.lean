import PyProof.Rows.All
import Wide.All
import OpenK.AllK
import Wide.FinOn
import PyProof.EqAt
import PyProof.EqKinds
import PyProof.TupleCall
import HandS.ExcCtx
import KE.KExcSuper
import KE.KExcIs
import HandS.IsInst
import HandS.ForMost
import HandS.ForExc
import HandS.Evl
import HandS.Wide
import HandS.WideBits
import HandS.Property
import HandS.Walk
import KE.GoesEnum
import KE.GoesMore
import HandS.SetFor
import HandS.HotCalls
import HandS.ExcInitHot
import KE.KEqDict
import PySem.Challenge.RW_primedeep_k90_whole_conic_places
set_option Elab.async false
set_option linter.all false
set_option maxRecDepth 100000
set_option maxHeartbeats 0
set_option exponentiation.threshold 256
namespace PySem
namespace KX
open PySem.W PySem.Calls PyProof.Rows PySem.HandSPX
def supE (msg : Str) (k : Nat) (p0 p1 p2 p3 p4 : Pos) : Expr := .Call (.Attribute (.Call (.Name "super" p0) [] [] p1) "__init__" p2) [.Constant (.str msg) k p3] [] p4
def SupEv (env : Env) (msg : Str) (k : Nat) (p0 p1 p2 p3 p4 : Pos) : Prop := ∃ pl : Sem Bool, eval (supE msg k p0 p1 p2 p3 p4) env = (do
      let ov ← attributeBase (.Call (.Name "super" p0) [] [] p1) "__init__" env (eval (.Call (.Name "super" p0) [] [] p1) env)
      standAt p2.atName
      let (f, first) ← holding [ov] (getMethod ov "__init__" pl)
      callWith p4 f first (backTo p4 (starEach [.Constant (.str msg) k p3] env)) [])
def supS (msg : Str) (k : Nat) (p0 p1 p2 p3 p4 p5 : Pos) : Stmt :=
  .Expr (.Call (.Attribute (.Call (.Name "super" p0) [] [] p1) "__init__" p2) [.Constant (.str msg) k p3] [] p4) p5
def fldS (f : Str) (p0 p1 p2 p3 : Pos) : Stmt := .Assign [.Attribute (.Name "self" p0) f p1] (.Name f p2) p3
def args0 (p1 : Pos) : Arguments := { posonlyargs := [], args := [{ arg := "self", annotation := none, pos := p1 }], vararg := none, kwonlyargs := [], kw_defaults := [], kwarg := none, defaults := [] }
def args1 (f : Str) (p1 p2 : Pos) : Arguments := { posonlyargs := [], args := [{ arg := "self", annotation := none, pos := p1 }, { arg := f, annotation := none, pos := p2 }], vararg := none, kwonlyargs := [], kw_defaults := [], kwarg := none, defaults := [] }
def scope0 : Scope := { kind := .function, names := [(PySem.Str.ofString "self", .local), (PySem.Str.ofString "__class__", .free), (PySem.Str.ofString "super", .globalImplicit)], isGenerator := false, isCoroutine := false, more := [] }
def scope1 (f : Str) : Scope := { kind := .function, names := [(PySem.Str.ofString "self", .local), (f, .local), (PySem.Str.ofString "__class__", .free), (PySem.Str.ofString "super", .globalImplicit)], isGenerator := false, isCoroutine := false, more := [] }
structure ErrC (prog : Program) (K : Frag) (mg : Str → Option Value) (nm : Str) (C fI cc cda : Addr) : Prop where
  gC : mg nm = some (.ref C)
  cls : ∃ nm q N bs bm sn sub ab col dd k0 k1 k2 k3 k5, K.lookup C = some (excClassObj nm q C N bs bm true sn sub ab col dd k0 k1 k2 k3 k5 "ValueError.__new__") ∧ refsVE bm = true
  sa : findIn K (.ref C) "__setattr__" = some (some (.builtin "object.__setattr__"))
  ga : findIn K (.ref C) "__getattribute__" = some (some (.builtin "BaseException.__getattribute__"))
  gg : findIn K (.ref C) "__getattr__" = some none
  iC : findIn K (.ref C) "__init__" = some (some (.ref fI))
  tC : typeIn K (.ref fI) = some (.type "function")
  kC : keepIn K (.ref C) = true
  exC : subIn K (.ref C) (.type "BaseException") = some true
  exV : subIn K (.ref C) (.type "ValueError") = some true
  tyC : typeIn K (.ref C) = some (.type "type")
  hdC : hasDictIn K C = true
  mC : mroIn K C (.ref C) = some true
  sup : ks_superIn K C C "__init__" = some (some (.builtin "ValueError.__init__"))
  tp : nsIn K cStatics "thirdparty.any" = some none
  sg : mg "super" = none
  cell : ∃ cl cld csl, K.lookup cc = some ⟨cl, cld, .cell (some (.ref C)), csl⟩
  code : ∃ ccl cdd vs ccs file tf, K.lookup cda = some ⟨ccl, cdd, .fields vs, ccs⟩ ∧ vs[2]? = some (.str file tf) ∧ ((prog.main.file : Str) == file) = true
  top : (prog.main.scope.names.lookup ("super" : Str)).isSome = false
structure Err1 (prog : Program) (K : Frag) (mg : Str → Option Value) (nm f : Str) (C fI cc cda : Addr) : Prop extends ErrC prog K mg nm C fI cc cda where
  noN : findIn K (.ref C) f = some none
  nf : f ≠ "self" ∧ f ≠ "__debug__" ∧ f ≠ "__classdict__" ∧ f ≠ "super" ∧ f ≠ "__class__"
  fn : ∃ (oc : Value) (od : Option Addr) (doc pm : Value) (an : Option Addr) (ct : Value) (osl : Array (Option Value)) (qual msg : Str) (k : Nat) (p1 p2 q0 q1 q2 q3 q4 q5 r0 r1 r2 r3 : Pos),
    K.lookup fI = some ⟨oc, od, .func (ksFn "__init__" qual (args1 f p1 p2) [supS msg k q0 q1 q2 q3 q4 q5, fldS f r0 r1 r2 r3] (scope1 f) .none .none doc pm an (.ref cda) ct cc), osl⟩ ∧ codeIn K (.ref cda) qual = true ∧ ∀ (q : Str) (L : Addr), SupEv (ksEnv q (scope1 f) L fI (.ref cda) cc) msg k q0 q1 q2 q3 q4
structure Err0 (prog : Program) (K : Frag) (mg : Str → Option Value) (nm : Str) (C fI cc cda : Addr) : Prop extends ErrC prog K mg nm C fI cc cda where
  fn : ∃ (oc : Value) (od : Option Addr) (doc pm : Value) (an : Option Addr) (ct : Value) (osl : Array (Option Value)) (qual msg : Str) (k : Nat) (p1 q0 q1 q2 q3 q4 q5 : Pos),
    K.lookup fI = some ⟨oc, od, .func (ksFn "__init__" qual (args0 p1) [supS msg k q0 q1 q2 q3 q4 q5] scope0 .none .none doc pm an (.ref cda) ct cc), osl⟩ ∧ codeIn K (.ref cda) qual = true ∧ ∀ (q : Str) (L : Addr), SupEv (ksEnv q scope0 L fI (.ref cda) cc) msg k q0 q1 q2 q3 q4
theorem mod_keeps {K : Frag} {mg : Str → Option Value} {h h' : Heap} (M : L2.Mod K mg h) (k : ∀ b o, h.get? b = some o → h'.get? b = some o) : L2.Mod K mg h' :=
  ⟨M.kin.keeps k, M.glob.keeps k, by
    obtain ⟨mb, h1, h2⟩ := M.blt
    exact ⟨mb, h1.keeps k, h2⟩, M.nolimit.keeps k⟩
theorem one_size (v : Value) : [v].length ≤ sizeLine := by
  rw [sizeLine_eq]
  exact (by decide : 1 ≤ 16777216)
theorem nil_size : ([] : List Value).length ≤ sizeLine := Nat.zero_le _
section
variable {prog : Program} {w : World} {A : Around} {E : Value → Shared → Prop} {R : Result → Shared → Prop} {s : Shared} {K : Frag} {mg : Str → Option Value} {nm f : Str} {C fI cc cda : Addr}
theorem call_mw (T : ErrC prog K mg nm C fI cc cda) {u e t0 : Addr} {rest : List Value} {Q : Value → Shared → Prop} (X : K.In s.heap) (he : s.heap.get? e = some (excO C t0)) (hu : s.heap.get? u = some (kxs_mw "ValueError.__init__" e)) (hrest : rest.length ≤ sizeLine)
    (hq : ∀ h' t1, (∀ b o, b ≠ e → s.heap.get? b = some o → h'.get? b = some o) → h'.get? e = some (excO C t1) → Q .none { s with heap := h' }) : wpAny (model prog w) A (call (.ref u) rest) Q E s := by
  obtain ⟨nm, q, N, bs, bm, sn, sub, ab, col, dd, k0, k1, k2, k3, k5, hC, hbm⟩ := T.cls
  have hC' := X _ _ hC
  obtain ⟨hp, g, d, t, os⟩ := s
  refine wpAny_call (codeAny_of_tree ?_)
  show wpAny _ A.in1 (callAny (.ref u) ⟨rest, []⟩) _ _ _
  simp only [callAny]
  refine wpAny_bind (wpAny_load hu ?_)
  simp only [kxs_mw, show (Value.type "method-wrapper" == Value.type "method" || Value.type "method-wrapper" == Value.type "builtin_function_or_method" || Value.type "method-wrapper" == Value.type "method-wrapper") = true by decide, if_true]
  refine KFB.if_so (by decide) ?_
  refine wpAny_bind (check_bound_init F.excBase_ValueError.toExcCallFacts hC' he rfl ?_)
  refine wpAny_bind (wpAny_pure (wpAny_pure ?_))
  refine ⟨plainId_quiet F.excBase_ValueError.init.plain _, codeAny_builtin F.excBase_ValueError.initEntry ?_⟩
  exact exc_init_tree (cls := .ref C) (t0 := t0) (dv := none) (c2 := .none) (c3 := .none) (b4 := .bool false) he hrest fun h' k e' _ => hq h' _ k e'
theorem sup_step (T : ErrC prog K mg nm C fI cc cda) {body : List Stmt} {q : Str} {scope : Scope} {L x t0 : Addr} {m : Str → Option Value} {of : Obj} {fd : FuncData} {msg : Str} {k : Nat} {p0 p1 p2 p3 p4 p5 : Pos} {Q : Flow → Shared → Prop}
    (M : L2.Mod K mg s.heap) (hm : s.heap.Ns L m) (hself : m "self" = some (.ref x)) (hx : s.heap.get? x = some (excO C t0)) (hlx : K.lookup x = none)
    (hf : s.heap.get? fI = some of) (hfd : of.data = .func fd) (hp : ∃ a, (fd.params.posonlyargs ++ fd.params.args).head? = some a ∧ a.arg = "self")
    (hks : scope.names.lookup ("super" : Str) = some .globalImplicit) (hkc : scope.names.lookup ("__class__" : Str) = some .free) (hka : scope.names.lookup ("self" : Str) = some .local) (hk : scope.kind = .function)
    (hi : interactive (ksEnv q scope L fI (.ref cda) cc) = false) (hs : swapsWith (supE msg k p0 p1 p2 p3 p4) none p5.line (ksEnv q scope L fI (.ref cda) cc) = pure false) (hev : SupEv (ksEnv q scope L fI (.ref cda) cc) msg k p0 p1 p2 p3 p4)
    (hq : ∀ h' tk t1, (∀ b o, b ≠ x → s.heap.get? b = some o → h'.get? b = some o) → h'.get? x = some (excO C t1) → Q .next { s with heap := h', toks := tk }) :
    _root_.PySem.wpAt (model prog w) A (.func body (ksEnv q scope L fI (.ref cda) cc)) (exec (supS msg k p0 p1 p2 p3 p4 p5) (ksEnv q scope L fI (.ref cda) cc)) Q E s := by
  obtain ⟨nm', q', N, bs, bm, sn, sub, ab, col, dd, k0, k1, k2, k3, k5, hC, hbm⟩ := T.cls
  have hcl : clsIn K C = some { name := nm', bases := bs, mro := .ref C :: bm, ns := N, qualname := q', hasDict := true, slotNames := sn, subclasses := sub, abstract := ab, collection := col, hasDel := false } := by unfold clsIn; rw [hC] <;> rfl
  obtain ⟨cl, cld, csl, hcell⟩ := T.cell
  obtain ⟨ccl, cdd, vs, ccs, file, tf, hcode, hvs, hfile⟩ := T.code
  obtain ⟨ar, hp1, hp2⟩ := hp
  have X := M.kin
  have hxC : x ≠ C := fun z => by rw [z, hC] at hlx; cases hlx
  have hsup := T.sup
  unfold ks_superIn at hsup
  rw [hcl] at hsup
  obtain ⟨hh, g, d, t, os⟩ := s
  obtain ⟨pl, hev⟩ := hev
  refine ks_wpAt_Expr_any ?_ hi hs
  refine ks_wpAt_MethodCall ?_ hev
  refine ks_wpAt_super_base (env := ksEnv q scope L fI (.ref cda) cc) hks hkc (by decide) rfl hf hfd hp1 rfl (X _ _ hcode) rfl hvs hfile T.top ?_
  obtain ⟨mb, hb1, hb2⟩ := M.blt
  refine ks_loadName_global hk hks (loadGlobal_builtin (env := ksEnv q scope L fI (.ref cda) cc) M.glob T.sg hb1 ((hb2 _ (by decide +kernel)).trans (show bootBuiltins "super" = some (.type "super") by first | boot_by_name | rfl | kernel_rfl)) ⟨rfl, ?_⟩)
  refine wpAny_loadName_free hk hkc rfl ⟨_, X _ _ hcell, rfl⟩ ?_
  rw [hp2]
  refine wpAny_loadName_local hk hka hm hself ?_
  refine ks_wpAny_isType_cls (X _ _ hC) rfl ⟨rfl, ?_⟩
  refine ks_wpAny_call_super (X _ _ hC) rfl hx rfl (fun c e => by cases e) (looks_mroIn X T.mC) (fun h1 e1 k1' => ?_)
  have X1 : K.In h1 := X.keeps k1'
  have hx1 := k1' _ _ hx
  have I1 : InstAt h1 x (excO C t0) C none := ⟨hx1, rfl, rfl, trivial⟩
  have hI : Looks (model prog w) h1 (isInstance (.ref x) (.type "ValueError")) true := I1.type.andThen (looks_subIn X1 T.exV)
  refine kxs_getMethod kxs_ValueError e1 (looks_opaque X1 T.tp) (l₀ := .ref C :: bm) ?_ rfl X1 hsup hI hxC (by decide) ?_
  · exact fun A Q E s k q => wpAny_bind ((looks_clsIn X1 hcl) A _ E s k (wpAny_pure q))
  have hx2 : (h1.push (kxs_mw "ValueError.__init__" x)).get? x = some (excO C t0) := Heap.get?_push_of_some _ hx1
  have hu2 : (h1.push (kxs_mw "ValueError.__init__" x)).get? h1.objs.size = some (kxs_mw "ValueError.__init__" x) := Heap.get?_push_at rfl rfl
  have k2' : ∀ b o, hh.get? b = some o → (h1.push (kxs_mw "ValueError.__init__" x)).get? b = some o := fun b o e => Heap.get?_push_of_some _ (k1' b o e)
  refine kxs_callWith (i := "ValueError.__init__") (x := x) rfl ?_
  show wpAny _ _ (evalArgs _ true (backTo p4 (starEach [.Constant (.str msg) k p3] (ksEnv q scope L fI (.ref cda) cc))) []) _ _ _
  refine evalArgs_plain ?_
  show wpAny _ _ (spliced ((false, eval (.Constant (.str msg) k p3) (ksEnv q scope L fI (.ref cda) cc)) :: [])) _ _ _
  refine spliced_cons (Constant_str (spliced_nil ⟨hu2, ?_⟩))
  refine call_mw (s := ⟨h1.push (kxs_mw "ValueError.__init__" x), g, d, _, os⟩) T (X.keeps k2') hx2 hu2 (one_size _) fun h3 t1 k3' e3 => ?_
  exact hq h3 _ t1 (fun b o hb e => k3' b o hb (k2' b o e)) e3
structure Done1 (h h' : Heap) (x C dx : Addr) (f : Str) (v : Value) : Prop where
  keep : ∀ b o, b ≠ x → h.get? b = some o → h'.get? b = some o
  obj : ∃ t1 : Addr, h'.get? x = some { cls := .ref C, dict := some dx, data := .fields #[.ref t1, .none, .none, .none, .bool false, .none] }
  dbig : h.objs.size ≤ dx
  dne : dx ≠ x
  ns : h'.Ns1 dx (fun y => if y = f then some v else none)
structure FldOk (f : Str) : Prop where
  hsup : (scope1 f).names.lookup ("super" : Str) = some .globalImplicit
  hcls : (scope1 f).names.lookup ("__class__" : Str) = some .free
  hself : (scope1 f).names.lookup ("self" : Str) = some .local
  hf : (scope1 f).names.lookup f = some .local
  ne : f ≠ "self"
  hd : (f == ("__debug__" : Str)) = false
  inter : ∀ (q : Str) (L fI cda cc : Addr), interactive (ksEnv q (scope1 f) L fI (.ref cda) cc) = false
  sw : ∀ (q : Str) (L fI cda cc : Addr) msg k p0 p1 p2 p3 p4 n, swapsWith (supE msg k p0 p1 p2 p3 p4) none n (ksEnv q (scope1 f) L fI (.ref cda) cc) = pure false
  sw2 : ∀ (q : Str) (L fI cda cc : Addr) (r0 r1 r2 : Pos) n, swapsWith (.Name f r2) (some (.Attribute (.Name "self" r0) f r1)) n (ksEnv q (scope1 f) L fI (.ref cda) cc) = pure false
  bind : ∀ (s : Shared) qual body p1 p2 doc pm an cd ct cc (a b : Value), BindsTo s (ksFn "__init__" qual (args1 f p1 p2) body (scope1 f) .none .none doc pm an cd ct cc) ⟨[a, b], []⟩ [(PySem.Str.ofString "self", a), (f, b)]
  nc : ∀ x ∈ (scope1 f).names, x.2 ≠ .cell
  loc : ∀ (a b : Value), ∀ y ∈ [(PySem.Str.ofString "self", a), (f, b)], (scope1 f).names.lookup y.1 = some .local
theorem fld_number : FldOk "number" where
  hsup := by rfl
  hcls := by rfl
  hself := by rfl
  hf := by rfl
  ne := by decide
  hd := by decide
  inter := fun _ _ _ _ _ => rfl
  sw := fun _ _ _ _ _ _ _ _ _ _ _ _ _ => rfl
  sw2 := fun _ _ _ _ _ _ _ _ _ => rfl
  bind := fun _ _ _ _ _ _ _ _ _ _ _ _ _ => .of_eq (by first | rfl | with_unfolding_all rfl)
  nc := by decide
  loc := fun a b y hy => by
    rcases List.mem_cons.mp hy with rfl | hy
    · rfl
    · rcases List.mem_cons.mp hy with rfl | hy
      · rfl
      · cases hy
theorem own_init (T : Err1 prog K mg nm f C fI cc cda) (Fo : FldOk f) {x t0 : Addr} {v : Value} (M : L2.Mod K mg s.heap) (hx : s.heap.get? x = some (excO C t0)) (hnx : K.lookup x = none) (hroom : A.depth < recursionLimit)
    (hq : ∀ h' tk dx, Done1 s.heap h' x C dx f v → R (.ok (.ret .none)) { s with heap := h', toks := tk }) :
    codeAny (model prog w) A (.call (.ref fI) ⟨[.ref x, v], []⟩) R s := by
  obtain ⟨oc, od, doc, pm, an, ct, osl, qual, msg, k, p1, p2, q0, q1, q2, q3, q4, q5, r0, r1, r2, r3, ho, hcd, hev⟩ := T.fn
  obtain ⟨nm', q, N, bs, bm, sn, sub, ab, col, dd, k0, k1, k2, k3, k5, hC, hbm⟩ := T.cls
  have hcl : clsIn K C = some { name := nm', bases := bs, mro := .ref C :: bm, ns := N, qualname := q, hasDict := true, slotNames := sn, subclasses := sub, abstract := ab, collection := col, hasDel := false } := by unfold clsIn; rw [hC] <;> rfl
  have X := M.kin
  refine ks_codeAny_call_defAt (fd := ksFn "__init__" qual (args1 f p1 p2) [supS msg k q0 q1 q2 q3 q4 q5, fldS f r0 r1 r2 r3] (scope1 f) .none .none doc pm an (.ref cda) ct cc) (body := [supS msg k q0 q1 q2 q3 q4 q5, fldS f r0 r1 r2 r3])
    (binds := [(PySem.Str.ofString "self", .ref x), (f, v)]) hroom (X _ _ ho) rfl M.nolimit (codeRec_of X hcd) rfl (Fo.bind _ _ _ _ _ _ _ _ _ _ _ _ _) Fo.nc (Fo.loc _ _) (fun h₁ hn k₁ => ?_)
  show wpAt (model prog w) (A.deeper (ksEnv qual (scope1 f) s.heap.objs.size fI (.ref cda) cc)) (.func _ (ksEnv qual (scope1 f) s.heap.objs.size fI (.ref cda) cc)) (execs _ (ksEnv qual (scope1 f) s.heap.objs.size fI (.ref cda) cc)) _ _ _
  have M₁ := mod_keeps M k₁
  have hx₁ := k₁ _ _ hx
  have hL : s.heap.objs.size ≠ x := Nat.ne_of_gt (Heap.lt_size hx)
  have ms : (([(PySem.Str.ofString "self", Value.ref x), (f, v)] : List (Str × Value)).reverse.lookup ("self" : Str)) = some (.ref x) := by
    have e : (("self" : Str) == f) = false := by
      rw [beq_eq_false_iff_ne]
      exact fun z => Fo.ne z.symm
    show ([(f, v), (PySem.Str.ofString "self", Value.ref x)] : List (Str × Value)).lookup ("self" : Str) = _
    simp [List.lookup, e]
  have mf : (([(PySem.Str.ofString "self", Value.ref x), (f, v)] : List (Str × Value)).reverse.lookup f) = some v := by
    show ([(f, v), (PySem.Str.ofString "self", Value.ref x)] : List (Str × Value)).lookup f = _
    simp [List.lookup]
  refine ks_wpAt_execs_cons ?_
  refine sup_step (s := { s with heap := h₁, toks := s.toks + 2 }) T.toErrC M₁ hn ms hx₁ hnx (M₁.kin _ _ ho) rfl ⟨_, rfl, rfl⟩ Fo.hsup Fo.hcls Fo.hself rfl (Fo.inter _ _ _ _ _) (Fo.sw _ _ _ _ _ _ _ _ _ _ _ _ _) (hev _ _) fun h₂ tk₂ t2 kk hx₂ => ?_
  have hn₂ : h₂.Ns s.heap.objs.size (fun y => ([(PySem.Str.ofString "self", Value.ref x), (f, v)] : List (Str × Value)).reverse.lookup y) := hn.at fun o e => kk _ o hL e
  have X₂ : K.In h₂ := fun a o e => kk a o (fun z => by rw [z, hnx] at e; cases e) (M₁.kin a o e)
  refine wpAt_of_wpAny ?_
  show wpAny _ _ (execs [fldS f r0 r1 r2 r3] _) _ _ _
  refine wpAny_execs_cons (plainObj_wpAny_Assign_Attribute ?_ (Fo.sw2 _ _ _ _ _ _ _ _ _))
  refine wpAny_Name (wpAny_loadName_local (env := ksEnv qual (scope1 f) s.heap.objs.size fI (.ref cda) cc) rfl Fo.hf hn₂ mf ?_) Fo.hd
  refine wpAny_Name (wpAny_loadName_local (env := ksEnv qual (scope1 f) s.heap.objs.size fI (.ref cda) cc) rfl Fo.hself hn₂ ms ?_) (by decide)
  refine set_plain X₂ (ox := excO C t2) (od := none) ⟨hx₂, rfl, rfl, trivial⟩ T.sa ?_
  refine exc_osa X₂ hx₂ hcl (show refsVE (.ref C :: bm) = true from hbm) rfl T.noN (fun h₃ tk₃ dx k₃ dn dne hx₃ hn₃ => ?_)
  show wpAny _ _ (execs _ _) _ _ _
  have z : s.heap.objs.size < h₂.objs.size := hn₂.lt
  exact wpAny_execs_nil (hq h₃ tk₃ dx ⟨fun b o hb e => k₃ b o hb (kk b o hb (k₁ b o e)), ⟨t2, hx₃⟩, Nat.le_of_lt (Nat.lt_of_lt_of_le z dn), dne, hn₃⟩)
structure Done0 (h h' : Heap) (x C : Addr) : Prop where
  keep : ∀ b o, b ≠ x → h.get? b = some o → h'.get? b = some o
  obj : ∃ t1 : Addr, h'.get? x = some { cls := .ref C, dict := none, data := .fields #[.ref t1, .none, .none, .none, .bool false, .none] }
theorem own_init0 (T : Err0 prog K mg nm C fI cc cda) {x t0 : Addr} (M : L2.Mod K mg s.heap) (hx : s.heap.get? x = some (excO C t0)) (hnx : K.lookup x = none) (hroom : A.depth < recursionLimit)
    (hq : ∀ h' tk, Done0 s.heap h' x C → R (.ok (.ret .none)) { s with heap := h', toks := tk }) :
    codeAny (model prog w) A (.call (.ref fI) ⟨[.ref x], []⟩) R s := by
  obtain ⟨oc, od, doc, pm, an, ct, osl, qual, msg, k, p1, q0, q1, q2, q3, q4, q5, ho, hcd, hev⟩ := T.fn
  have X := M.kin
  refine ks_codeAny_call_defAt (fd := ksFn "__init__" qual (args0 p1) [supS msg k q0 q1 q2 q3 q4 q5] scope0 .none .none doc pm an (.ref cda) ct cc) (body := [supS msg k q0 q1 q2 q3 q4 q5])
    (binds := [(PySem.Str.ofString "self", .ref x)]) hroom (X _ _ ho) rfl M.nolimit (codeRec_of X hcd) rfl (.of_eq (by first | rfl | with_unfolding_all rfl)) (show ∀ x ∈ scope0.names, x.2 ≠ .cell by decide) (fun y hy => by
      rcases List.mem_cons.mp hy with rfl | hy
      · rfl
      · cases hy) (fun h₁ hn k₁ => ?_)
  show _root_.PySem.wpAt (model prog w) (A.deeper (ksEnv qual scope0 s.heap.objs.size fI (.ref cda) cc)) (.func _ (ksEnv qual scope0 s.heap.objs.size fI (.ref cda) cc)) (execs _ (ksEnv qual scope0 s.heap.objs.size fI (.ref cda) cc)) _ _ _
  have M₁ := mod_keeps M k₁
  have hx₁ := k₁ _ _ hx
  have ms : (([(PySem.Str.ofString "self", Value.ref x)] : List (Str × Value)).reverse.lookup ("self" : Str)) = some (.ref x) := by
    show ([(PySem.Str.ofString "self", Value.ref x)] : List (Str × Value)).lookup ("self" : Str) = _
    simp [List.lookup]
  refine ks_wpAt_execs_cons ?_
  refine sup_step (s := { s with heap := h₁, toks := s.toks + 1 }) T.toErrC M₁ hn ms hx₁ hnx (M₁.kin _ _ ho) rfl ⟨_, rfl, rfl⟩ rfl rfl rfl rfl rfl rfl (hev _ _) fun h₂ tk₂ t2 kk hx₂ => ?_
  refine wpAt_of_wpAny ?_
  show wpAny _ _ (execs [] _) _ _ _
  exact wpAny_execs_nil (hq h₂ tk₂ ⟨fun b o hb e => kk b o hb (k₁ b o e), t2, hx₂⟩)
structure Made1 (h h' : Heap) (e C d : Addr) (f : Str) (v : Value) : Prop where
  keep : ∀ b o, h.get? b = some o → h'.get? b = some o
  new : h.objs.size ≤ e
  obj : ∃ oe vs, h'.get? e = some oe ∧ oe.cls = .ref C ∧ oe.dict = some d ∧ oe.data = .fields vs ∧ vs[1]? = some .none ∧ vs[2]? = some .none
  dbig : h.objs.size ≤ d
  dne : d ≠ e
  ns : h'.Ns1 d (fun y => if y = f then some v else none)
structure Made0 (h h' : Heap) (e C : Addr) : Prop where
  keep : ∀ b o, h.get? b = some o → h'.get? b = some o
  new : h.objs.size ≤ e
  obj : ∃ oe vs, h'.get? e = some oe ∧ oe.cls = .ref C ∧ oe.dict = none ∧ oe.data = .fields vs ∧ vs[1]? = some .none ∧ vs[2]? = some .none
theorem own_made (T : Err1 prog K mg nm f C fI cc cda) (Fo : FldOk f) {v : Value} (M : L2.Mod K mg s.heap) (hroom : A.depth + 1 < recursionLimit)
    (hq : ∀ h' tk e d, Made1 s.heap h' e C d f v → R (.ok (.ret (.ref e))) { s with heap := h', toks := tk }) :
    codeAny (model prog w) A (.call (.ref C) ⟨[v], []⟩) R s := by
  obtain ⟨nm', q, N, bs, bm, sn, sub, ab, col, dd, k0, k1, k2, k3, k5, hC, hbm⟩ := T.cls
  obtain ⟨hp, g, dr, tk, os⟩ := s
  have X := M.kin
  have k : ∀ b o, hp.get? b = some o → ((hp.push (kdv_tup [v])).push (excO C hp.objs.size)).get? b = some o := fun b o e => Heap.get?_push_of_some _ (Heap.get?_push_of_some _ e)
  have hget : ((hp.push (kdv_tup [v])).push (excO C hp.objs.size)).get? (hp.objs.size + 1) = some (excO C hp.objs.size) := by heap_get
  have hnx : K.lookup (hp.objs.size + 1) = none := by
    cases e : K.lookup (hp.objs.size + 1) with
    | none => rfl
    | some o =>
      have z : hp.get? (hp.objs.size + 1) = some o := X _ _ e
      exact absurd (Nat.lt_of_succ_lt (Heap.lt_size z)) (Nat.lt_irrefl _)
  refine call_own F.excBase_ValueError (fun X => refsVE_contains X bm hbm) (X _ _ hC) (looks_findIn X T.iC) (fun self => bind_fn X self T.tC) (one_size v) ?_
  refine own_init (s := ⟨(hp.push (kdv_tup [v])).push (excO C hp.objs.size), g, dr, tk, os⟩) T Fo (mod_keeps M k) hget hnx ?_ fun h' tk' dx ⟨k', hx, dn, dne, hns⟩ => ?_
  · show A.depth + 1 < recursionLimit
    exact hroom
  · have old : ∀ b o, hp.get? b = some o → h'.get? b = some o := fun b o e => k' b o (Nat.ne_of_lt (Nat.lt_succ_of_lt (Heap.lt_size e))) (k b o e)
    have z : hp.objs.size + 1 + 1 ≤ dx := by
      first
        | (simpa only [Heap.size_push] using dn)
        | exact dn
        | (have q := dn; rw [Heap.size_push, Heap.size_push] at q; exact q)
    obtain ⟨t1, hx⟩ := hx
    exact ⟨rfl, hq h' tk' (hp.objs.size + 1) dx ⟨old, Nat.le_succ _, ⟨_, _, hx, rfl, rfl, rfl, rfl, rfl⟩, Nat.le_trans (Nat.le_trans (Nat.le_succ _) (Nat.le_succ _)) z, dne, hns⟩⟩
theorem own_made0 (T : Err0 prog K mg nm C fI cc cda) (M : L2.Mod K mg s.heap) (hroom : A.depth + 1 < recursionLimit)
    (hq : ∀ h' tk e, Made0 s.heap h' e C → R (.ok (.ret (.ref e))) { s with heap := h', toks := tk }) :
    codeAny (model prog w) A (.call (.ref C) ⟨[], []⟩) R s := by
  obtain ⟨nm', q, N, bs, bm, sn, sub, ab, col, dd, k0, k1, k2, k3, k5, hC, hbm⟩ := T.cls
  obtain ⟨hp, g, dr, tk, os⟩ := s
  have X := M.kin
  have k : ∀ b o, hp.get? b = some o → ((hp.push (kdv_tup [])).push (excO C hp.objs.size)).get? b = some o := fun b o e => Heap.get?_push_of_some _ (Heap.get?_push_of_some _ e)
  have hget : ((hp.push (kdv_tup [])).push (excO C hp.objs.size)).get? (hp.objs.size + 1) = some (excO C hp.objs.size) := by heap_get
  have hnx : K.lookup (hp.objs.size + 1) = none := by
    cases e : K.lookup (hp.objs.size + 1) with
    | none => rfl
    | some o =>
      have z : hp.get? (hp.objs.size + 1) = some o := X _ _ e
      exact absurd (Nat.lt_of_succ_lt (Heap.lt_size z)) (Nat.lt_irrefl _)
  refine call_own F.excBase_ValueError (fun X => refsVE_contains X bm hbm) (X _ _ hC) (looks_findIn X T.iC) (fun self => bind_fn X self T.tC) nil_size ?_
  refine own_init0 (s := ⟨(hp.push (kdv_tup [])).push (excO C hp.objs.size), g, dr, tk, os⟩) T (mod_keeps M k) hget hnx ?_ fun h' tk' ⟨k', hx⟩ => ?_
  · show A.depth + 1 < recursionLimit
    exact hroom
  · have old : ∀ b o, hp.get? b = some o → h'.get? b = some o := fun b o e => k' b o (Nat.ne_of_lt (Nat.lt_succ_of_lt (Heap.lt_size e))) (k b o e)
    obtain ⟨t1, hx⟩ := hx
    exact ⟨rfl, hq h' tk' (hp.objs.size + 1) ⟨old, Nat.le_succ _, ⟨_, _, hx, rfl, rfl, rfl, rfl, rfl⟩⟩⟩
end
end KX
end PySem
namespace L2
open PySem PySem.Spec PyProof.Rows
theorem relO_one {f : Str} {v : V} {v' : Value} (r : RelV v v') (y : Str) : RelO (List.lookup y [(f, v)]) (if y = f then some v' else none) := by
  by_cases hw : y = f
  · subst hw
    rw [if_pos rfl]
    have q : List.lookup y [(y, v)] = some v := by simp [List.lookup]
    rw [q]
    exact r
  · rw [if_neg hw]
    have qw : (y == f) = false := by simpa using hw
    have q2 : List.lookup y [(f, v)] = none := by simp [List.lookup, qw]
    rw [q2]
    trivial
section
variable {X : Cx} {nm f : Str} {C fI cc cda : Addr}
def tMk1 (C : Addr) (f : Str) (ta : TA) : St → Hp → XK → Prop := fun σ H Q => ta σ H fun vs H1 => ∃ v, vs = [v] ∧ ∀ d, H1 d = none → Q (.ref C) (some d) (upd H1 d (.xd [(f, v)]))
def tMk0 (C : Addr) : St → Hp → XK → Prop := fun _ H Q => Q (.ref C) none H
theorem base_mod {pins : List (Addr × Obj)} {σ : St} {H : Hp} {s : Shared} (I : Inv X pins σ H s) : Mod X.K X.mg s.heap := PySem.KX.mod_keeps I.mod I.bk
theorem pmk_err1 {a : Expr} {ta : TA} {p pos : Pos} {k : Nat} (T : PySem.KX.Err1 X.prog X.K X.mg nm f C fI cc cda) (Fo : PySem.KX.FldOk f) (hr : Room k X.A) (ha : PA X [a] ta) (hg : Gl X nm) (hdb : (nm == ("__debug__" : Str)) = false := by decide)
    (he : starEach (a :: []) X.env = (false, eval a X.env) :: starEach [] X.env := by rfl) (hpl : (backTo pos (starEach [] X.env)).any (·.1) = false := by rfl) :
    L2N.PMk X (.Call (.Name nm p) [a] [] pos) (tMk1 C f ta) := by
  intro pins s σ H Q I h
  refine wpAny_Call_Name_kw (ld_glob I hg T.gC ?_ hdb)
  refine PySem.W.callWith_K (h₀ := X.base) I.ok.mod.kin T.kC (thn (ha.run pos pins s σ H _ I h) fun us s1 hh => ?_) he hpl
  obtain ⟨vs, H1, I1, r1, v, ev, q1⟩ := hh
  subst ev
  refine ⟨I1.kIn, ?_⟩
  cases r1 with
  | cons rv rn =>
    rename_i v' us'
    cases rn
    show wpAny _ _ (call (.ref C) [v']) _ _ _
    have hM := base_mod I1
    obtain ⟨hp, g, dr, tk, os⟩ := s1
    refine wpAny_call (PySem.KX.own_made T Fo hM (by have := hr.dp; omega) fun h' tk' e d M => ?_)
    show L2N.MkP X pins σ Q (.ref e) ⟨h', g, dr, tk', os⟩
    obtain ⟨oe, fv, hoe, hc, hd, hdat, h1, h2⟩ := M.obj
    have hns := M.ns
    obtain ⟨G', g1, g2⟩ := restrict h' fun b => decide (b ≠ e)
    have gk : ∀ b, b ≠ e → G'.get? b = h'.get? b := fun b hb => g1 b (decide_eq_true hb)
    have ge : G'.get? e = none := g2 e (by simp)
    have old : ∀ b o, hp.get? b = some o → G'.get? b = some o := fun b o q => (gk b (Nat.ne_of_lt (Nat.lt_of_lt_of_le (Heap.lt_size q) M.new))).trans (M.keep b o q)
    have ob : ObjOk X.prog X.w (upd H1 d (.xd [(f, v)])) G' d (.xd [(f, v)]) := ⟨_, hns.at (fun o q => (gk d M.dne).trans q), fun y => relO_one rv y⟩
    have J : Inv X pins σ (upd H1 d (.xd [(f, v)])) ⟨G', g, dr, tk', os⟩ := I1.laid (t' := tk') old M.dbig ob
    refine ⟨e, oe, fv, ⟨G', g, dr, tk', os⟩, _, .ref C, some d, rfl, J, fun b o q => ?_, ge, hoe, ⟨hc, hd, fun q e => by rw [hdat] at e; cases e; exact h2⟩, hdat, h1, ?_, rfl, I1.bare, raises_own T.exC T.tyC, q1 d (I1.hok.fresh M.dbig)⟩
    · by_cases hb : b = e
      · have q' : G'.get? b = some o := q
        rw [hb, ge] at q'; cases q'
      · exact (gk b hb).symm.trans q
    · rw [upd_ne (Ne.symm M.dne)]
      exact I1.hok.fresh M.new
theorem pmk_err0 {p pos : Pos} {k : Nat} (T : PySem.KX.Err0 X.prog X.K X.mg nm C fI cc cda) (hr : Room k X.A) (hg : Gl X nm) (hdb : (nm == ("__debug__" : Str)) = false := by decide) :
    L2N.PMk X (.Call (.Name nm p) [] [] pos) (tMk0 C) := by
  intro pins s σ H Q I h
  refine wpAny_Call_Name_kw (ld_glob I hg T.gC ?_ hdb)
  refine PySem.W.callWith_K0 I.kIn T.kC ?_
  have hM := base_mod I
  obtain ⟨hp, g, dr, tk, os⟩ := s
  refine wpAny_call (PySem.KX.own_made0 T hM (by have := hr.dp; omega) fun h' tk' e M => ?_)
  show L2N.MkP X pins σ Q (.ref e) ⟨h', g, dr, tk', os⟩
  obtain ⟨oe, fv, hoe, hc, hd, hdat, h1, h2⟩ := M.obj
  obtain ⟨G', g1, g2⟩ := restrict h' fun b => decide (b ≠ e)
  have gk : ∀ b, b ≠ e → G'.get? b = h'.get? b := fun b hb => g1 b (decide_eq_true hb)
  have ge : G'.get? e = none := g2 e (by simp)
  have old : ∀ b o, hp.get? b = some o → G'.get? b = some o := fun b o q => (gk b (Nat.ne_of_lt (Nat.lt_of_lt_of_le (Heap.lt_size q) M.new))).trans (M.keep b o q)
  have J : Inv X pins σ H ⟨G', g, dr, tk', os⟩ := I.kept (t' := tk') old
  refine ⟨e, oe, fv, ⟨G', g, dr, tk', os⟩, _, .ref C, none, rfl, J, fun b o q => ?_, ge, hoe, ⟨hc, hd, fun q e => by rw [hdat] at e; cases e; exact h2⟩, hdat, h1, ?_, rfl, I.bare, raises_own T.exC T.tyC, h⟩
  · by_cases hb : b = e
    · have q' : G'.get? b = some o := q
      rw [hb, ge] at q'; cases q'
    · exact (gk b hb).symm.trans q
  · exact I.hok.fresh M.new
def tRaise1 (C : Addr) (f : Str) (W : WX) (ta : TA) : TS := fun _ σ H => tMk1 C f ta σ H fun cls d H' => W cls d σ H'
def tRaise0 (C : Addr) (W : WX) : TS := fun _ σ H => tMk0 C σ H fun cls d H' => W cls d σ H'
theorem ps_raise1 {a : Expr} {ta : TA} {W : WX} {p pos pos2 : Pos} {k : Nat} (hc : X.calm = true) (T : PySem.KX.Err1 X.prog X.K X.mg nm f C fI cc cda) (Fo : PySem.KX.FldOk f) (hr : Room k X.A) (tk : L2N.Takes X W) (ha : PA X [a] ta) (hg : Gl X nm) (hdb : (nm == ("__debug__" : Str)) = false := by decide)
    (he : starEach (a :: []) X.env = (false, eval a X.env) :: starEach [] X.env := by rfl) (hpl : (backTo pos (starEach [] X.env)).any (·.1) = false := by rfl) :
    PS X (.Raise (some (.Call (.Name nm p) [a] [] pos)) none pos2) (tRaise1 C f W ta) := L2N.ps_raise hc tk (pmk_err1 T Fo hr ha hg hdb he hpl)
theorem ps_raise0 {W : WX} {p pos pos2 : Pos} {k : Nat} (hc : X.calm = true) (T : PySem.KX.Err0 X.prog X.K X.mg nm C fI cc cda) (hr : Room k X.A) (tk : L2N.Takes X W) (hg : Gl X nm) (hdb : (nm == ("__debug__" : Str)) = false := by decide) :
    PS X (.Raise (some (.Call (.Name nm p) [] [] pos)) none pos2) (tRaise0 C W) := L2N.ps_raise hc tk (pmk_err0 T hr hg hdb)
def tErrF (a C : Addr) (cls : Value) (d : Option Addr) (f : Str) (te : TE) : TE := fun σ H Q => te σ H fun x H1 => x = .ref a ∧ cls = .ref C ∧ ∃ (dd : Addr) (fs : List (Str × V)) (v : V), d = some dd ∧ H1 dd = some (.xd fs) ∧ fs.lookup f = some v ∧ Q v H1
theorem pe_errF {a : Addr} {oe : Obj} {cls : Value} {d : Option Addr} {pn : List (Addr × Obj)} {e : Expr} {te : TE} {pos : Pos} (T : PySem.KX.ErrC X.prog X.K X.mg nm C fI cc cda) (hno : PySem.W.findIn X.K (.ref C) f = some none) (hz : Zc cls d oe) (hf : ∃ vs, oe.data = .fields vs) (he : PE (X.suite a ((a, oe) :: pn)) e te)
    (hb : attributeBase e f X.env (eval e X.env) = eval e X.env := by rfl) :
    PE (X.suite a ((a, oe) :: pn)) (.Attribute e f pos) (tErrF a C cls d f te) := by
  refine ⟨fun pins s σ H Q I h => ?_⟩
  refine attr_of hb (thn (he.run pins s σ H _ I h) fun u s1 hh => ?_)
  obtain ⟨x, H1, I1, rx, ex, ec, dd, fs, v, ed, ea, l, q⟩ := hh
  subst ex
  obtain rfl : u = Value.ref a := rx
  subst ec
  subst ed
  obtain ⟨ha, _⟩ := I1.pin (a, oe) (List.mem_append_left _ List.mem_cons_self)
  obtain ⟨vs, hd⟩ := hf
  have hx : ObjOk X.prog X.w H1 s1.heap dd (.xd fs) := I1.hok dd _ ea
  obtain ⟨mA, hns, hr⟩ := hx
  obtain ⟨od, ho, hl⟩ := lookIn_ns hns
  obtain ⟨u, hu, ru⟩ := RelO.some_of (v := v) (o := mA f) (by rw [← l]; exact hr f)
  have J : PySem.W.InstAt s1.heap a oe C (some od) := ⟨ha, hz.1, by unfold PySem.W.notCls; rw [hd] <;> rfl, by rw [hz.2]; exact ho⟩
  exact HandSPX.exc_get I1.kIn J T.ga T.gg T.exC (PySem.W.findObj_own T.hdC hno rfl (by rw [hl, hu])) (handed_of ru) ⟨v, H1, I1.tok _, ru, q⟩
structure ErrI (K : PySem.W.Frag) (C : Addr) : Prop where
  cl : (PySem.W.clsIn K C).isSome = true
  ga : PySem.W.findIn K (.ref C) "__getattribute__" = some (some (.builtin "BaseException.__getattribute__"))
  gg : PySem.W.findIn K (.ref C) "__getattr__" = some none
  ex : PySem.W.subIn K (.ref C) (.type "BaseException") = some true
  ha : PySem.W.findIn K (.ref C) "__class__" = some (some (.builtin "object.__class__"))
  hn : PySem.W.specialIn K (.builtin "object.__class__") "__get__" = some (some (.builtin "getset_descriptor.__get__"))
  ht : PySem.W.takesIn K (.builtin "object.__class__") = some true
  hm : PySem.W.mroIn K C (.type "object") = some true
def rIsErr (K : PySem.W.Frag) (C a : Addr) (cls : Value) (d : Option Addr) : List V → Hp → VK → Prop := fun xs H Q => ∃ (c : V) (u : Value) (b : Bool), xs = [.ref a, c] ∧ cls = .ref C ∧ ErrI K C ∧ ClsV c u ∧ PySem.W.kitOne K (.ref C) u = some b ∧ (∀ dd, d = some dd → ∃ fs, H dd = some (.xd fs)) ∧ Q (.bl b) H
theorem call_isErr {a C : Addr} {oe : Obj} {cls : Value} {d : Option Addr} {pn : List (Addr × Obj)} (hz : Zc cls d oe) (hf : ∃ vs, oe.data = .fields vs) : CallR (X.suite a ((a, oe) :: pn)) (.builtin "isinstance") (rIsErr X.K C a cls d) := by
  intro pins s σ H xs us Q I r h
  obtain ⟨c, cv, b, rfl, ec, T, hcv, e, hdd, q⟩ := h
  subst ec
  obtain ⟨u1, u2, rfl, rx, rt⟩ := vals2 r
  cases (show u1 = Value.ref a from rx)
  have ec := hcv.eq rt
  subst ec
  obtain ⟨hget, _⟩ := I.pin (a, oe) (List.mem_append.mpr (.inl List.mem_cons_self))
  obtain ⟨vs, hv⟩ := hf
  have J : ∃ od, PySem.W.InstAt s.heap a oe C od := by
    have nc : PySem.W.notCls oe = true := by unfold PySem.W.notCls; rw [hv] <;> rfl
    cases d with
    | none => exact ⟨none, hget, hz.1, nc, by rw [hz.2]; exact True.intro⟩
    | some dd =>
      obtain ⟨fs, hfs⟩ := hdd dd rfl
      have hx : ObjOk X.prog X.w H s.heap dd (.xd fs) := I.hok dd _ hfs
      obtain ⟨mA, hns, hr⟩ := hx
      obtain ⟨od, ho, hl⟩ := lookIn_ns hns
      exact ⟨some od, hget, hz.1, nc, by rw [hz.2]; exact ho⟩
  obtain ⟨od, J⟩ := J
  exact PySem.W.kia_one (PySem.W.kitx_exc T.cl T.ga T.gg T.ex T.ha T.hn T.ht T.hm) I.kIn J e (fun z => nomatch z) fun tk => ⟨.bl b, H, I.tok tk, rfl, q⟩
theorem pe_errFX {a : Addr} {oe : Obj} {cls : Value} {d : Option Addr} {e : Expr} {te : TE} {pos : Pos} (hpn : (a, oe) ∈ X.pn) (T : PySem.KX.ErrC X.prog X.K X.mg nm C fI cc cda) (hno : PySem.W.findIn X.K (.ref C) f = some none) (hz : Zc cls d oe) (hf : ∃ vs, oe.data = .fields vs) (he : PE X e te)
    (hb : attributeBase e f X.env (eval e X.env) = eval e X.env := by rfl) :
    PE X (.Attribute e f pos) (tErrF a C cls d f te) := by
  refine ⟨fun pins s σ H Q I h => ?_⟩
  refine attr_of hb (thn (he.run pins s σ H _ I h) fun u s1 hh => ?_)
  obtain ⟨x, H1, I1, rx, ex, ec, dd, fs, v, ed, ea, l, q⟩ := hh
  subst ex
  obtain rfl : u = Value.ref a := rx
  subst ec
  subst ed
  obtain ⟨ha, _⟩ := I1.pin (a, oe) (List.mem_append_left _ hpn)
  obtain ⟨vs, hd⟩ := hf
  have hx : ObjOk X.prog X.w H1 s1.heap dd (.xd fs) := I1.hok dd _ ea
  obtain ⟨mA, hns, hr⟩ := hx
  obtain ⟨od, ho, hl⟩ := lookIn_ns hns
  obtain ⟨u, hu, ru⟩ := RelO.some_of (v := v) (o := mA f) (by rw [← l]; exact hr f)
  have J : PySem.W.InstAt s1.heap a oe C (some od) := ⟨ha, hz.1, by unfold PySem.W.notCls; rw [hd] <;> rfl, by rw [hz.2]; exact ho⟩
  exact HandSPX.exc_get I1.kIn J T.ga T.gg T.exC (PySem.W.findObj_own T.hdC hno rfl (by rw [hl, hu])) (handed_of ru) ⟨v, H1, I1.tok _, ru, q⟩
theorem call_isErrX {a C : Addr} {oe : Obj} {cls : Value} {d : Option Addr} (hpn : (a, oe) ∈ X.pn) (hz : Zc cls d oe) (hf : ∃ vs, oe.data = .fields vs) : CallR X (.builtin "isinstance") (rIsErr X.K C a cls d) := by
  intro pins s σ H xs us Q I r h
  obtain ⟨c, cv, b, rfl, ec, T, hcv, e, hdd, q⟩ := h
  subst ec
  obtain ⟨u1, u2, rfl, rx, rt⟩ := vals2 r
  cases (show u1 = Value.ref a from rx)
  have ec := hcv.eq rt
  subst ec
  obtain ⟨hget, _⟩ := I.pin (a, oe) (List.mem_append.mpr (.inl hpn))
  obtain ⟨vs, hv⟩ := hf
  have J : ∃ od, PySem.W.InstAt s.heap a oe C od := by
    have nc : PySem.W.notCls oe = true := by unfold PySem.W.notCls; rw [hv] <;> rfl
    cases d with
    | none => exact ⟨none, hget, hz.1, nc, by rw [hz.2]; exact True.intro⟩
    | some dd =>
      obtain ⟨fs, hfs⟩ := hdd dd rfl
      have hx : ObjOk X.prog X.w H s.heap dd (.xd fs) := I.hok dd _ hfs
      obtain ⟨mA, hns, hr⟩ := hx
      obtain ⟨od, ho, hl⟩ := lookIn_ns hns
      exact ⟨some od, hget, hz.1, nc, by rw [hz.2]; exact ho⟩
  obtain ⟨od, J⟩ := J
  exact PySem.W.kia_one (PySem.W.kitx_exc T.cl T.ga T.gg T.ex T.ha T.hn T.ht T.hm) I.kIn J e (fun z => nomatch z) fun tk => ⟨.bl b, H, I.tok tk, rfl, q⟩
end
end L2
namespace PySem
namespace KX
open PySem.W PySem.Calls PyProof.Rows PySem.HandSPX
theorem err1_mk {prog : Program} {K : Frag} {mg : Str → Option Value} {h : Heap} {nm f : Str} {C fI cc cda : Addr} (X : K.In h) (G : h.Ns mainGlobals mg)
    {nm' q qual msg cf : Str} {N : Addr} {bs bm sub : List Value} {sn : List Str} {ab : Bool} {col : Option Bool} {dd : Option Addr} {k0 k1 k2 k3 k5 : Option Value}
    {oc doc pm ct cl ccl : Value} {od an cld cdd : Option Addr} {osl csl ccs : Array (Option Value)} {vs : Array Value} {tf : Tok} {k : Nat} {p1 p2 q0 q1 q2 q3 q4 q5 r0 r1 r2 r3 : Pos}
    (gC : nsIn K mainGlobals nm = some (some (.ref C))) (xc : K.lookup C = some (excClassObj nm' q C N bs bm true sn sub ab col dd k0 k1 k2 k3 k5 "ValueError.__new__")) (xr : refsVE bm = true)
    (xs : findIn K (.ref C) "__setattr__" = some (some (.builtin "object.__setattr__"))) (xg : findIn K (.ref C) "__getattribute__" = some (some (.builtin "BaseException.__getattribute__"))) (xgg : findIn K (.ref C) "__getattr__" = some none)
    (xi : findIn K (.ref C) "__init__" = some (some (.ref fI))) (xt : typeIn K (.ref fI) = some (.type "function")) (xk : keepIn K (.ref C) = true)
    (xe : subIn K (.ref C) (.type "BaseException") = some true) (xv : subIn K (.ref C) (.type "ValueError") = some true) (xy : typeIn K (.ref C) = some (.type "type")) (xh : hasDictIn K C = true)
    (xm : mroIn K C (.ref C) = some true) (xu : ks_superIn K C C "__init__" = some (some (.builtin "ValueError.__init__"))) (tp : nsIn K cStatics "thirdparty.any" = some none) (sg : nsIn K mainGlobals "super" = some none)
    (xl : K.lookup cc = some ⟨cl, cld, .cell (some (.ref C)), csl⟩) (xw : K.lookup cda = some ⟨ccl, cdd, .fields vs, ccs⟩) (xw2 : vs[2]? = some (.str cf tf)) (xw3 : ((prog.main.file : Str) == cf) = true)
    (top : (prog.main.scope.names.lookup ("super" : Str)).isSome = false) (xn : findIn K (.ref C) f = some none) (nf : f ≠ "self" ∧ f ≠ "__debug__" ∧ f ≠ "__classdict__" ∧ f ≠ "super" ∧ f ≠ "__class__")
    (xf : K.lookup fI = some ⟨oc, od, .func (ksFn "__init__" qual (args1 f p1 p2) [supS msg k q0 q1 q2 q3 q4 q5, fldS f r0 r1 r2 r3] (scope1 f) .none .none doc pm an (.ref cda) ct cc), osl⟩) (xd : codeIn K (.ref cda) qual = true)
    (hev : ∀ (q : Str) (L : Addr), SupEv (ksEnv q (scope1 f) L fI (.ref cda) cc) msg k q0 q1 q2 q3 q4) : Err1 prog K mg nm f C fI cc cda :=
  { gC := mg_of X G gC, cls := ⟨_, _, _, _, _, _, _, _, _, _, _, _, _, _, _, xc, xr⟩, sa := xs, ga := xg, gg := xgg, iC := xi, tC := xt, kC := xk, exC := xe, exV := xv, tyC := xy, hdC := xh, mC := xm, sup := xu, tp := tp, sg := mg_none_of X G sg,
    cell := ⟨_, _, _, xl⟩, code := ⟨_, _, _, _, _, _, xw, xw2, xw3⟩, top := top, noN := xn, nf := nf, fn := ⟨_, _, _, _, _, _, _, _, _, _, _, _, _, _, _, _, _, _, _, _, _, _, xf, xd, hev⟩ }
def intsOf : List Value → List (Option Int)
  | [] => []
  | .int i _ :: r => some i :: intsOf r
  | _ :: r => none :: intsOf r
theorem vals_of_ints : ∀ {us : List Value} {ns : List Int}, intsOf us = ns.map some → L2.Vals (ns.map L2.V.int) us
  | [], [], _ => .nil
  | [], _ :: _, e => by cases e
  | u :: us, ns, e => by
    cases u with
    | int i t =>
      cases ns with
      | nil => cases e
      | cons n ns =>
        have e1 : some i :: intsOf us = some n :: ns.map some := e
        have h1 : i = n := by injection e1 with a b; injection a
        have h2 : intsOf us = ns.map some := by injection e1
        rw [h1]
        exact .cons ⟨t, rfl⟩ (vals_of_ints h2)
    | _ =>
      cases ns with
      | nil => cases e
      | cons n ns =>
        have e1 : (none : Option Int) :: intsOf us = some n :: ns.map some := e
        injection e1 with a b
        cases a
end KX
end PySem
namespace KR
open PySem PySem.Spec L2 Evl
section
variable {X : Cx} {K : PySem.W.Frag} {σ : L2.St} {H : Hp} {D : Ends} {t u : TT} {ts us tw : TS} {te ta tb tc : TE} {r r' : R2} {Q : VK} {QB : Bool → Hp → Prop} {i : Nat} {v x y : V} {A B : Prop}
theorem seq (h : ts { D with nx := us D } σ H) : tSeq ts us D σ H := h
theorem asg (h : te σ H fun v H1 => D.nx (σ.set i (some v)) H1) : tAsg te (gName i) D σ H := h
theorem asgG {g : TG} (h : te σ H fun v H1 => g v σ H1 D.nx) : tAsg te g D σ H := h
theorem drop (h : te σ H fun _ H1 => D.nx σ H1) : tDrop te D σ H := h
theorem ret (h : te σ H D.rt) : tRet te D σ H := h
theorem retN (h : D.rt .non H) : tRetN D σ H := h
theorem next (h : D.nx σ H) : tNext D σ H := h
theorem brk (h : D.bk σ H) : tBreak D σ H := h
theorem cont (h : D.ct σ H) : tCont D σ H := h
theorem ifs (h : t σ H fun b H1 => if b = true then ts D σ H1 else us D σ H1) : tIfS t ts us D σ H := h
theorem aug {ti : TIp} (hx : σ[i]? = some (some x)) (h : te σ H fun y H1 => ti x y H1 fun z H2 => D.nx (σ.set i (some z)) H2) : tAug i te ti D σ H := ⟨x, hx, h⟩
theorem ipI {f : Int → Int → Int} {a b : Int} {Q : VK} (h : Q (.int (f a b)) H) : L2.ipI f (.int a) (.int b) H Q := ⟨a, b, rfl, rfl, h⟩
theorem var (hx : σ[i]? = some (some v)) (h : Q v H) : tVar i σ H Q := ⟨v, hx, h⟩
theorem con (h : Q v H) : tC v σ H Q := h
theorem op (h : ta σ H fun x H1 => tb σ H1 fun y H2 => r x y H2 Q) : tOp r ta tb σ H Q := h
theorem un {ru : V → Hp → VK → Prop} (h : ta σ H fun x H1 => ru x H1 Q) : tUn ru ta σ H Q := h
theorem opI0 {g : Int → Int → V} {a b : Int} (h : Q (g a b) H) : rI0 g (.int a) (.int b) H Q := ⟨a, b, rfl, rfl, h⟩
theorem opI {C : Int → Int → Prop} {g : Int → Int → V} {a b : Int} (hc : C a b) (h : Q (g a b) H) : rI C g (.int a) (.int b) H Q := ⟨a, b, rfl, rfl, hc, h⟩
theorem unI {g : Int → V} {a : Int} (h : Q (g a) H) : rU g (.int a) H Q := ⟨a, rfl, h⟩
theorem eqS (hs : scal x y = true) (h : Q (.bl (decide (x = y))) H) : rEq x y H Q := ⟨hs, h⟩
theorem neS (hs : scal x y = true) (h : Q (.bl (!decide (x = y))) H) : rNe x y H Q := ⟨hs, h⟩
theorem eqI {a b : Int} (h : Q (.bl (decide (a = b))) H) : rEq (.int a) (.int b) H Q := ⟨rfl, by
  have e : decide (V.int a = V.int b) = decide (a = b) := by
    by_cases z : a = b
    · rw [decide_eq_true z, z, decide_eq_true rfl]
    · rw [decide_eq_false z, decide_eq_false (fun q => z (V.int.inj q))]
  rw [e]; exact h⟩
theorem neI {a b : Int} (h : Q (.bl (!decide (a = b))) H) : rNe (.int a) (.int b) H Q := ⟨rfl, by
  have e : decide (V.int a = V.int b) = decide (a = b) := by
    by_cases z : a = b
    · rw [decide_eq_true z, z, decide_eq_true rfl]
    · rw [decide_eq_false z, decide_eq_false (fun q => z (V.int.inj q))]
  rw [e]; exact h⟩
theorem test (h : te σ H fun x H' => ∃ k, x = .bl k ∧ QB k H') : tTest te σ H QB := h
theorem tb' (h : te σ H fun x H' => ∃ k, x = .bl k ∧ QB k H') : tB te σ H QB := h
theorem exbl {b : Bool} {QP : Bool → Prop} (h : QP b) : ∃ k, V.bl b = .bl k ∧ QP k := ⟨b, rfl, h⟩
theorem and' (h : t σ H fun c H1 => if c = true then u σ H1 QB else QB false H1) : tAnd t u σ H QB := h
theorem or' (h : t σ H fun c H1 => if c = true then QB true H1 else u σ H1 QB) : tOr t u σ H QB := h
theorem not' (h : t σ H fun c H1 => QB (!c) H1) : tNot t σ H QB := h
theorem chain (h : ta σ H fun x H1 => tb σ H1 fun y H2 => r x y H2 fun z H3 => ∃ k, z = .bl k ∧ (if k = true then tc σ H3 fun w' H4 => r' y w' H4 Q else Q (.bl false) H3)) : tChain r r' ta tb tc σ H Q := h
theorem iteD {p : Prop} [Decidable p] (h1 : p → A) (h2 : ¬ p → B) : if decide p = true then A else B := by
  by_cases h : p
  · rw [if_pos (decide_eq_true h)]; exact h1 h
  · rw [if_neg (by rw [decide_eq_false h]; decide)]; exact h2 h
theorem iteND {p : Prop} [Decidable p] (h1 : ¬ p → A) (h2 : p → B) : if (!decide p) = true then A else B := by
  by_cases h : p
  · rw [decide_eq_true h, if_neg (by decide)]; exact h2 h
  · rw [decide_eq_false h, if_pos (by decide)]; exact h1 h
theorem iteDT {p : Prop} [Decidable p] (hp : p) (h1 : A) : if decide p = true then A else B := by rw [if_pos (decide_eq_true hp)]; exact h1
theorem iteDF {p : Prop} [Decidable p] (hp : ¬ p) (h1 : B) : if decide p = true then A else B := by rw [if_neg (by rw [decide_eq_false hp]; decide)]; exact h1
theorem iteNF (h1 : A) : if (!false) = true then A else B := by rw [if_pos (by decide)]; exact h1
theorem iteNT (h1 : B) : if (!true) = true then A else B := by rw [if_neg (by decide)]; exact h1
theorem iteB {b : Bool} (h1 : b = true → A) (h2 : b = false → B) : if b = true then A else B := by
  cases b with
  | true => exact h1 rfl
  | false => exact h2 rfl
theorem nil {Q : List V → Hp → Prop} (h : Q [] H) : tNil σ H Q := h
theorem cons {tr : TA} {Q : List V → Hp → Prop} (h : te σ H fun x H1 => tr σ H1 fun xs H2 => Q (x :: xs) H2) : tCons te tr σ H Q := h
theorem call {sp : Sp} {dvs : List V} {E : XK} {tg : TA} (h : tg σ H fun vs H1 => sp (vs ++ dvs) H1 Q E) : tCall sp dvs E tg σ H Q := h
theorem cb {rc : List V → Hp → VK → Prop} {tg : TA} (h : tg σ H fun vs H1 => rc vs H1 Q) : tCB rc tg σ H Q := h
theorem tup {tg : TA} (h : tg σ H fun xs H1 => xs.length ≤ sizeLine ∧ ∀ p, H1 p = none → Q (.ref p) (upd H1 p (.tup xs))) : tTup tg σ H Q := h
theorem lst {tg : TA} (h : tg σ H fun xs H1 => xs.length ≤ sizeLine ∧ ∀ p, H1 p = none → Q (.ref p) (upd H1 p (.lst xs))) : tLst tg σ H Q := h
theorem ifx (h : t σ H fun c H1 => if c = true then ta σ H1 Q else tb σ H1 Q) : tIf t ta tb σ H Q := h
theorem andV (h : ta σ H fun x H1 => ∃ c, x = .bl c ∧ if c = true then tb σ H1 Q else Q (.bl false) H1) : tAndV ta tb σ H Q := h
theorem orV (h : ta σ H fun x H1 => ∃ c, x = .bl c ∧ if c = true then Q (.bl true) H1 else tb σ H1 Q) : tOrV ta tb σ H Q := h
theorem notV (h : ta σ H fun x H1 => ∃ c, x = .bl c ∧ Q (.bl (!c)) H1) : tNotV ta σ H Q := h
theorem ixL {a : Addr} {xs : List V} {k : Int} (hs : SqL K H a xs) (ha : atI xs k = some v) (h : Q v H) : rIxL K (.ref a) (.int k) H Q := ⟨a, xs, k, v, rfl, rfl, hs, ha, h⟩
theorem ixT {a : Addr} {xs : List V} {k : Int} (hs : SqT K H a xs) (ha : atI xs k = some v) (h : Q v H) : rIxT K (.ref a) (.int k) H Q := ⟨a, xs, k, v, rfl, rfl, hs, ha, h⟩
theorem sub {to ti : TE} {tst : TSet} {Qs : L2.St → Hp → Prop} (h : to σ H fun o H1 => ti σ H1 fun i H2 => tst o i v H2 fun H3 => Qs σ H3) : gSub to ti tst v σ H Qs := h
theorem setL {a : Addr} {xs : List V} {j : Nat} {QH : Hp → Prop} (hl : H a = some (.lst xs)) (hj : j < xs.length) (h : QH (upd H a (.lst (xs.set j v)))) : rSetL (.ref a) (.int (j : Int)) v H QH := ⟨a, xs, (j : Int), j, rfl, rfl, hl, ixN_nat hj, h⟩
theorem bits (h : ta σ H fun x H1 => ∃ i, x = .int i ∧ Q (.int (Builtin.Int.intBits i : Nat)) H1) : tBits ta σ H Q := h
theorem exint {a : Int} {QI : Int → Prop} (h : QI a) : ∃ i, V.int a = .int i ∧ QI i := ⟨a, rfl, h⟩
theorem prop {C : Addr} {sp : Sp} {dvs : List V} {E : XK} (h : ta σ H fun x H1 => ∃ a dx fs, x = .ref a ∧ H1 a = some (.ins C dx fs) ∧ sp (.ref a :: dvs) H1 Q E) : tProp C sp dvs E ta σ H Q := h
theorem fld {f : Str} (h : ta σ H fun x H1 => ∃ a C dx fs v, x = .ref a ∧ H1 a = some (.ins C dx fs) ∧ Cls K C ∧ NoAttr K C f ∧ fs.lookup f = some v ∧ Q v H1) : tFld K ta f σ H Q := h
theorem meth {C : Addr} {m : Str} {sp : Sp} {dvs : List V} {E : XK} {tg : TA} (h : ta σ H fun x H1 => ∃ a dx fs, x = .ref a ∧ H1 a = some (.ins C dx fs) ∧ fs.lookup m = none ∧ tg σ H1 fun vs H2 => sp (x :: (vs ++ dvs)) H2 Q E) : tMeth C m sp dvs E ta tg σ H Q := h
theorem cInt1 {a : Int} {P1 : Int → Prop} {P2 : Bool → Prop} (h : P1 a) : (∃ i, [V.int a] = [V.int i] ∧ P1 i) ∨ (∃ k, [V.int a] = [V.bl k] ∧ P2 k) := .inl ⟨a, rfl, h⟩
theorem cI1 {a : Int} {P1 : Int → Prop} (h : P1 a) : ∃ i, [V.int a] = [V.int i] ∧ P1 i := ⟨a, rfl, h⟩
theorem cI2 {a b : Int} {P1 : Int → Int → Prop} (h : P1 a b) : ∃ i j, [V.int a, V.int b] = [V.int i, V.int j] ∧ P1 i j := ⟨a, b, rfl, h⟩
theorem isN {x : V} {P1 : V → Prop} (h : P1 (.bl (decide (x = .non)))) : (V.non = .non ∧ P1 (.bl (decide (x = .non)))) := ⟨rfl, h⟩
theorem isi_ii {a : Int} (h : Q (.bl true) H) : rIsi K [V.int a, V.ty "int"] H Q := ⟨_, _, _, _, true, rfl, .ty _, .base (.int a), kit_ty (by decide +kernel), h⟩
theorem isi_ib {a : Int} (h : Q (.bl false) H) : rIsi K [V.int a, V.ty "bool"] H Q := ⟨_, _, _, _, false, rfl, .ty _, .base (.int a), kit_ty (by decide +kernel), h⟩
theorem isi_tt {a : Addr} {xs : List V} (hx : H a = some (.tup xs)) (h : Q (.bl true) H) : rIsi K [V.ref a, V.ty "tuple"] H Q := ⟨_, _, _, _, true, rfl, .ty _, .base (.tup hx), kit_ty (by decide +kernel), h⟩
theorem isi_nt (h : Q (.bl false) H) : rIsi K [V.non, V.ty "tuple"] H Q := ⟨_, _, _, _, false, rfl, .ty _, .base .non, kit_ty (by decide +kernel), h⟩
theorem isi_ni (h : Q (.bl false) H) : rIsi K [V.non, V.ty "int"] H Q := ⟨_, _, _, _, false, rfl, .ty _, .base .non, kit_ty (by decide +kernel), h⟩
theorem isi_ll {a : Addr} {xs : List V} (hx : H a = some (.lst xs)) (h : Q (.bl true) H) : rIsi K [V.ref a, V.ty "list"] H Q := ⟨_, _, _, _, true, rfl, .ty _, .base (.lst hx), kit_ty (by decide +kernel), h⟩
theorem isi_lt {a : Addr} {xs : List V} (hx : H a = some (.lst xs)) (h : Q (.bl false) H) : rIsi K [V.ref a, V.ty "tuple"] H Q := ⟨_, _, _, _, false, rfl, .ty _, .base (.lst hx), kit_ty (by decide +kernel), h⟩
theorem isi_tl {a : Addr} {xs : List V} (hx : H a = some (.tup xs)) (h : Q (.bl false) H) : rIsi K [V.ref a, V.ty "list"] H Q := ⟨_, _, _, _, false, rfl, .ty _, .base (.tup hx), kit_ty (by decide +kernel), h⟩
theorem raise1 {C : Addr} {f : Str} {W : WX} {tg : TA} (h : tg σ H fun vs H1 => ∃ v, vs = [v] ∧ ∀ d, H1 d = none → W (.ref C) (some d) σ (upd H1 d (.xd [(f, v)]))) : tRaise1 C f W tg D σ H := h
theorem raise0 {C : Addr} {W : WX} (h : W (.ref C) none σ H) : tRaise0 C W D σ H := h
theorem exv {v : V} {P1 : V → Prop} (h : P1 v) : ∃ y, [v] = [y] ∧ P1 y := ⟨v, rfl, h⟩
def Turn (W : Nat → L2.St → Hp → Prop) (m : Nat) (tb : TS) (D : Ends) (σ : L2.St) (H : Hp) : Prop := ∃ N : L2.St → Hp → Prop, (∀ σ' H', N σ' H' → ∃ m', m' < m ∧ W m' σ' H') ∧ tb { D with nx := N, ct := N, bk := D.nx } σ H
theorem whl {tt : TT} {tb : TS} (W : Nat → L2.St → Hp → Prop) (m0 : Nat) (h0 : W m0 σ H)
    (hs : ∀ m σ H, W m σ H → tt σ H fun b H1 => if b = true then Turn W m tb D σ H1 else D.nx σ H1) : tWhile tt tb D σ H := ⟨W, ⟨m0, h0⟩, hs⟩
theorem turn {tb : TS} {W : Nat → L2.St → Hp → Prop} {m : Nat} (h : tb { D with nx := fun σ' H' => ∃ m', m' < m ∧ W m' σ' H', ct := fun σ' H' => ∃ m', m' < m ∧ W m' σ' H', bk := D.nx } σ H) : Turn W m tb D σ H := ⟨_, fun _ _ z => z, h⟩
def FW (J : It) (g : TG) (tb : TS) (D : Ends) (σ : L2.St) (H1 : Hp) : Prop := ∃ W : Nat → Nat → L2.St → Hp → Prop, (∃ m, W 0 m σ H1) ∧ ∀ i m σ H, W i m σ H →
  (J.stop i H ∧ D.nx σ H) ∨ (J.go i H ∧ ∃ N : L2.St → Hp → Prop, (∀ σ' H', N σ' H' → ∃ m', m' < m ∧ W (i + 1) m' σ' H') ∧ ∀ x H', J.yld i H x H' → g x σ H' fun σ2 H2 => tb { D with nx := N, ct := N, bk := D.nx } σ2 H2)
theorem for' {wi : TI} {g : TG} {tb : TS} (h : wi σ H fun J H1 => FW J g tb D σ H1) : tFor wi g tb D σ H := h
theorem rng1 {tg : TA} {R : It → Hp → Prop} (h : tg σ H fun vs H1 => ∃ j : Int, vs = [.int j] ∧ -(2 ^ 62) ≤ j ∧ j < 2 ^ 62 ∧ R (Itr 0 j.toNat) H1) : iRng1 tg σ H R := h
theorem rng2 {tg : TA} {R : It → Hp → Prop} (h : tg σ H fun vs H1 => ∃ i j : Int, vs = [.int i, .int j] ∧ (-(2 ^ 62) ≤ i ∧ i < 2 ^ 62 ∧ -(2 ^ 62) ≤ j ∧ j < 2 ^ 62) ∧ R (Itr i (j - i).toNat) H1) : iRng2 tg σ H R := h
theorem rngI {z : Int} {g : TG} {tb : TS} (n : Nat) (e : z = (n : Int)) (hn : n < 2 ^ 62) (h : FW (Itr 0 n) g tb D σ H) : -(2 ^ 62) ≤ z ∧ z < 2 ^ 62 ∧ FW (Itr 0 z.toNat) g tb D σ H := by
  subst e
  exact ⟨by omega, by omega, h⟩
theorem rngNN {x y : Int} (a n : Nat) {g : TG} {tb : TS} (ex : x = (a : Int)) (ey : y = (n : Int)) (ha : a < 2 ^ 62) (hn : n < 2 ^ 62) (h : FW (Itr a (n - a)) g tb D σ H) :
    (-(2 ^ 62) ≤ x ∧ x < 2 ^ 62 ∧ -(2 ^ 62) ≤ y ∧ y < 2 ^ 62) ∧ FW (Itr x (y - x).toNat) g tb D σ H := by
  subst ex ey
  exact ⟨by omega, by
    have e : ((n : Int) - (a : Int)).toNat = n - a := by omega
    rw [e]; exact h⟩
theorem fwR {tb : TS} {n : Nat} (Pv : Nat → L2.St → Hp → Prop) (h0 : Pv 0 σ H)
    (hs : ∀ k σ H, k < n → Pv k σ H → tb { D with nx := Pv (k + 1), ct := Pv (k + 1), bk := D.nx } (σ.set i (some (.int (k : Int)))) H) (hd : ∀ σ H, Pv n σ H → D.nx σ H) : FW (Itr 0 n) (gName i) tb D σ H :=
  for_range (lo := 0) (n := n) Pv h0 (fun k σ' H' hk pk => by
    have e0 : (0 : Int) + (k : Int) = (k : Int) := Int.zero_add _
    show tb { D with nx := Pv (k + 1), ct := Pv (k + 1), bk := D.nx } (σ'.set i (some (.int ((0 : Int) + (k : Int))))) H'
    rw [e0]
    exact hs k σ' H' hk pk) hd
theorem fwRa {tb : TS} {a n : Nat} (Pv : Nat → L2.St → Hp → Prop) (h0 : Pv a σ H) (hn : a ≤ n)
    (hs : ∀ k σ H, a ≤ k → k < n → Pv k σ H → tb { D with nx := Pv (k + 1), ct := Pv (k + 1), bk := D.nx } (σ.set i (some (.int (k : Int)))) H) (hd : ∀ σ H, Pv n σ H → D.nx σ H) : FW (Itr a (n - a)) (gName i) tb D σ H :=
  for_range (lo := a) (n := n - a) (fun k => Pv (a + k)) h0 (fun k σ' H' hk pk => by
    have e0 : ((a : Nat) : Int) + (k : Int) = ((a + k : Nat) : Int) := rfl
    show tb { D with nx := Pv (a + (k + 1)), ct := Pv (a + (k + 1)), bk := D.nx } (σ'.set i (some (.int (((a : Nat) : Int) + (k : Int))))) H'
    rw [e0]
    exact hs (a + k) σ' H' (by omega) (by omega) pk) (fun σ' H' p => hd σ' H' (by
      have e : a + (n - a) = n := by omega
      rw [e] at p; exact p))
theorem ilist {tl : TE} {R : It → Hp → Prop} (h : tl σ H fun x H1 => ∃ a, x = .ref a ∧ (∃ xs, SqL K H1 a xs) ∧ R (Itl K a) H1) : iList K tl σ H R := h
theorem itup {tl : TE} {R : It → Hp → Prop} (h : tl σ H fun x H1 => ∃ a, x = .ref a ∧ (∃ xs, SqT K H1 a xs) ∧ R (Itt K a) H1) : iTup K tl σ H R := h
theorem ilistN {a : Addr} {xs : List V} {g : TG} {tb : TS} (hs : SqL K H a xs) (h : FW (Itl K a) g tb D σ H) : ∃ b, V.ref a = .ref b ∧ (∃ xs, SqL K H b xs) ∧ FW (Itl K b) g tb D σ H := ⟨a, rfl, ⟨xs, hs⟩, h⟩
theorem itupN {a : Addr} {xs : List V} {g : TG} {tb : TS} (hs : SqT K H a xs) (h : FW (Itt K a) g tb D σ H) : ∃ b, V.ref a = .ref b ∧ (∃ xs, SqT K H b xs) ∧ FW (Itt K b) g tb D σ H := ⟨a, rfl, ⟨xs, hs⟩, h⟩
theorem fwL {a : Addr} {xs : List V} {tb : TS} (Pv : Nat → L2.St → Hp → Prop) (h0 : Pv 0 σ H) (hl : ∀ k σ H, k ≤ xs.length → Pv k σ H → SqL K H a xs)
    (hs : ∀ k x σ H, xs[k]? = some x → Pv k σ H → tb { D with nx := Pv (k + 1), ct := Pv (k + 1), bk := D.nx } (σ.set i (some x)) H) (hd : ∀ σ H, Pv xs.length σ H → D.nx σ H) : FW (Itl K a) (gName i) tb D σ H :=
  for_list Pv h0 hl hs hd
theorem fwT {a : Addr} {xs : List V} {tb : TS} (Pv : Nat → L2.St → Hp → Prop) (h0 : Pv 0 σ H) (hl : ∀ k σ H, k ≤ xs.length → Pv k σ H → SqT K H a xs)
    (hs : ∀ k x σ H, xs[k]? = some x → Pv k σ H → tb { D with nx := Pv (k + 1), ct := Pv (k + 1), bk := D.nx } (σ.set i (some x)) H) (hd : ∀ σ H, Pv xs.length σ H → D.nx σ H) : FW (Itt K a) (gName i) tb D σ H :=
  for_tup Pv h0 hl hs hd
theorem par {j : Nat} {tg : TA} (h : tg σ H fun vs H1 => ∃ v w, vs = [v, w] ∧ D.nx ((σ.set i (some v)).set j (some w)) H1) : tPar i j tg D σ H := h
theorem parN {w : V} {Qn : V → V → Prop} (h : Qn v w) : ∃ a b, [v, w] = [a, b] ∧ Qn a b := ⟨v, w, rfl, h⟩
theorem pe_gI {z : Int} {s : Str} {pos : Pos} (hg : Gl X s) (hm : ∃ tk, X.mg s = some (.int z tk)) (hd : (s == ("__debug__" : Str)) = false := by decide) : PE X (.Name s pos) (tC (.int z)) := by
  obtain ⟨tk, hm⟩ := hm
  exact pe_glob hg hm ⟨tk, rfl⟩ hd
theorem cut {Mid : L2.St → Hp → Prop} (h : ts { D with nx := Mid } σ H) (k : ∀ σ' H', Mid σ' H' → us D σ' H') : tCut ts us D σ H := ⟨Mid, h, k⟩
end
end KR
namespace PySem
namespace KX
open Builtin
theorem meets_enum1 {v : Value} {o : Obj} {H : Heap → Prop} (B : Begins v o H) :
    Meets (Builtin.«enumerate.__new__» ⟨[.type "enumerate", v], []⟩) (fun _ R s => H s.heap ∧
      R (.ok (.ret (.ref (s.heap.push o).objs.size))) { s with heap := (s.heap.push o).push { cls := .type "enumerate", data := .fields #[.none, .bool false, .ref s.heap.objs.size, rawInt 0, .none, .none] } }) :=
  .of_wp fun prog w A R s h => by
    obtain ⟨hp, g, d, tk, os⟩ := s
    obtain ⟨h1, h⟩ := h
    have hsub := sub_enumerate
    have q1 : ∀ {A' : Around} {E : Value → Shared → Prop} {Q : Value → Shared → Prop}, Q (.ref hp.objs.size) ⟨hp.push o, g, d, tk, os⟩ → wpAny (model prog w) A' (pyIter v) Q E ⟨hp, g, d, tk, os⟩ := fun q => B.iter prog w _ _ ⟨hp, g, d, tk, os⟩ _ h1 q
    wp_walk using q1
    refine wpAny_stack_any fun st => wpAny_pure ?_
    split
    · rename_i c _ _ _ _ _
      cases (c == Value.type "enumerate")
      · wp_walk using q1
        exact ⟨_, rfl, h⟩
      · wp_walk using q1
        exact ⟨_, rfl, h⟩
    · wp_walk using q1
      exact ⟨_, rfl, h⟩
section
variable {prog : Program} {w : World} {A : Around} {E : Value → Shared → Prop} {s : Shared}
theorem call_enum1 {v : Value} {o : Obj} {H : Heap → Prop} {Q : Value → Shared → Prop} (B : Begins v o H) (h1 : H s.heap)
    (h : ∀ h', IsEnum h' (s.heap.objs.size + 1) s.heap.objs.size 0 .none → h'.get? s.heap.objs.size = some o → (∀ b o, s.heap.get? b = some o → h'.get? b = some o) → Q (.ref (s.heap.objs.size + 1)) { s with heap := h' }) :
    wpAny (model prog w) A (call (.type "enumerate") [v]) Q E s := by
  refine callType_new F.called_enumerate (by decide) (F.typeCall_enumerate_1 _) (F.newCall_enumerate_1 _) (fun obj => F.args_object_init_2 obj _) F.entry_enumerate_new (meets_enum1 B) ⟨h1, ?_⟩
  have hz : (s.heap.push o).objs.size = s.heap.objs.size + 1 := Heap.size_push ..
  show _ ∧ _
  rw [hz]
  have he : IsEnum ((s.heap.push o).push { cls := .type "enumerate", data := .fields #[.none, .bool false, .ref s.heap.objs.size, rawInt 0, .none, .none] }) (s.heap.objs.size + 1) s.heap.objs.size 0 .none := by
    have := Heap.get?_push_size (s.heap.push o) (o := { cls := .type "enumerate", data := .fields #[.none, .bool false, .ref s.heap.objs.size, rawInt 0, .none, .none] }) rfl
    rw [hz] at this
    exact this
  exact ⟨⟨_, he, rfl⟩, h _ he (Heap.get?_push_of_some _ (Heap.get?_push_size _ B.free)) fun b o x => Heap.get?_push_of_some _ (Heap.get?_push_of_some _ x)⟩
end
end KX
end PySem
namespace L2
open PySem PySem.Spec PyProof.Rows
def IteT (K : PySem.W.Frag) (a : Addr) : It :=
  ⟨fun i H => ∃ (xs : List V) (x : V), SqT K H a xs ∧ xs[i]? = some x, fun i H v H' => ∃ T x, v = .ref T ∧ H T = none ∧ H' = upd H T (.tup [.int (i : Nat), x]) ∧ ∀ xs, SqT K H a xs → xs[i]? = some x, fun i H => ∃ xs : List V, SqT K H a xs ∧ xs.length ≤ i⟩
theorem turn_enumT {P : Program} {w : World} {K : PySem.W.Frag} {elts : List Expr} {kk : Nat} {tpos : Pos} (a e it : Addr) :
    Turn P w K (.Tuple elts kk tpos) (IteT K a) [e, it] e (fun i h => (∃ old, IsEnum h e it ((i : Nat) : Int) old) ∧ h.IsTupleIter it a i ∧ e ≠ it) where
  mem := by simp
  obj := fun i h st b hb => by
    obtain ⟨⟨old, he⟩, ⟨o, ho, hc, hd⟩, _⟩ := st
    have e' : b = e ∨ b = it := by simpa using hb
    rcases e' with z | z
    · rw [z]; exact ⟨_, he, fun v q => nomatch q⟩
    · rw [z]; exact ⟨o, ho, fun v q => by rw [hd] at q; cases q⟩
  keep := fun i h h' st k => by
    obtain ⟨⟨old, he⟩, hi, hne⟩ := st
    exact ⟨⟨old, k e (by simp) _ he⟩, hi.at fun o q => k it (by simp) o q, hne⟩
  item := by
    intro X hP hw hK hc i pins s σ H E I hf st hg
    subst hP hw hK
    obtain ⟨⟨old, he⟩, hit, hne⟩ := st
    obtain ⟨xs, x, hq, hx⟩ := hg
    obtain ⟨its, rv, p, hz⟩ := I.tuple hq
    have pT : s.heap.IsTuple a its.toArray := p
    obtain ⟨u, hu, ru⟩ := rv.get hx
    have hel : e < s.heap.objs.size := Heap.lt_size he
    have hil : it < s.heap.objs.size := by
      obtain ⟨_, q, _⟩ := hit
      exact Heap.lt_size q
    have hia : a ≠ it := fun z => by
      obtain ⟨o, ho, hoc, _⟩ := hit
      obtain ⟨o2, ho2, hc2, _⟩ := pT
      rw [z, ho] at ho2
      cases ho2
      rw [hoc] at hc2
      injection hc2 with z2
      exact absurd z2 (by decide)
    have hea : e ≠ a := fun z => by
      obtain ⟨o2, ho2, hc2, _⟩ := pT
      rw [← z, he] at ho2
      cases ho2
      injection hc2 with z2
      exact absurd z2 (by decide)
    have hh : X.A.in1.handled = none := I.ok.hd hc
    have hlt : i < its.toArray.size := by
      have h1 := (List.getElem?_eq_some_iff.mp hu).1
      simpa using h1
    refine wpAny_pyNext_enum_itemD (Draws.tuple hh it a hia its.toArray) he ⟨hit, pT⟩ hlt hne (by simp [hne, hea]) fun y h' tk hy ho hit' hT hsz hk => ?_
    have ey : y = u := by
      have hy' : its.toArray[i]? = some y := hy
      have hy2 : its[i]? = some y := by simpa using hy'
      rw [hu] at hy2
      exact (Option.some.inj hy2).symm
    subst ey
    refine ⟨_, rfl, wpAny_letOwnedTupleGo_enum (s := { s with heap := h', toks := tk + 1 }) ho fun h'' he' sb => ?_⟩
    have hT2 : h''.get? s.heap.objs.size = some { cls := .type "tuple", data := .seq #[.int i tk, y] } := (sb.2 _ (Nat.ne_of_gt hel)).trans hT
    have new : ObjOk X.prog X.w (upd H s.heap.objs.size (.tup [.int (i : Nat), x])) h'' s.heap.objs.size (.tup [.int (i : Nat), x]) :=
      ⟨by show 2 ≤ sizeLine; decide, [.int i tk, y], .cons ⟨_, rfl⟩ (.cons ru .nil), ⟨_, hT2, rfl, _, rfl⟩⟩
    have I1 : Inv X pins σ (upd H s.heap.objs.size (.tup [.int (i : Nat), x])) { s with heap := h'', toks := tk + 1 } :=
      I.turnedNew (ch := [e, it]) (fun b ob hb q => (sb.2 b (fun z => hb (by simp [z]))).trans (hk b ob (fun z => hb (by simp [z])) (fun z => hb (by simp [z])) q)) hf (Nat.le_refl _) new
    refine ⟨.ref s.heap.objs.size, _, I1, rfl, ⟨_, x, rfl, I.hok.fresh (Nat.le_refl _), rfl, fun ys hy => by rw [I.tuple_inj hy hq]; exact hx⟩, ⟨⟨y, ?_⟩, hit'.1.at fun o q => (sb.2 it (Ne.symm hne)).trans q, hne⟩, fun b hb => ?_⟩
    · have e1 : ((i + 1 : Nat) : Int) = (i : Int) + 1 := by omega
      rw [e1]; exact he'
    · have hb' : b < s.heap.objs.size := by
        have e' : b = e ∨ b = it := by simpa using hb
        rcases e' with z | z
        · rw [z]; exact hel
        · rw [z]; exact hil
      rw [upd_ne (Nat.ne_of_lt hb')]
      exact (hf b hb).1
  done := by
    intro X hP hw hK hc i pins s σ H E I hf st hg
    subst hP hw hK
    obtain ⟨⟨old, he⟩, hit, hne⟩ := st
    obtain ⟨xs, hq, hx⟩ := hg
    obtain ⟨its, rv, p, hz⟩ := I.tuple hq
    have pT : s.heap.IsTuple a its.toArray := p
    obtain ⟨f0, f1, f2, f3, f4, f5⟩ := hf it (by simp)
    have hl := rv.length
    have hT : s.TypeIs (.ref e) "enumerate" := ⟨_, he, rfl⟩
    have hh : X.A.in1.handled = none := I.ok.hd hc
    unfold pyNext
    refine wpAny_bind (wpAny_attempt (wpAny_callSpecial?_slot (name := Str.ofString "__next__") hT F.slot_enumerate_next (wpAny_call_entry F.slot_enumerate_next hT F.entry_enumerate_next ?_ (F.args_enumerate_next_1 _))))
    show wpAny _ _ (field (.ref e) 2 >>= _) _ _ _
    refine wpAny_bind (wpAny_field he rfl (x := .ref it) rfl ?_)
    refine wpAny_bind (wpAny_nextOf_tuple_end hh hit pT (by simp; omega) fun h' x he' hx' => ?_)
    obtain ⟨o, ho, hc'⟩ := hx'
    refine wpAny_bind (wpAny_isInstance (T := "StopIteration") (b := true) ⟨o, ho, hc'⟩ isSubtype_stop ?_)
    exact wpAny_pure ⟨rfl, I.turned (t' := s.toks) (fun b o hb q => he' b o hb q) f0 f1 f3 f4 f5⟩
  self := fun A i s Q E st h => by
    obtain ⟨⟨_, he⟩, _⟩ := st
    exact wpAny_pyIter_enum he h
def iEnumT (K : PySem.W.Frag) (ta : TA) : TI := fun σ H R => ta σ H fun vs H1 => ∃ a xs, vs = [.ref a] ∧ SqT K H1 a xs ∧ R (IteT K a) H1
theorem pi_enumT {X : Cx} {e : Expr} {ta : TA} {p pos tpos : Pos} {elts : List Expr} {kk : Nat} (hg : Gl X "enumerate") (hm : X.mg "enumerate" = none) (ha : PA X [e] ta) (hs : starEach [e] X.env = [(false, eval e X.env)] := by rfl) :
    PI X (.Tuple elts kk tpos) (.Call (.Name "enumerate" p) [e] [] pos) (iEnumT X.K ta) := by
  refine ⟨fun pins s σ H R I h => ?_⟩
  refine Call_ (ld_blt I hg hm boot_enumerate (PyProof.Rows.callWith_type1 (thn (ha.run pos pins s σ H _ I h) fun us s1 ⟨vs, H1, I1, r1, q1⟩ => ?_) hs rfl))
  obtain ⟨a, xs, ex, hq, q⟩ := q1
  subst ex
  cases r1 with
  | cons r rr =>
    cases rr
    cases r
    obtain ⟨its, rv, p', hz⟩ := I1.tuple hq
    refine PySem.KX.call_enum1 (begins_tuple a its.toArray) (show s1.heap.IsTuple a its.toArray from p') fun h' he hit hk => wpAny_pyIter_enum he ?_
    have I2 : Inv X pins σ H1 { s1 with heap := h' } := I1.kept (t' := s1.toks) hk
    refine ⟨s1.heap.objs.size + 1, [s1.heap.objs.size + 1, s1.heap.objs.size], _, _, H1, rfl, I2, turn_enumT a (s1.heap.objs.size + 1) s1.heap.objs.size, ⟨⟨.none, he⟩, ⟨_, hit, rfl, rfl⟩, Nat.succ_ne_self _⟩, fun b hb => ?_, q⟩
    have e' : b = s1.heap.objs.size + 1 ∨ b = s1.heap.objs.size := by simpa using hb
    have hle : s1.heap.objs.size ≤ b := by
      rcases e' with z | z
      · rw [z]; exact Nat.le_add_right _ _
      · rw [z]; exact Nat.le_refl _
    exact I1.fpOk hle (I1.hok.fresh hle)
end L2
namespace KR
open PySem PySem.Spec L2
theorem ienT {K : PySem.W.Frag} {tg : TA} {σ : L2.St} {H : Hp} {R : It → Hp → Prop} (h : tg σ H fun vs H1 => ∃ a xs, vs = [.ref a] ∧ SqT K H1 a xs ∧ R (IteT K a) H1) : iEnumT K tg σ H R := h
theorem fwET {K : PySem.W.Frag} {D : Ends} {σ : L2.St} {H : Hp} {i j : Nat} {a : Addr} {xs : List V} {tb : TS} (Pv : Nat → L2.St → Hp → Prop) (h0 : Pv 0 σ H) (hl : ∀ k σ H, k ≤ xs.length → Pv k σ H → SqT K H a xs)
    (hs : ∀ k x σ H T, xs[k]? = some x → Pv k σ H → H T = none → tb { D with nx := Pv (k + 1), ct := Pv (k + 1), bk := D.nx } ((σ.set i (some (.int (k : Int)))).set j (some x)) (upd H T (.tup [.int (k : Int), x]))) (hd : ∀ σ H, Pv xs.length σ H → D.nx σ H) :
    FW (IteT K a) (gTup K 2 (gCons (gName i) (gCons (gName j) gNil))) tb D σ H := by
  refine ⟨fun k m σ H => m = xs.length - k ∧ k ≤ xs.length ∧ Pv k σ H, ⟨_, rfl, Nat.zero_le _, h0⟩, ?_⟩
  rintro k m σ H ⟨rfl, hk, p⟩
  have q := hl k σ H hk p
  by_cases hlt : k < xs.length
  · refine .inr ⟨⟨xs, xs[k], q, by simp [hlt]⟩, Pv (k + 1), fun σ' H' p' => ⟨xs.length - (k + 1), by omega, rfl, hlt, p'⟩, fun x H' hy => ?_⟩
    obtain ⟨T, y, rfl, nT, rfl, hy⟩ := hy
    exact ⟨T, _, rfl, .inl (.inl upd_same), rfl, _, _, rfl, _, _, rfl, rfl, hs k y σ H T (hy xs q) p nT⟩
  · exact .inl ⟨⟨xs, q, by omega⟩, hd σ H (by
      have e : k = xs.length := by omega
      rw [e] at p; exact p)⟩
end KR
namespace KR
open PySem PySem.Spec L2
section
variable {X : Cx} {K : PySem.W.Frag} {σ : L2.St} {H : Hp} {D : Ends} {tt : TT} {te : TE} {Q : VK} {i j : Nat} {v x y : V} {vs : List Nat}
def LW (J : It) (g : TG) (tt : TT) (te : TE) (vs : List Nat) (σ : L2.St) (Q : VK) (H1 : Hp) : Prop := ∀ D, H1 D = none → ∃ W : Nat → Nat → Hp → Prop, (∃ m, W 0 m (upd H1 D (.lst []))) ∧ ∀ i m H, W i m H →
  (J.stop i H ∧ Q (.ref D) H) ∨ (J.go i H ∧ ∃ Nx : Hp → Prop, (∀ H', Nx H' → ∃ m', m' < m ∧ W (i + 1) m' H') ∧ ∀ x H', J.yld i H x H' → g x (wipe σ vs) H' fun σ2 H2 => wipe σ2 vs = wipe σ vs ∧ tt σ2 H2 fun b H3 =>
    if b = true then te σ2 H3 fun y H4 => ∃ acc, H4 D = some (.lst acc) ∧ acc.length < sizeLine ∧ Nx (upd H4 D (.lst (acc ++ [y]))) else Nx H3)
theorem lc {wi : TI} {g : TG} (h : wi σ H fun J H1 => LW J g tt te vs σ Q H1) : tLc wi g tt te vs σ H Q := h
theorem lrngI {z : Int} {g : TG} (n : Nat) (e : z = (n : Int)) (hn : n < 2 ^ 62) (h : LW (Itr 0 n) g tt te vs σ Q H) : -(2 ^ 62) ≤ z ∧ z < 2 ^ 62 ∧ LW (Itr 0 z.toNat) g tt te vs σ Q H := by
  subst e
  exact ⟨by omega, by omega, h⟩
theorem lrngNN {x y : Int} (a n : Nat) {g : TG} (ex : x = (a : Int)) (ey : y = (n : Int)) (ha : a < 2 ^ 62) (hn : n < 2 ^ 62) (h : LW (Itr a (n - a)) g tt te vs σ Q H) :
    (-(2 ^ 62) ≤ x ∧ x < 2 ^ 62 ∧ -(2 ^ 62) ≤ y ∧ y < 2 ^ 62) ∧ LW (Itr x (y - x).toNat) g tt te vs σ Q H := by
  subst ex ey
  exact ⟨by omega, by
    have e : ((n : Int) - (a : Int)).toNat = n - a := by omega
    rw [e]; exact h⟩
theorem llistN {a : Addr} {xs : List V} {g : TG} (hs : SqL K H a xs) (h : LW (Itl K a) g tt te vs σ Q H) : ∃ b, V.ref a = .ref b ∧ (∃ xs, SqL K H b xs) ∧ LW (Itl K b) g tt te vs σ Q H := ⟨a, rfl, ⟨xs, hs⟩, h⟩
theorem ltupN {a : Addr} {xs : List V} {g : TG} (hs : SqT K H a xs) (h : LW (Itt K a) g tt te vs σ Q H) : ∃ b, V.ref a = .ref b ∧ (∃ xs, SqT K H b xs) ∧ LW (Itt K b) g tt te vs σ Q H := ⟨a, rfl, ⟨xs, hs⟩, h⟩
def giv (f : Nat → Bool) (v : Nat → V) (a : Nat) : Nat → List V
  | 0 => []
  | k + 1 => giv f v a k ++ (if f (a + k) = true then [v (a + k)] else [])
theorem giv_len (f : Nat → Bool) (v : Nat → V) (a : Nat) : ∀ k, (giv f v a k).length ≤ k
  | 0 => Nat.le_refl _
  | k + 1 => by
    have ih := giv_len f v a k
    unfold giv
    rw [List.length_append]
    split
    · show _ + 1 ≤ _
      omega
    · show _ + 0 ≤ _
      omega
theorem giv_all {f : Nat → Bool} (v : Nat → V) (h : ∀ k, f k = true) : ∀ n, giv f v 0 n = (List.range n).map v
  | 0 => rfl
  | n + 1 => by
    unfold giv
    rw [Nat.zero_add, if_pos (h n), giv_all v h n, List.range_succ, List.map_append]
    rfl
theorem lturn {f : Bool} {z : V} {D0 : Addr} {acc : List V} {Hk : Hp} {σ2 : L2.St} {Nx : Hp → Prop} (hD : H D0 = none) (e : Evl.Ex H Hk) (hk : Hk D0 = some (.lst acc)) (hl : acc.length < 100000) (ht : Evl.EvT tt σ2 H f) (he : f = true → Evl.Ev te σ2 H z)
    (q1 : ∀ H4, f = true → Evl.Ex H H4 → H4 D0 = some (.lst acc) → Nx (upd H4 D0 (.lst (acc ++ [z])))) (q2 : ∀ H4, f = false → Evl.Ex H H4 → H4 D0 = some (.lst acc) → Nx H4) :
    tt σ2 Hk fun b H3 => if b = true then te σ2 H3 fun y H4 => ∃ acc, H4 D0 = some (.lst acc) ∧ acc.length < sizeLine ∧ Nx (upd H4 D0 (.lst (acc ++ [y]))) else Nx H3 := by
  refine ht Hk e _ fun H3 e3 => ?_
  cases f with
  | true =>
    rw [if_pos rfl]
    exact he rfl H3 (e.trans e3) _ fun H4 e4 => ⟨acc, e4 D0 _ (e3 D0 _ hk), Evl.sz_lt hl, q1 H4 rfl ((e.trans e3).trans e4) (e4 D0 _ (e3 D0 _ hk))⟩
  | false =>
    rw [if_neg Bool.false_ne_true]
    exact q2 H3 rfl (e.trans e3) (e3 D0 _ hk)
theorem lwR {a n : Nat} (f : Nat → Bool) (v : Nat → V) (hn : n < 50000) (hw : ∀ x, wipe ((wipe σ vs).set j (some x)) vs = wipe σ vs)
    (ht : ∀ k H1, Evl.Ex H H1 → a ≤ k → k < n → Evl.EvT tt ((wipe σ vs).set j (some (.int (k : Int)))) H1 (f k)) (he : ∀ k H1, Evl.Ex H H1 → a ≤ k → k < n → f k = true → Evl.Ev te ((wipe σ vs).set j (some (.int (k : Int)))) H1 (v k))
    (hd : ∀ p H2, H p = none → Evl.Ex H H2 → H2 p = some (.lst (giv f v a (n - a))) → Q (.ref p) H2) : LW (Itr a (n - a)) (gName j) tt te vs σ Q H := fun D0 hD => by
  refine lc_range (lo := a) (n := n - a) (fun k H' => Evl.Ex H H' ∧ H' D0 = some (.lst (giv f v a k))) ⟨Evl.Ex.new hD, upd_same⟩ (fun k H' hk ⟨e, h'⟩ => ?_) (fun H' ⟨e, h'⟩ => hd D0 H' hD e h')
  have e0 : ((a : Nat) : Int) + (k : Int) = ((a + k : Nat) : Int) := rfl
  show wipe ((wipe σ vs).set j (some (.int (((a : Nat) : Int) + (k : Int))))) vs = wipe σ vs ∧ _
  refine ⟨hw _, ?_⟩
  show tt ((wipe σ vs).set j (some (.int (((a : Nat) : Int) + (k : Int))))) H' _
  rw [e0]
  have hle := giv_len f v a k
  refine lturn hD e h' (by omega) (ht (a + k) H (Evl.Ex.refl H) (by omega) (by omega)) (fun hf => he (a + k) H (Evl.Ex.refl H) (by omega) (by omega) hf) (fun H4 hf e4 h4 => ?_) (fun H4 hf e4 h4 => ?_)
  · refine ⟨Evl.Ex.mut e4 hD, ?_⟩
    rw [upd_same]
    show _ = some (HO.lst (giv f v a k ++ (if f (a + k) = true then [v (a + k)] else [])))
    rw [if_pos hf]
  · refine ⟨e4, ?_⟩
    show _ = some (HO.lst (giv f v a k ++ (if f (a + k) = true then [v (a + k)] else [])))
    rw [if_neg (by rw [hf]; decide), List.append_nil]
    exact h4
theorem lwL {a : Addr} {xs : List V} (f : Nat → Bool) (v : Nat → V) (hx : SqL K H a xs) (hn : xs.length < 50000) (hw : ∀ x, wipe ((wipe σ vs).set j (some x)) vs = wipe σ vs)
    (ht : ∀ k x H1, Evl.Ex H H1 → xs[k]? = some x → Evl.EvT tt ((wipe σ vs).set j (some x)) H1 (f k)) (he : ∀ k x H1, Evl.Ex H H1 → xs[k]? = some x → f k = true → Evl.Ev te ((wipe σ vs).set j (some x)) H1 (v k))
    (hd : ∀ p H2, H p = none → Evl.Ex H H2 → H2 p = some (.lst (giv f v 0 xs.length)) → Q (.ref p) H2) : LW (Itl K a) (gName j) tt te vs σ Q H := fun D0 hD => by
  refine lc_list (xs := xs) (fun k H' => Evl.Ex H H' ∧ H' D0 = some (.lst (giv f v 0 k))) ⟨Evl.Ex.new hD, upd_same⟩ (fun k H' _ ⟨e, _⟩ => Evl.ex_l e hx) (fun k x H' hk ⟨e, h'⟩ => ?_) (fun H' ⟨e, h'⟩ => hd D0 H' hD e h')
  refine ⟨hw _, ?_⟩
  show tt ((wipe σ vs).set j (some x)) H' _
  have hle := giv_len f v 0 k
  have hlt := (List.getElem?_eq_some_iff.mp hk).1
  refine lturn hD e h' (by omega) (ht k x H (Evl.Ex.refl H) hk) (fun hf => he k x H (Evl.Ex.refl H) hk hf) (fun H4 hf e4 h4 => ?_) (fun H4 hf e4 h4 => ?_)
  · refine ⟨Evl.Ex.mut e4 hD, ?_⟩
    rw [upd_same]
    show _ = some (HO.lst (giv f v 0 k ++ (if f (0 + k) = true then [v (0 + k)] else [])))
    rw [Nat.zero_add, if_pos hf]
  · refine ⟨e4, ?_⟩
    show _ = some (HO.lst (giv f v 0 k ++ (if f (0 + k) = true then [v (0 + k)] else [])))
    rw [Nat.zero_add, if_neg (by rw [hf]; decide), List.append_nil]
    exact h4
theorem etYes : Evl.EvT tYes σ H true := fun H1 _ Q q => q H1 (Evl.Ex.refl H1)
theorem ev_of (h : ∀ H1, Evl.Ex H H1 → ∀ Q : VK, (∀ H2, Evl.Ex H1 H2 → Q v H2) → te σ H1 Q) : Evl.Ev te σ H v := h
theorem et_of {b : Bool} (h : ∀ H1, Evl.Ex H H1 → ∀ Q : Bool → Hp → Prop, (∀ H2, Evl.Ex H1 H2 → Q b H2) → tt σ H1 Q) : Evl.EvT tt σ H b := h
theorem truL {K : PySem.W.Frag} {a : Addr} {xs : List V} {P1 : Bool → Prop} (hs : SqL K H a xs) (h : P1 (!xs.isEmpty)) : ∃ k, TruV K (.ref a) H k ∧ P1 k := ⟨_, .inl ⟨xs, hs, rfl⟩, h⟩
theorem truLb {K : PySem.W.Frag} {a : Addr} {xs : List V} {P1 : Bool → Prop} (b : Bool) (hs : SqL K H a xs) (hb : b = !xs.isEmpty) (h : P1 b) : ∃ k, TruV K (.ref a) H k ∧ P1 k := ⟨_, .inl ⟨xs, hs, hb⟩, h⟩
theorem truI {K : PySem.W.Frag} {z : Int} {P1 : Bool → Prop} (h : P1 (z != 0)) : ∃ k, TruV K (.int z) H k ∧ P1 k := ⟨_, rfl, h⟩
theorem isNo {P1 : Prop} (h : P1) : V.non = V.non ∧ P1 := ⟨rfl, h⟩
section
variable {A B : Prop}
theorem nnT (h : A) : if decide (V.non = V.non) = true then A else B := by rw [if_pos (by decide)]; exact h
theorem niF {z : Int} (h : B) : if decide (V.int z = V.non) = true then A else B := by rw [if_neg (by rw [decide_eq_false (by intro q; cases q)]; decide)]; exact h
theorem nrF {a : Addr} (h : B) : if decide (V.ref a = V.non) = true then A else B := by rw [if_neg (by rw [decide_eq_false (by intro q; cases q)]; decide)]; exact h
theorem mnT (h : B) : if (!decide (V.non = V.non)) = true then A else B := by rw [if_neg (by decide)]; exact h
theorem miF {z : Int} (h : A) : if (!decide (V.int z = V.non)) = true then A else B := by rw [if_pos (by rw [decide_eq_false (by intro q; cases q)]; rfl)]; exact h
theorem mrF {a : Addr} (h : A) : if (!decide (V.ref a = V.non)) = true then A else B := by rw [if_pos (by rw [decide_eq_false (by intro q; cases q)]; rfl)]; exact h
end
theorem whlF {ts : TS} (ht : ∀ QB : Bool → Hp → Prop, QB false H → tt σ H QB) (h : D.nx σ H) : tWhile tt ts D σ H :=
  ⟨fun m σ' H' => σ' = σ ∧ H' = H, ⟨0, rfl, rfl⟩, fun m σ' H' ⟨e1, e2⟩ => by
    subst e1 e2
    exact ht _ (by rw [if_neg Bool.false_ne_true]; exact h)⟩
theorem ifF {ts us : TS} (ht : ∀ QB : Bool → Hp → Prop, QB false H → tt σ H QB) (h : us D σ H) : tIfS tt ts us D σ H := ht _ (by rw [if_neg Bool.false_ne_true]; exact h)
theorem ifT {ts us : TS} (ht : ∀ QB : Bool → Hp → Prop, QB true H → tt σ H QB) (h : ts D σ H) : tIfS tt ts us D σ H := ht _ (by rw [if_pos rfl]; exact h)
theorem ifFx {ts us : TS} (ht : ∀ QB : Bool → Hp → Prop, (∀ H2, Evl.Ex H H2 → QB false H2) → tt σ H QB) (h : ∀ H2, Evl.Ex H H2 → us D σ H2) : tIfS tt ts us D σ H := ht _ (fun H2 e => by rw [if_neg Bool.false_ne_true]; exact h H2 e)
theorem ifTx {ts us : TS} (ht : ∀ QB : Bool → Hp → Prop, (∀ H2, Evl.Ex H H2 → QB true H2) → tt σ H QB) (h : ∀ H2, Evl.Ex H H2 → ts D σ H2) : tIfS tt ts us D σ H := ht _ (fun H2 e => by rw [if_pos rfl]; exact h H2 e)
theorem sfld {K : PySem.W.Frag} {ta tv : TE} {f : Str} (h : tv σ H fun y H1 => ta σ H1 fun x H2 => ∃ a C dx fs, x = .ref a ∧ H2 a = some (.ins C dx fs) ∧ Cls K C ∧ NoAttr K C f ∧ fs.length < 1000 ∧ D.nx σ (upd H2 a (.ins C dx (putF f y fs)))) : sFld K ta tv f D σ H := h
theorem sl {r : V → Option Int → Option Int → Hp → VK → Prop} {tl th : TO} (h : te σ H fun x H1 => tl σ H1 fun l H2 => th σ H2 fun u H3 => r x l u H3 Q) : tSl r te tl th σ H Q := h
theorem part {QO : Option Int → Hp → Prop} (h : te σ H fun x H1 => ∃ i, x = .int i ∧ QO (some i) H1) : tPart te σ H QO := h
theorem nopart {QO : Option Int → Hp → Prop} (h : QO none H) : tNoPart σ H QO := h
theorem slL {K : PySem.W.Frag} {a : Addr} {xs : List V} {lo hi : Option Int} (hs : SqL K H a xs) (h : ∀ p, H p = none → Q (.ref p) (upd H p (.lst (cutV xs lo hi)))) : rSlL K (.ref a) lo hi H Q := ⟨a, xs, rfl, hs, h⟩
theorem ix_tupK {K : PySem.W.Frag} (h : X.K = K) : IxR X (rIxT K) := by
  subst h
  exact ix_tup
theorem ix_listK {K : PySem.W.Frag} (h : X.K = K) : IxR X (rIxL K) := by
  subst h
  exact ix_list
theorem len_seqK {K : PySem.W.Frag} (h : X.K = K) : CallR X (.builtin "len") (fun xs H Q => ∃ p ys, xs = [.ref p] ∧ (SqL K H p ys ∨ SqT K H p ys) ∧ Q (.int ys.length) H) := by
  subst h
  exact call_len_seq
theorem pe_fldK {K : PySem.W.Frag} {e : Expr} {f : Str} {pos : Pos} {ta : TE} (h : X.K = K) (he : PE X e ta) (hb : attributeBase e f X.env (eval e X.env) = eval e X.env) : PE X (.Attribute e f pos) (tFld K ta f) := by
  subst h
  exact pe_fld he hb
end
end KR
namespace L2
open PySem PySem.Spec PyProof.Rows
def eqkb (k : Bool) (v : Value) : Bool := match v with
  | .bool b => b == k
  | _ => false
variable {X : Cx}
def rCntB (K : PySem.W.Frag) : V → List V → Hp → VK → Prop := fun x xs H Q => ∃ (p : Addr) (bs : List Bool) (k : Bool), x = .ref p ∧ xs = [.bl k] ∧ SqL K H p (bs.map V.bl) ∧ Q (.int (bs.count k : Nat)) H
theorem vals_bls : ∀ {bs : List Bool} {us : List Value}, Vals (bs.map V.bl) us → us = bs.map Value.bool
  | [], _, .nil => rfl
  | b :: bs, _, .cons r rs => by
    have e := vals_bls rs
    have e1 : _ = Value.bool b := r
    rw [e, e1]
    rfl
theorem eqkb_count (k : Bool) : ∀ bs : List Bool, (bs.map Value.bool).countP (eqkb k) = bs.count k
  | [] => rfl
  | b :: bs => by
    have ih := eqkb_count k bs
    rw [List.map_cons, List.countP_cons, List.count_cons, ih] <;> rfl
theorem mt_bcount : MtR X "list.count" (rCntB X.K) := by
  intro pins s σ H x xs v us Q I rx rxs h
  obtain ⟨p, bs, k, rfl, rfl, hs, q⟩ := h
  cases rx
  obtain ⟨u, rfl, ru⟩ := rxs.one
  obtain rfl : u = Value.bool k := ru
  obtain ⟨its, rv, ⟨⟨cls, dd, data, sl⟩, n, ho, hc, hdn, hd⟩, hlen⟩ := I.list hs
  simp only at hc hd
  subst hc hd
  have hi := vals_bls rv
  refine call_meets PySem.F.slot_list_count ⟨_, ho, rfl⟩ PySem.F.entry_list_count (PySem.F.args_list_count_2 _ _)
    (SeqAt.list_countAt p its.toArray n dd sl (.bool k) (eqkb k)) ⟨ho, fun y hy => ?_, ?_⟩
  · have hy' : y ∈ its := by simpa using hy
    rw [hi] at hy'
    obtain ⟨b, _, rfl⟩ := List.mem_map.mp hy'
    exact SeqAt.EqAt.bool_bool b k
  have ec : its.toArray.toList.countP (eqkb k) = bs.count k := by
    show its.countP (eqkb k) = _
    rw [hi]
    exact eqkb_count k bs
  refine ⟨.int (bs.count k : Nat), H, I.tok _, ⟨s.toks, ?_⟩, q⟩
  show Value.int ((its.toArray.toList.countP (eqkb k) : Nat) : Int) s.toks = Value.int ((bs.count k : Nat) : Int) s.toks
  rw [ec]
end L2
namespace L2
open PySem PySem.Spec PyProof.Rows
def rIsErrE (K : PySem.W.Frag) (a : Addr) (cls : Value) (d : Option Addr) : List V → Hp → VK → Prop := fun xs H Q => ∃ C, rIsErr K C a cls d xs H Q
theorem call_isErrE {X : Cx} {a : Addr} {oe : Obj} {cls : Value} {d : Option Addr} {pn : List (Addr × Obj)} (hz : L2N.Zn cls d oe) (hf : ∃ vs, oe.data = .fields vs) : CallR (X.suite a ((a, oe) :: pn)) (.builtin "isinstance") (rIsErrE X.K a cls d) := by
  intro pins s σ H xs us Q I r h
  obtain ⟨C, h⟩ := h
  exact call_isErr hz.zc hf pins s σ H xs us Q I r h
end L2
namespace KR
open PySem PySem.Spec PyProof.Rows L2
theorem mt_bcountK {X : Cx} {K : PySem.W.Frag} (h : X.K = K) : MtR X "list.count" (rCntB K) := by
  subst h
  exact mt_bcount
end KR
namespace KR
open PySem PySem.Spec PyProof.Rows L2
theorem pe_bmK {X : Cx} {K : PySem.W.Frag} {T : String} {id : String} {name : Str} {o e : Expr} {es : List Expr} {apos cpos : Pos} {r : V → List V → Hp → VK → Prop} {to : TE} {t : TA} (h : X.K = K) (pa : PlainAttrs T) (slot : Slot T name id) (hty : typeOf (.builtin id) = pure (.type "method_descriptor")) (hm : MtR X id r) (ho : PE X o to) (ha : PA X (e :: es) t)
    (hbase : attributeBase o name X.env (eval o X.env) = eval o X.env := by rfl)
    (hfew : ((backTo cpos (starEach (e :: es) X.env)).all (fun x => !x.1) && (backToKw cpos (keywordEach [] X.env)).all (fun x => x.1.isSome)
      && decide ((e :: es).length + ([] : List Keyword).length + (if ([] : List Keyword).isEmpty then 0 else 1) < 30)) = true := by rfl)
    (hline : (apos.endLine == cpos.line) = true := by rfl) (hs : starEach (e :: es) X.env = (false, eval e X.env) :: starEach es X.env := by rfl) (hplain : (backTo cpos (starEach es X.env)).any (·.1) = false := by rfl) :
    PE X (.Call (.Attribute o name apos) (e :: es) [] cpos) (tBM K T r to t) := by
  subst h
  exact pe_bm pa slot hty hm ho ha hbase hfew hline hs hplain
end KR
namespace L2
open PySem PySem.Spec PyProof.Rows
theorem passN {X : Cx} : Passes (L2N.CX X.prog X.w) X E0 := fun _ _ _ _ _ _ _ h => by
  obtain ⟨_, _, _, _, _, _, _, _, _, _, _, _, z⟩ := h
  exact z.elim
theorem takesN0 {X : Cx} : L2N.Takes X (fun _ _ _ _ => False) := fun _ _ x => by
  obtain ⟨_, _, _, _, _, _, _, _, _, _, _, _, _, _, _, _, z⟩ := x
  exact z.elim
theorem Fun.okN {P : Program} {w : World} {K : PySem.W.Frag} {mg : Str → Option Value} {base : Heap} {x qual : Str} {st : Stmt} {f : Addr} {fd : FuncData} {N ps : List Str} {k : Nat} {sp : Sp} (F : Fun K x qual st f fd) (S : FnScope N ps (defScope st)) (len : ∀ vs H Q E, sp vs H Q E → vs.length = ps.length)
    (hbody : ∀ (cdv : Value) (Ar : Around) (outer : List Env) (s : Shared) (H : Hp) (vs : List V) (Q : VK) (E : XK), Room k (Ar.deeper (envOfC qual (defScope st) s.heap.objs.size f cdv)) → sp vs H Q E →
      ∃ t, PSs (cxOf (L2N.CX P w) P w K mg base N qual (defScope st) f cdv Ar outer s H E) (defBody st) t ∧ t { nx := fun _ H' => Q .non H', rt := Q } (start N vs) H) : FnOk P w K mg base (L2N.CX P w) (k + 1) f fd ps sp := by
  obtain ⟨oc, od, kV, doc, pm, an, cdv, ct, osl, rfl, lk, hcd⟩ := F.ex
  exact fn_of lk hcd S len fun Ar outer s H vs Q E hr hsp => hbody cdv Ar outer s H vs Q E hr hsp
theorem Fun.okH {P : Program} {w : World} {K : PySem.W.Frag} {mg : Str → Option Value} {base : Heap} {x qual : Str} {st : Stmt} {f : Addr} {fd : FuncData} {N ps : List Str} {k : Nat} {sp : Sp} (F : Fun K x qual st f fd) (S : FnScope N ps (defScope st)) (len : ∀ vs H Q E, sp vs H Q E → vs.length = ps.length)
    (hbody : ∀ (cdv : Value) (Ar : Around) (outer : List Env) (s : Shared) (H : Hp) (vs : List V) (Q : VK) (E : XK) (p : Addr × Obj), L2H.Hot1 Ar p → L2H.RoomH k (Ar.deeper (envOfC qual (defScope st) s.heap.objs.size f cdv)) → sp vs H Q E →
      ∃ t, PSs (L2H.cxH CX0 P w K mg base N qual (defScope st) f cdv Ar outer s H E p) (defBody st) t ∧ t { nx := fun _ H' => Q .non H', rt := Q } (start N vs) H) : L2H.FnH P w K mg base CX0 (k + 1) f fd ps sp := by
  obtain ⟨oc, od, kV, doc, pm, an, cdv, ct, osl, rfl, lk, hcd⟩ := F.ex
  exact L2H.fn_ofH lk hcd S len fun Ar outer s H vs Q E p hot hr hsp => hbody cdv Ar outer s H vs Q E p hot hr hsp
theorem hot_suite {X : Cx} {a : Addr} {oe : Obj} {cls : Value} {d : Option Addr} {pn : List (Addr × Obj)} (hz : L2N.Zn cls d oe) (hf : ∃ vs, oe.data = .fields vs) : L2H.HotC (X.suite a ((a, oe) :: pn)) := by
  obtain ⟨vs, e⟩ := hf
  exact ⟨(a, oe), ⟨rfl, vs, e, hz.2.2 vs e⟩, List.mem_cons_self⟩
theorem pass0At {X : Cx} {σ : St} : PassesAt CX0 X σ (fun _ _ _ => False) := fun _ _ _ _ _ _ h => h.elim
end L2
namespace KR
open PySem PySem.Spec PyProof.Rows L2
variable {σ : L2.St} {H : Hp} {Q : VK}
theorem callS {sp : Sp} {E : L2.St → XK} {tg : TA} (h : tg σ H fun vs H1 => sp vs H1 Q (E σ)) : tCallS sp E tg σ H Q := h
theorem errF {a C d0 : Addr} {f : Str} {te : TE} (h : te σ H fun x H1 => x = .ref a ∧ ∃ (fs : List (Str × V)) (v : V), H1 d0 = some (.xd fs) ∧ fs.lookup f = some v ∧ Q v H1) : tErrF a C (.ref C) (some d0) f te σ H Q := by
  have hm : ∀ (x : V) (H1 : Hp), (x = .ref a ∧ ∃ (fs : List (Str × V)) (v : V), H1 d0 = some (.xd fs) ∧ fs.lookup f = some v ∧ Q v H1) → (x = .ref a ∧ Value.ref C = .ref C ∧ ∃ (dd : Addr) (fs : List (Str × V)) (v : V), some d0 = some dd ∧ H1 dd = some (.xd fs) ∧ fs.lookup f = some v ∧ Q v H1) :=
    fun x H1 ⟨e, fs, v, h1, h2, q⟩ => ⟨e, rfl, d0, fs, v, rfl, h1, h2, q⟩
  have e : (fun x H1 => x = V.ref a ∧ ∃ (fs : List (Str × V)) (v : V), H1 d0 = some (.xd fs) ∧ fs.lookup f = some v ∧ Q v H1) = (fun x H1 => x = V.ref a ∧ Value.ref C = .ref C ∧ ∃ (dd : Addr) (fs : List (Str × V)) (v : V), some d0 = some dd ∧ H1 dd = some (.xd fs) ∧ fs.lookup f = some v ∧ Q v H1) :=
    funext fun x => funext fun H1 => propext ⟨hm x H1, fun ⟨e, _, dd, fs, v, ed, h1, h2, q⟩ => by cases ed; exact ⟨e, fs, v, h1, h2, q⟩⟩
  show te σ H _
  rw [← e]
  exact h
theorem bcount {K : PySem.W.Frag} {a : Addr} {bs : List Bool} {k : Bool} (hs : SqL K H a (bs.map V.bl)) (h : Q (.int (bs.count k : Nat)) H) : rCntB K (.ref a) [.bl k] H Q := ⟨a, bs, k, rfl, rfl, hs, h⟩
end KR
namespace KR
open PySem PySem.Spec PyProof.Rows L2
variable {σ : L2.St} {H : Hp} {Q : VK}
theorem bm {K : PySem.W.Frag} {T : String} {r : V → List V → Hp → VK → Prop} {to : TE} {t : TA} (h : to σ H fun x H1 => tyV K T x H1 ∧ t σ H1 fun xs H2 => r x xs H2 Q) : tBM K T r to t σ H Q := h
end KR
namespace KR
open PySem PySem.Spec PyProof.Rows L2
variable {σ : L2.St} {H : Hp} {Q : VK}
theorem make {C : Addr} {sp : Sp} {dvs : List V} {E : XK} {tg : TA} (h : tg σ H fun vs H1 => ∀ x dx, H1 x = none → H1 dx = none → dx ≠ x → sp (.ref x :: (vs ++ dvs)) (upd (upd H1 dx (.own x)) x (.ins C dx [])) (fun v H2 => v = .non ∧ Q (.ref x) H2) E) : tMake C sp dvs E tg σ H Q := h
end KR
namespace L2
open PySem PySem.Spec PyProof.Rows
structure FnHp (P : Program) (w : World) (K : PySem.W.Frag) (mg : Str → Option Value) (base : Heap) (CX : CXT) (k : Nat) (f : Addr) (fd : FuncData) (ps : List Str) (sp : Sp) (p : Addr × Obj) : Prop where
  len : ∀ vs H Q E, sp vs H Q E → vs.length = ps.length
  run : ∀ (Ar : Around) (outer : List Env) (s : Shared) (H : Hp) (args : Args) (us : List Value) (vs : List V) (Q : VK) (E : XK), L2H.RoomH k Ar → L2H.Hot1 Ar p → L2H.PinOk outer H s p → Env0 P w K mg base Ar outer s H →
    BindsTo s fd args (ps.zip us) → Vals vs us → sp vs H Q E → codeAny (model P w) Ar (.call (.ref f) args) (CR CX outer P w H s Q E) s
theorem fn_ofHp {CX : CXT} {P : Program} {w : World} {K : PySem.W.Frag} {mg : Str → Option Value} {base : Heap} {k : Nat} {f : Addr} {name qual : Str} {params : Arguments} {body : List Stmt} {scope : Scope} {dV kV doc pm cdv ct oc : Value} {an od : Option Addr}
    {osl : Array (Option Value)} {N ps : List Str} {sp : Sp} {p : Addr × Obj} (lk : K.lookup f = some ⟨oc, od, .func (PySem.W.fnOf name qual params body scope dV kV doc pm an cdv ct), osl⟩) (hcd : PySem.W.codeIn K cdv qual = true) (S : FnScope N ps scope)
    (len : ∀ vs H Q E, sp vs H Q E → vs.length = ps.length)
    (hbody : ∀ (Ar : Around) (outer : List Env) (s : Shared) (H : Hp) (vs : List V) (Q : VK) (E : XK), L2H.Hot1 Ar p → L2H.RoomH k (Ar.deeper (envOfC qual scope s.heap.objs.size f cdv)) → sp vs H Q E →
      ∃ t, PSs (L2H.cxH CX P w K mg base N qual scope f cdv Ar outer s H E p) body t ∧ t { nx := fun _ H' => Q .non H', rt := Q } (L2.start N vs) H) :
    FnHp P w K mg base CX (k + 1) f (PySem.W.fnOf name qual params body scope dV kV doc pm an cdv ct) ps sp p := by
  constructor
  · exact len
  intro Ar outer s H args us vs Q E hr hot hpin e0 hb r hsp
  have keeps := fun b o e => (e0.bs b o e).1
  have inK := e0.mod.kin.keeps keeps
  have noL := e0.mod.nolimit.keeps keeps
  refine codeAny_call_function hr.depth (inK _ _ lk) rfl S.co S.gen rfl (PySem.W.codeRec_of inK hcd) ?_
  refine hb _ _ _ _ (wpAny_newFunctionEnv_cells S.kind ?_ ?_)
  · intro ⟨n, v⟩ hy
    rcases S.par n (List.of_mem_zip hy).1 with q | q
    · left; exact q
    · right; exact ⟨q, PySem.W.cellsFrom_some _ _ _ (.inl q)⟩
  intro env he s1 x
  subst he
  refine ⟨noL.keeps x.toInCall.keep, codeAny_func ?_⟩
  obtain ⟨t, ht, hq⟩ := hbody Ar outer s H vs Q E hot (hr.deeper _) hsp
  have I := L2H.inv_startH (CX := CX) (E := E) S hpin e0 (len _ _ _ _ hsp) r x
  refine wpAny_mono (ht.run [] s1 (L2.start N vs) H _ I hq) ?_ (fun e s' hs => hs)
  intro fl s' hs
  have fin : ∀ {σ' : St} {H' : Hp} {v : V} {u : Value}, Inv (L2H.cxH CX P w K mg base N qual scope f cdv Ar outer s H E p) [] σ' H' s' → RelV v u → Q v H' → CE outer P w H s Q u s' := by
    intro σ' H' v u J rv q
    exact ⟨v, H', J.os, J.bare, J.base, J.hok, rv, q⟩
  cases fl
  case ret u => obtain ⟨v, σ', H', J, rv, q⟩ := hs; exact fin J rv q
  case next => obtain ⟨σ', H', J, q⟩ := hs; exact fin (v := V.non) (u := Value.none) J rfl q
  case brk => obtain ⟨_, _, _, q⟩ := hs; exact q.elim
  case cont => obtain ⟨_, _, _, q⟩ := hs; exact q.elim
theorem Fun.okP {P : Program} {w : World} {K : PySem.W.Frag} {mg : Str → Option Value} {base : Heap} {x qual : Str} {st : Stmt} {f : Addr} {fd : FuncData} {N ps : List Str} {k : Nat} {sp : Sp} {p : Addr × Obj} (F : Fun K x qual st f fd) (S : FnScope N ps (defScope st)) (len : ∀ vs H Q E, sp vs H Q E → vs.length = ps.length)
    (hbody : ∀ (cdv : Value) (Ar : Around) (outer : List Env) (s : Shared) (H : Hp) (vs : List V) (Q : VK) (E : XK), L2H.Hot1 Ar p → L2H.RoomH k (Ar.deeper (envOfC qual (defScope st) s.heap.objs.size f cdv)) → sp vs H Q E →
      ∃ t, PSs (L2H.cxH CX0 P w K mg base N qual (defScope st) f cdv Ar outer s H E p) (defBody st) t ∧ t { nx := fun _ H' => Q .non H', rt := Q } (start N vs) H) : FnHp P w K mg base CX0 (k + 1) f fd ps sp p := by
  obtain ⟨oc, od, kV, doc, pm, an, cdv, ct, osl, rfl, lk, hcd⟩ := F.ex
  exact fn_ofHp lk hcd S len fun Ar outer s H vs Q E hot hr hsp => hbody cdv Ar outer s H vs Q E hot hr hsp
section
variable {X : Cx} {k : Nat} {f : Addr} {fd : FuncData} {ps : List Str} {sp : Sp} {x : Str} {q pos : Pos} {e : Expr} {es : List Expr} {t : TA}
theorem pe_callP {a : Addr} {oe : Obj} {cls : Value} {d : Option Addr} {pn : List (Addr × Obj)} (F : FnHp X.prog X.w X.K X.mg X.base CX0 k f fd ps sp (a, oe)) (hr : Room k X.A) (hz : L2N.Zn cls d oe) (hf : ∃ vs, oe.data = .fields vs) (hg : Gl X x) (hm : X.mg x = some (.ref f)) (hk : PySem.W.keepIn X.K (.ref f) = true) (hb : Binds X.K fd ps [])
    (ha : PA (X.suite a ((a, oe) :: pn)) (e :: es) t) (hdb : (x == ("__debug__" : Str)) = false := by decide) (he : starEach (e :: es) X.env = (false, eval e X.env) :: starEach es X.env := by rfl) (hpl : (backTo pos (starEach es X.env)).any (·.1) = false := by rfl) :
    PE (X.suite a ((a, oe) :: pn)) (.Call (.Name x q) (e :: es) [] pos) (tCallS sp (fun _ _ _ _ => False) t) := by
  obtain ⟨dvs, hdv⟩ := hf
  constructor
  intro pins s σ H Q I h
  refine wpAny_Call_Name_kw (ld_glob (X := X.suite a ((a, oe) :: pn)) I hg hm ?_ hdb)
  refine PySem.W.callWith_K (h₀ := X.base) I.ok.mod.kin hk (thn (ha.run pos pins s σ H _ I h) ?_) he hpl
  rintro us s1 ⟨vs, H1, I1, r, qq⟩
  refine ⟨I1.kIn, ?_⟩
  have l1 : us.length = ps.length := r.length.symm.trans (F.len _ _ _ _ qq)
  have b := hb s1 us I1.kIn (by rw [List.append_nil]; exact l1)
  rw [List.append_nil] at b
  obtain ⟨g1, g2, g3, g4, g5⟩ := I1.pin (a, oe) (List.mem_append_left _ List.mem_cons_self)
  have hpin : L2H.PinOk X.stack H1 s1 (a, oe) := ⟨g1, g2, fun hm => (List.mem_cons.mp (I1.stkSub a hm)).elim g3 g4, g5⟩
  have hr2 : L2H.RoomH k (X.A.mark (some (.ref a))) := L2H.roomH_mark hr _
  refine wpAny_call (codeAny_mono (F.run (X.A.mark (some (.ref a))) X.stack s1 H1 ⟨us, []⟩ us vs Q (fun _ _ _ => False) hr2 ⟨rfl, dvs, hdv, hz.2.2 dvs hdv⟩ hpin I1.env0 b r qq) ?_)
  intro r' s' hq
  cases r' with
  | error ee => exact (show False from hq).elim
  | ok fl =>
    cases fl
    case ret u => exact I1.after hq
    case next => exact False.elim hq
    case brk => exact False.elim hq
    case cont => exact False.elim hq
end
end L2
namespace L2
open PySem PySem.Spec PyProof.Rows
theorem call_isErrP {X : Cx} {K : PySem.W.Frag} {a : Addr} {oe : Obj} {cls : Value} {d : Option Addr} (h : X.K = K) (hpn : (a, oe) ∈ X.pn) (hz : L2N.Zn cls d oe) (hf : ∃ vs, oe.data = .fields vs) : CallR X (.builtin "isinstance") (rIsErrE K a cls d) := by
  subst h
  intro pins s σ H xs us Q I r h
  obtain ⟨C, h⟩ := h
  exact call_isErrX hpn hz.zc hf pins s σ H xs us Q I r h
end L2
namespace KR
open PySem PySem.Spec PyProof.Rows L2
variable {σ : L2.St} {H : Hp} {K : PySem.W.Frag}
theorem gtup2 {a : Addr} {x y : V} {i j n : Nat} {Q : L2.St → Hp → Prop} (hs : SqT K H a [x, y]) (hn : 2 = n) (h : Q ((σ.set i (some x)).set j (some y)) H) : gTup K n (gCons (gName i) (gCons (gName j) gNil)) (.ref a) σ H Q := ⟨a, _, rfl, hs, hn, _, _, rfl, _, _, rfl, rfl, h⟩
theorem gtup3 {a : Addr} {x y z : V} {i j k n : Nat} {Q : L2.St → Hp → Prop} (hs : SqT K H a [x, y, z]) (hn : 3 = n) (h : Q (((σ.set i (some x)).set j (some y)).set k (some z)) H) : gTup K n (gCons (gName i) (gCons (gName j) (gCons (gName k) gNil))) (.ref a) σ H Q := ⟨a, _, rfl, hs, hn, _, _, rfl, _, _, rfl, _, _, rfl, rfl, h⟩
theorem gtup4 {a : Addr} {x y z w : V} {i j k l n : Nat} {Q : L2.St → Hp → Prop} (hs : SqT K H a [x, y, z, w]) (hn : 4 = n) (h : Q ((((σ.set i (some x)).set j (some y)).set k (some z)).set l (some w)) H) : gTup K n (gCons (gName i) (gCons (gName j) (gCons (gName k) (gCons (gName l) gNil)))) (.ref a) σ H Q := ⟨a, _, rfl, hs, hn, _, _, rfl, _, _, rfl, _, _, rfl, _, _, rfl, rfl, h⟩
end KR
namespace KR
open PySem PySem.Spec L2
section
variable {σ : L2.St} {H : Hp} {te : TE} {Q : VK} {j : Nat} {vs : List Nat}
theorem lwRt {a n : Nat} (g : Nat → List V) (hn : n < 50000) (hw : ∀ x, wipe ((wipe σ vs).set j (some x)) vs = wipe σ vs)
    (he : ∀ k H1, Evl.Ex H H1 → a ≤ k → k < n → ∀ Q' : VK, (∀ r H4, Evl.Ex H1 H4 → H4 r = some (.tup (g k)) → Q' (.ref r) H4) → te ((wipe σ vs).set j (some (.int (k : Int)))) H1 Q')
    (hd : ∀ p (xs : List V) H2, H p = none → Evl.Ex H H2 → H2 p = some (.lst xs) → xs.length = n - a → (∀ k x, xs[k]? = some x → ∃ r, x = .ref r ∧ H2 r = some (.tup (g (a + k)))) → Q (.ref p) H2) :
    LW (Itr a (n - a)) (gName j) tYes te vs σ Q H := fun D0 hD => by
  refine lc_range (lo := a) (n := n - a) (fun k H' => Evl.Ex H H' ∧ ∃ xs : List V, H' D0 = some (.lst xs) ∧ xs.length = k ∧ ∀ i x, xs[i]? = some x → ∃ r, x = .ref r ∧ H' r = some (.tup (g (a + i)))) ⟨Evl.Ex.new hD, [], upd_same, rfl, fun i x h => by simp at h⟩ (fun k H' hk ⟨e, xs, h', hl, hx⟩ => ?_) (fun H' ⟨e, xs, h', hl, hx⟩ => hd D0 xs H' hD e h' hl hx)
  have e0 : ((a : Nat) : Int) + (k : Int) = ((a + k : Nat) : Int) := rfl
  show wipe ((wipe σ vs).set j (some (.int (((a : Nat) : Int) + (k : Int))))) vs = wipe σ vs ∧ _
  refine ⟨hw _, ?_⟩
  show te ((wipe σ vs).set j (some (.int (((a : Nat) : Int) + (k : Int))))) H' _
  rw [e0]
  refine he (a + k) H' e (by omega) (by omega) _ fun r H4 e4 hr => ?_
  have hnr : r ≠ D0 := fun z => by
    have := e4 _ _ h'
    rw [← z, hr] at this
    cases this
  refine ⟨xs, e4 _ _ h', by rw [sizeLine_eq]; omega, Evl.Ex.mut (e.trans e4) hD, xs ++ [.ref r], upd_same, by rw [List.length_append]; show xs.length + 1 = k + 1; omega, fun i x hi => ?_⟩
  rcases Nat.lt_or_ge i xs.length with c | c
  · rw [List.getElem?_append_left c] at hi
    obtain ⟨r', e1, e2⟩ := hx i x hi
    refine ⟨r', e1, ?_⟩
    have hne : r' ≠ D0 := fun z => by
      rw [z, h'] at e2
      cases e2
    rw [upd_ne hne]
    exact e4 _ _ e2
  · rw [List.getElem?_append_right c] at hi
    have hi0 : i - xs.length = 0 := by
      have := (List.getElem?_eq_some_iff.mp hi).1
      simp at this
      omega
    rw [hi0] at hi
    have ex : V.ref r = x := Option.some.inj hi
    refine ⟨r, ex.symm, ?_⟩
    rw [upd_ne hnr, show a + i = a + k by omega]
    exact hr
end
end KR
namespace KR
open PySem PySem.Spec L2
theorem fwLg {K : PySem.W.Frag} {D : Ends} {σ : L2.St} {H : Hp} {a : Addr} {xs : List V} {tb : TS} {g : TG} (Pv : Nat → L2.St → Hp → Prop) (h0 : Pv 0 σ H) (hl : ∀ k σ H, k ≤ xs.length → Pv k σ H → SqL K H a xs)
    (hs : ∀ k x σ H, xs[k]? = some x → Pv k σ H → g x σ H fun σ2 H2 => tb { D with nx := Pv (k + 1), ct := Pv (k + 1), bk := D.nx } σ2 H2) (hd : ∀ σ H, Pv xs.length σ H → D.nx σ H) :
    FW (Itl K a) g tb D σ H := by
  refine ⟨fun k m σ H => m = xs.length - k ∧ k ≤ xs.length ∧ Pv k σ H, ⟨_, rfl, Nat.zero_le _, h0⟩, ?_⟩
  rintro k m σ H ⟨rfl, hk, p⟩
  have q := hl k σ H hk p
  by_cases hlt : k < xs.length
  · refine .inr ⟨⟨xs, xs[k], q, by simp [hlt]⟩, Pv (k + 1), fun σ' H' p' => ⟨xs.length - (k + 1), by omega, rfl, hlt, p'⟩, fun x H' hy => ?_⟩
    obtain ⟨e, hy⟩ := hy
    subst e
    exact hs k x σ H' (hy xs q) p
  · exact .inl ⟨⟨xs, q, by omega⟩, hd σ H (by
      have e : k = xs.length := by omega
      rw [e] at p; exact p)⟩
theorem giv_allA {f : Nat → Bool} (v : Nat → V) (a : Nat) (h : ∀ k, f k = true) : ∀ n, giv f v a n = (List.range n).map fun k => v (a + k)
  | 0 => rfl
  | n + 1 => by
    unfold giv
    rw [if_pos (h _), giv_allA v a h n, List.range_succ, List.map_append]
    rfl
end KR
namespace KR
open PySem PySem.Spec L2
section
variable {K : PySem.W.Frag} {σ : L2.St} {H : Hp} {tt : TT} {te : TE} {Q : VK} {j : Nat} {vs : List Nat}
theorem lwT {a : Addr} {xs : List V} (f : Nat → Bool) (v : Nat → V) (hx : SqT K H a xs) (hn : xs.length < 50000) (hw : ∀ x, wipe ((wipe σ vs).set j (some x)) vs = wipe σ vs)
    (ht : ∀ k x H1, Evl.Ex H H1 → xs[k]? = some x → Evl.EvT tt ((wipe σ vs).set j (some x)) H1 (f k)) (he : ∀ k x H1, Evl.Ex H H1 → xs[k]? = some x → f k = true → Evl.Ev te ((wipe σ vs).set j (some x)) H1 (v k))
    (hd : ∀ p H2, H p = none → Evl.Ex H H2 → H2 p = some (.lst (giv f v 0 xs.length)) → Q (.ref p) H2) : LW (Itt K a) (gName j) tt te vs σ Q H := fun D0 hD => by
  refine lc_tup (xs := xs) (fun k H' => Evl.Ex H H' ∧ H' D0 = some (.lst (giv f v 0 k))) ⟨Evl.Ex.new hD, upd_same⟩ (fun k H' _ ⟨e, _⟩ => Evl.ex_t e hx) (fun k x H' hk ⟨e, h'⟩ => ?_) (fun H' ⟨e, h'⟩ => hd D0 H' hD e h')
  refine ⟨hw _, ?_⟩
  show tt ((wipe σ vs).set j (some x)) H' _
  have hle := giv_len f v 0 k
  have hlt := (List.getElem?_eq_some_iff.mp hk).1
  refine lturn hD e h' (by omega) (ht k x H (Evl.Ex.refl H) hk) (fun hf => he k x H (Evl.Ex.refl H) hk hf) (fun H4 hf e4 h4 => ?_) (fun H4 hf e4 h4 => ?_)
  · refine ⟨Evl.Ex.mut e4 hD, ?_⟩
    rw [upd_same]
    show _ = some (HO.lst (giv f v 0 k ++ (if f (0 + k) = true then [v (0 + k)] else [])))
    rw [Nat.zero_add, if_pos hf]
  · refine ⟨e4, ?_⟩
    show _ = some (HO.lst (giv f v 0 k ++ (if f (0 + k) = true then [v (0 + k)] else [])))
    rw [Nat.zero_add, if_neg (by rw [hf]; decide), List.append_nil]
    exact h4
end
end KR
namespace K9
open PySem PySem.Spec PyProof.Rows L2
def topS (i : Nat) : Stmt := PySem.Challenge.pw_primedeep_k90_whole_conic_places.main.body.getD i (.Pass ⟨0, 0, 0, 0⟩)
abbrev s_prime_parts : Stmt := topS 18
theorem sc_prime_parts : FnScope ["number", "parts", "rest", "divisor", "exponent"] ["number"] (defScope s_prime_parts) := ⟨rfl, rfl, rfl, by decide +kernel, rfl, by decide +kernel, by decide +kernel⟩
abbrev s_look_prime : Stmt := topS 20
theorem sc_look_prime : FnScope ["p"] ["p"] (defScope s_look_prime) := ⟨rfl, rfl, rfl, by decide +kernel, rfl, by decide +kernel, by decide +kernel⟩
abbrev s_look_range : Stmt := topS 21
theorem sc_look_range : FnScope ["number", "low", "high"] ["number", "low", "high"] (defScope s_look_range) := ⟨rfl, rfl, rfl, by decide +kernel, rfl, by decide +kernel, by decide +kernel⟩
abbrev s_power : Stmt := topS 22
theorem sc_power : FnScope ["base", "exponent", "result", "square", "rest"] ["base", "exponent"] (defScope s_power) := ⟨rfl, rfl, rfl, by decide +kernel, rfl, by decide +kernel, by decide +kernel⟩
abbrev s_power_mod : Stmt := topS 23
theorem sc_power_mod : FnScope ["base", "exponent", "modulus", "result", "square", "rest"] ["base", "exponent", "modulus"] (defScope s_power_mod) := ⟨rfl, rfl, rfl, by decide +kernel, rfl, by decide +kernel, by decide +kernel⟩
abbrev s_inverse_mod : Stmt := topS 24
theorem sc_inverse_mod : FnScope ["a", "modulus", "old", "new", "before", "factor", "quotient"] ["a", "modulus"] (defScope s_inverse_mod) := ⟨rfl, rfl, rfl, by decide +kernel, rfl, by decide +kernel, by decide +kernel⟩
abbrev s_parted : Stmt := topS 25
theorem sc_parted : FnScope ["p", "n", "found", "rest"] ["p", "n"] (defScope s_parted) := ⟨rfl, rfl, rfl, by decide +kernel, rfl, by decide +kernel, by decide +kernel⟩
abbrev s_int_depth : Stmt := topS 26
theorem sc_int_depth : FnScope ["p", "n"] ["p", "n"] (defScope s_int_depth) := ⟨rfl, rfl, rfl, by decide +kernel, rfl, by decide +kernel, by decide +kernel⟩
abbrev s_look_numbers : Stmt := topS 30
theorem sc_look_numbers : FnScope ["p", "a", "b"] ["p", "a", "b"] (defScope s_look_numbers) := ⟨rfl, rfl, rfl, by decide +kernel, rfl, by decide +kernel, by decide +kernel⟩
abbrev s_look_zeros : Stmt := topS 31
theorem sc_look_zeros : FnScope ["a", "b"] ["a", "b"] (defScope s_look_zeros) := ⟨rfl, rfl, rfl, by decide +kernel, rfl, by decide +kernel, by decide +kernel⟩
abbrev s_square_unit : Stmt := topS 32
theorem sc_square_unit : FnScope ["p", "number"] ["p", "number"] (defScope s_square_unit) := ⟨rfl, rfl, rfl, by decide +kernel, rfl, by decide +kernel, by decide +kernel⟩
abbrev s_odd_sign : Stmt := topS 33
theorem sc_odd_sign : FnScope ["p", "i", "u", "j", "w", "exponent"] ["p", "i", "u", "j", "w"] (defScope s_odd_sign) := ⟨rfl, rfl, rfl, by decide +kernel, rfl, by decide +kernel, by decide +kernel⟩
abbrev s_even_sign : Stmt := topS 34
theorem sc_even_sign : FnScope ["i", "u", "j", "w", "halves"] ["i", "u", "j", "w"] (defScope s_even_sign) := ⟨rfl, rfl, rfl, by decide +kernel, rfl, by decide +kernel, by decide +kernel⟩
abbrev s_symbol_of : Stmt := topS 35
theorem sc_symbol_of : FnScope ["p", "a", "b", "i", "u", "j", "w"] ["p", "a", "b"] (defScope s_symbol_of) := ⟨rfl, rfl, rfl, by decide +kernel, rfl, by decide +kernel, by decide +kernel⟩
abbrev s_symbol : Stmt := topS 36
theorem sc_symbol : FnScope ["p", "a", "b"] ["p", "a", "b"] (defScope s_symbol) := ⟨rfl, rfl, rfl, by decide +kernel, rfl, by decide +kernel, by decide +kernel⟩
abbrev s_unit_root : Stmt := topS 37
theorem sc_unit_root : FnScope ["p", "number", "m", "root", "k", "known", "modulus"] ["p", "number", "m"] (defScope s_unit_root) := ⟨rfl, rfl, rfl, by decide +kernel, rfl, by decide +kernel, by decide +kernel⟩
abbrev s_start_pair : Stmt := topS 38
theorem sc_start_pair : FnScope ["p", "a", "b", "pairs", "at", "k"] ["p", "a", "b"] (defScope s_start_pair) := ⟨rfl, rfl, rfl, by decide +kernel, rfl, by decide +kernel, by decide +kernel⟩
abbrev s_first_point : Stmt := topS 39
theorem sc_first_point : FnScope ["p", "a", "b", "m", "x", "y", "u", "c"] ["p", "a", "b", "m"] (defScope s_first_point) := ⟨rfl, rfl, rfl, by decide +kernel, rfl, by decide +kernel, by decide +kernel⟩
abbrev s_conic_point : Stmt := topS 40
theorem sc_conic_point : FnScope ["p", "a", "b", "m", "i", "j", "spare", "x", "y", "z", "wide", "point", "divisor", "modulus", "number"] ["p", "a", "b", "m"] (defScope s_conic_point) := ⟨rfl, rfl, rfl, by decide +kernel, rfl, by decide +kernel, by decide +kernel⟩
abbrev s_primes_of : Stmt := topS 44
theorem sc_primes_of : FnScope ["numbers", "most", "found", "number", "part", "prime"] ["numbers", "most"] (defScope s_primes_of) := ⟨rfl, rfl, rfl, by decide +kernel, rfl, by decide +kernel, by decide +kernel⟩
abbrev s_with_two : Stmt := topS 45
theorem sc_with_two : FnScope ["primes", "prime"] ["primes"] (defScope s_with_two) := ⟨rfl, rfl, rfl, by decide +kernel, rfl, by decide +kernel, by decide +kernel⟩
abbrev s_conic_bars : Stmt := topS 46
theorem sc_conic_bars : FnScope ["a", "b", "told", "bars", "p"] ["a", "b"] (defScope s_conic_bars) := ⟨rfl, rfl, rfl, by decide +kernel, rfl, by decide +kernel, by decide +kernel⟩
abbrev s_law_cells : Stmt := topS 48
theorem sc_law_cells : FnScope ["script", "cell"] ["script"] (defScope s_law_cells) := ⟨rfl, rfl, rfl, by decide +kernel, rfl, by decide +kernel, by decide +kernel⟩
abbrev s_law_draw : Stmt := topS 49
theorem sc_law_draw : FnScope ["pool", "many", "turn", "at", "digit"] ["pool", "many"] (defScope s_law_draw) := ⟨rfl, rfl, rfl, by decide +kernel, rfl, by decide +kernel, by decide +kernel⟩
abbrev s_law_is_integer : Stmt := topS 50
theorem sc_law_is_integer : FnScope ["x"] ["x"] (defScope s_law_is_integer) := ⟨rfl, rfl, rfl, by decide +kernel, rfl, by decide +kernel, by decide +kernel⟩
abbrev s_law_power : Stmt := topS 51
theorem sc_law_power : FnScope ["base", "exponent", "result", "step"] ["base", "exponent"] (defScope s_law_power) := ⟨rfl, rfl, rfl, by decide +kernel, rfl, by decide +kernel, by decide +kernel⟩
abbrev s_law_primes : Stmt := topS 52
theorem sc_law_primes : FnScope [] [] (defScope s_law_primes) := ⟨rfl, rfl, rfl, by decide +kernel, rfl, by decide +kernel, by decide +kernel⟩
abbrev s_law_number : Stmt := topS 53
theorem sc_law_number : FnScope ["pool", "great", "kind", "number", "size", "step", "p", "k"] ["pool", "great"] (defScope s_law_number) := ⟨rfl, rfl, rfl, by decide +kernel, rfl, by decide +kernel, by decide +kernel⟩
abbrev s_law_is_square : Stmt := topS 54
theorem sc_law_is_square : FnScope ["p", "u", "t"] ["p", "u"] (defScope s_law_is_square) := ⟨rfl, rfl, rfl, by decide +kernel, rfl, by decide +kernel, by decide +kernel⟩
abbrev s_law_walked : Stmt := topS 55
theorem sc_law_walked : FnScope ["a", "b", "squares", "x", "i", "y", "j", "z", "k"] ["a", "b"] (defScope s_law_walked) := ⟨rfl, rfl, rfl, by decide +kernel, rfl, by decide +kernel, by decide +kernel⟩
abbrev s_law_symbol : Stmt := topS 56
theorem sc_law_symbol : FnScope ["p", "a", "b", "step", "tested"] ["p", "a", "b"] (defScope s_law_symbol) := ⟨rfl, rfl, rfl, by decide +kernel, rfl, by decide +kernel, by decide +kernel⟩
abbrev s_law_bars : Stmt := topS 57
theorem sc_law_bars : FnScope ["a", "b", "told", "bars", "p"] ["a", "b"] (defScope s_law_bars) := ⟨rfl, rfl, rfl, by decide +kernel, rfl, by decide +kernel, by decide +kernel⟩
abbrev s_law_same_list : Stmt := topS 58
theorem sc_law_same_list : FnScope ["told", "due", "x"] ["told", "due"] (defScope s_law_same_list) := ⟨rfl, rfl, rfl, by decide +kernel, rfl, by decide +kernel, by decide +kernel⟩
abbrev s_law_point_right : Stmt := topS 59
theorem sc_law_point_right : FnScope ["point", "p", "a", "b", "m", "modulus", "units", "x", "y", "z"] ["point", "p", "a", "b", "m"] (defScope s_law_point_right) := ⟨rfl, rfl, rfl, by decide +kernel, rfl, by decide +kernel, by decide +kernel⟩
abbrev s_law_prime_right : Stmt := topS 60
theorem sc_law_prime_right : FnScope ["pool", "p", "a", "b", "due", "told", "m", "point", "far", "modulus", "x"] ["pool", "p", "a", "b"] (defScope s_law_prime_right) := ⟨rfl, rfl, rfl, by decide +kernel, rfl, by decide +kernel, by decide +kernel⟩
abbrev s_law_refusal : Stmt := topS 61
theorem sc_law_refusal : FnScope ["x", "kinds"] ["x"] (defScope s_law_refusal) := ⟨rfl, rfl, rfl, by decide +kernel, rfl, by decide +kernel, by decide +kernel⟩
abbrev s_law_refused : Stmt := topS 62
theorem sc_law_refused : FnScope ["word", "p", "a", "b", "m", "e"] ["word", "p", "a", "b", "m"] (defScope s_law_refused) := ⟨rfl, rfl, rfl, by decide +kernel, rfl, by decide +kernel, by decide +kernel⟩
abbrev s_law_refusals_right : Stmt := topS 63
theorem sc_law_refusals_right : FnScope ["pool", "a", "b", "far", "great", "first", "second", "rows", "word", "x", "y", "due"] ["pool", "a", "b"] (defScope s_law_refusals_right) := ⟨rfl, rfl, rfl, by decide +kernel, rfl, by decide +kernel, by decide +kernel⟩
abbrev s_law : Stmt := topS 64
theorem sc_law : FnScope ["script", "pool", "great", "a", "b", "bars", "told", "p", "primes", "square"] ["script"] (defScope s_law) := ⟨rfl, rfl, rfl, by decide +kernel, rfl, by decide +kernel, by decide +kernel⟩
def primesL : List Int := [2, 3, 5, 7, 11, 13, 17, 19, 23, 29, 31, 37, 41, 43, 47, 53, 59, 61, 67, 71, 73, 79, 83, 89, 97]
structure Ad where
  a_prime_parts : Addr
  d_prime_parts : FuncData
  a_look_prime : Addr
  d_look_prime : FuncData
  a_look_range : Addr
  d_look_range : FuncData
  a_power : Addr
  d_power : FuncData
  a_power_mod : Addr
  d_power_mod : FuncData
  a_inverse_mod : Addr
  d_inverse_mod : FuncData
  a_parted : Addr
  d_parted : FuncData
  a_int_depth : Addr
  d_int_depth : FuncData
  a_look_numbers : Addr
  d_look_numbers : FuncData
  a_look_zeros : Addr
  d_look_zeros : FuncData
  a_square_unit : Addr
  d_square_unit : FuncData
  a_odd_sign : Addr
  d_odd_sign : FuncData
  a_even_sign : Addr
  d_even_sign : FuncData
  a_symbol_of : Addr
  d_symbol_of : FuncData
  a_symbol : Addr
  d_symbol : FuncData
  a_unit_root : Addr
  d_unit_root : FuncData
  a_start_pair : Addr
  d_start_pair : FuncData
  a_first_point : Addr
  d_first_point : FuncData
  a_conic_point : Addr
  d_conic_point : FuncData
  a_primes_of : Addr
  d_primes_of : FuncData
  a_with_two : Addr
  d_with_two : FuncData
  a_conic_bars : Addr
  d_conic_bars : FuncData
  a_law_cells : Addr
  d_law_cells : FuncData
  a_law_draw : Addr
  d_law_draw : FuncData
  a_law_is_integer : Addr
  d_law_is_integer : FuncData
  a_law_power : Addr
  d_law_power : FuncData
  a_law_primes : Addr
  d_law_primes : FuncData
  a_law_number : Addr
  d_law_number : FuncData
  a_law_is_square : Addr
  d_law_is_square : FuncData
  a_law_walked : Addr
  d_law_walked : FuncData
  a_law_symbol : Addr
  d_law_symbol : FuncData
  a_law_bars : Addr
  d_law_bars : FuncData
  a_law_same_list : Addr
  d_law_same_list : FuncData
  a_law_point_right : Addr
  d_law_point_right : FuncData
  a_law_prime_right : Addr
  d_law_prime_right : FuncData
  a_law_refusal : Addr
  d_law_refusal : FuncData
  a_law_refused : Addr
  d_law_refused : FuncData
  a_law_refusals_right : Addr
  d_law_refusals_right : FuncData
  a_law : Addr
  d_law : FuncData
  aSP : Addr
  a_PrimedeepError : Addr
  i_PrimedeepError : Addr
  v_PrimedeepError : Addr
  w_PrimedeepError : Addr
  a_SizeError : Addr
  i_SizeError : Addr
  v_SizeError : Addr
  w_SizeError : Addr
  a_RangeError : Addr
  i_RangeError : Addr
  v_RangeError : Addr
  w_RangeError : Addr
  a_PrimeError : Addr
  i_PrimeError : Addr
  v_PrimeError : Addr
  w_PrimeError : Addr
  a_DepthError : Addr
  i_DepthError : Addr
  v_DepthError : Addr
  w_DepthError : Addr
  a_ZeroError : Addr
  i_ZeroError : Addr
  v_ZeroError : Addr
  w_ZeroError : Addr
  a_MixError : Addr
  i_MixError : Addr
  v_MixError : Addr
  w_MixError : Addr
  a_BarError : Addr
  i_BarError : Addr
  v_BarError : Addr
  w_BarError : Addr
  a_MonicError : Addr
  i_MonicError : Addr
  v_MonicError : Addr
  w_MonicError : Addr
  a_RepeatError : Addr
  i_RepeatError : Addr
  v_RepeatError : Addr
  w_RepeatError : Addr
  a_FieldError : Addr
  i_FieldError : Addr
  v_FieldError : Addr
  w_FieldError : Addr
  a_EditError : Addr
  i_EditError : Addr
  v_EditError : Addr
  w_EditError : Addr
  a_TextError : Addr
  i_TextError : Addr
  v_TextError : Addr
  w_TextError : Addr
  a_HistoryError : Addr
  i_HistoryError : Addr
  v_HistoryError : Addr
  w_HistoryError : Addr
structure Txt (prog : Program) (K : PySem.W.Frag) (mg : Str → Option Value) (A : Ad) : Prop where
  F_prime_parts : Fun K "prime_parts" "prime_parts" s_prime_parts A.a_prime_parts A.d_prime_parts
  g_prime_parts : mg "prime_parts" = some (.ref A.a_prime_parts)
  F_look_prime : Fun K "look_prime" "look_prime" s_look_prime A.a_look_prime A.d_look_prime
  g_look_prime : mg "look_prime" = some (.ref A.a_look_prime)
  F_look_range : Fun K "look_range" "look_range" s_look_range A.a_look_range A.d_look_range
  g_look_range : mg "look_range" = some (.ref A.a_look_range)
  F_power : Fun K "power" "power" s_power A.a_power A.d_power
  g_power : mg "power" = some (.ref A.a_power)
  F_power_mod : Fun K "power_mod" "power_mod" s_power_mod A.a_power_mod A.d_power_mod
  g_power_mod : mg "power_mod" = some (.ref A.a_power_mod)
  F_inverse_mod : Fun K "inverse_mod" "inverse_mod" s_inverse_mod A.a_inverse_mod A.d_inverse_mod
  g_inverse_mod : mg "inverse_mod" = some (.ref A.a_inverse_mod)
  F_parted : Fun K "parted" "parted" s_parted A.a_parted A.d_parted
  g_parted : mg "parted" = some (.ref A.a_parted)
  F_int_depth : Fun K "int_depth" "int_depth" s_int_depth A.a_int_depth A.d_int_depth
  g_int_depth : mg "int_depth" = some (.ref A.a_int_depth)
  F_look_numbers : Fun K "look_numbers" "look_numbers" s_look_numbers A.a_look_numbers A.d_look_numbers
  g_look_numbers : mg "look_numbers" = some (.ref A.a_look_numbers)
  F_look_zeros : Fun K "look_zeros" "look_zeros" s_look_zeros A.a_look_zeros A.d_look_zeros
  g_look_zeros : mg "look_zeros" = some (.ref A.a_look_zeros)
  F_square_unit : Fun K "square_unit" "square_unit" s_square_unit A.a_square_unit A.d_square_unit
  g_square_unit : mg "square_unit" = some (.ref A.a_square_unit)
  F_odd_sign : Fun K "odd_sign" "odd_sign" s_odd_sign A.a_odd_sign A.d_odd_sign
  g_odd_sign : mg "odd_sign" = some (.ref A.a_odd_sign)
  F_even_sign : Fun K "even_sign" "even_sign" s_even_sign A.a_even_sign A.d_even_sign
  g_even_sign : mg "even_sign" = some (.ref A.a_even_sign)
  F_symbol_of : Fun K "symbol_of" "symbol_of" s_symbol_of A.a_symbol_of A.d_symbol_of
  g_symbol_of : mg "symbol_of" = some (.ref A.a_symbol_of)
  F_symbol : Fun K "symbol" "symbol" s_symbol A.a_symbol A.d_symbol
  g_symbol : mg "symbol" = some (.ref A.a_symbol)
  F_unit_root : Fun K "unit_root" "unit_root" s_unit_root A.a_unit_root A.d_unit_root
  g_unit_root : mg "unit_root" = some (.ref A.a_unit_root)
  F_start_pair : Fun K "start_pair" "start_pair" s_start_pair A.a_start_pair A.d_start_pair
  g_start_pair : mg "start_pair" = some (.ref A.a_start_pair)
  F_first_point : Fun K "first_point" "first_point" s_first_point A.a_first_point A.d_first_point
  g_first_point : mg "first_point" = some (.ref A.a_first_point)
  F_conic_point : Fun K "conic_point" "conic_point" s_conic_point A.a_conic_point A.d_conic_point
  g_conic_point : mg "conic_point" = some (.ref A.a_conic_point)
  F_primes_of : Fun K "primes_of" "primes_of" s_primes_of A.a_primes_of A.d_primes_of
  g_primes_of : mg "primes_of" = some (.ref A.a_primes_of)
  F_with_two : Fun K "with_two" "with_two" s_with_two A.a_with_two A.d_with_two
  g_with_two : mg "with_two" = some (.ref A.a_with_two)
  F_conic_bars : Fun K "conic_bars" "conic_bars" s_conic_bars A.a_conic_bars A.d_conic_bars
  g_conic_bars : mg "conic_bars" = some (.ref A.a_conic_bars)
  F_law_cells : Fun K "_law_cells" "_law_cells" s_law_cells A.a_law_cells A.d_law_cells
  g_law_cells : mg "_law_cells" = some (.ref A.a_law_cells)
  F_law_draw : Fun K "_law_draw" "_law_draw" s_law_draw A.a_law_draw A.d_law_draw
  g_law_draw : mg "_law_draw" = some (.ref A.a_law_draw)
  F_law_is_integer : Fun K "_law_is_integer" "_law_is_integer" s_law_is_integer A.a_law_is_integer A.d_law_is_integer
  g_law_is_integer : mg "_law_is_integer" = some (.ref A.a_law_is_integer)
  F_law_power : Fun K "_law_power" "_law_power" s_law_power A.a_law_power A.d_law_power
  g_law_power : mg "_law_power" = some (.ref A.a_law_power)
  F_law_primes : Fun K "_law_primes" "_law_primes" s_law_primes A.a_law_primes A.d_law_primes
  g_law_primes : mg "_law_primes" = some (.ref A.a_law_primes)
  F_law_number : Fun K "_law_number" "_law_number" s_law_number A.a_law_number A.d_law_number
  g_law_number : mg "_law_number" = some (.ref A.a_law_number)
  F_law_is_square : Fun K "_law_is_square" "_law_is_square" s_law_is_square A.a_law_is_square A.d_law_is_square
  g_law_is_square : mg "_law_is_square" = some (.ref A.a_law_is_square)
  F_law_walked : Fun K "_law_walked" "_law_walked" s_law_walked A.a_law_walked A.d_law_walked
  g_law_walked : mg "_law_walked" = some (.ref A.a_law_walked)
  F_law_symbol : Fun K "_law_symbol" "_law_symbol" s_law_symbol A.a_law_symbol A.d_law_symbol
  g_law_symbol : mg "_law_symbol" = some (.ref A.a_law_symbol)
  F_law_bars : Fun K "_law_bars" "_law_bars" s_law_bars A.a_law_bars A.d_law_bars
  g_law_bars : mg "_law_bars" = some (.ref A.a_law_bars)
  F_law_same_list : Fun K "_law_same_list" "_law_same_list" s_law_same_list A.a_law_same_list A.d_law_same_list
  g_law_same_list : mg "_law_same_list" = some (.ref A.a_law_same_list)
  F_law_point_right : Fun K "_law_point_right" "_law_point_right" s_law_point_right A.a_law_point_right A.d_law_point_right
  g_law_point_right : mg "_law_point_right" = some (.ref A.a_law_point_right)
  F_law_prime_right : Fun K "_law_prime_right" "_law_prime_right" s_law_prime_right A.a_law_prime_right A.d_law_prime_right
  g_law_prime_right : mg "_law_prime_right" = some (.ref A.a_law_prime_right)
  F_law_refusal : Fun K "_law_refusal" "_law_refusal" s_law_refusal A.a_law_refusal A.d_law_refusal
  g_law_refusal : mg "_law_refusal" = some (.ref A.a_law_refusal)
  F_law_refused : Fun K "_law_refused" "_law_refused" s_law_refused A.a_law_refused A.d_law_refused
  g_law_refused : mg "_law_refused" = some (.ref A.a_law_refused)
  F_law_refusals_right : Fun K "_law_refusals_right" "_law_refusals_right" s_law_refusals_right A.a_law_refusals_right A.d_law_refusals_right
  g_law_refusals_right : mg "_law_refusals_right" = some (.ref A.a_law_refusals_right)
  F_law : Fun K "law" "law" s_law A.a_law A.d_law
  g_law : mg "law" = some (.ref A.a_law)
  n_len : mg "len" = none
  n_int : mg "int" = none
  n_bool : mg "bool" = none
  n_tuple : mg "tuple" = none
  n_list : mg "list" = none
  n_abs : mg "abs" = none
  n_isinstance : mg "isinstance" = none
  n_max : mg "max" = none
  n_min : mg "min" = none
  n_range : mg "range" = none
  n_sorted : mg "sorted" = none
  n_ValueError : mg "ValueError" = none
  c_MOST_PARTED : ∃ t, mg "MOST_PARTED" = some (.int 1000000000 t)
  c_MOST_NUMBER : ∃ t, mg "MOST_NUMBER" = some (.int 1000000000000 t)
  c_MOST_DIGITS : ∃ t, mg "MOST_DIGITS" = some (.int 60 t)
  c_LARGEST : ∃ t, mg "LARGEST" = some (.int 1000000000 t)
  c_MOST_PRIME : ∃ t, mg "MOST_PRIME" = some (.int 97 t)
  c_SMALL_PRIMES : mg "SMALL_PRIMES" = some (.ref A.aSP)
  tSP : ∃ dd its n sl, K.lookup A.aSP = some ⟨.type "tuple", dd, .seq its n, sl⟩ ∧ its.size ≤ sizeLine ∧ Vals (primesL.map V.int) its.toList
  g_PrimedeepError : mg "PrimedeepError" = some (.ref A.a_PrimedeepError)
  g_SizeError : mg "SizeError" = some (.ref A.a_SizeError)
  g_RangeError : mg "RangeError" = some (.ref A.a_RangeError)
  g_PrimeError : mg "PrimeError" = some (.ref A.a_PrimeError)
  g_DepthError : mg "DepthError" = some (.ref A.a_DepthError)
  g_ZeroError : mg "ZeroError" = some (.ref A.a_ZeroError)
  g_MixError : mg "MixError" = some (.ref A.a_MixError)
  g_BarError : mg "BarError" = some (.ref A.a_BarError)
  g_MonicError : mg "MonicError" = some (.ref A.a_MonicError)
  g_RepeatError : mg "RepeatError" = some (.ref A.a_RepeatError)
  g_FieldError : mg "FieldError" = some (.ref A.a_FieldError)
  g_EditError : mg "EditError" = some (.ref A.a_EditError)
  g_TextError : mg "TextError" = some (.ref A.a_TextError)
  g_HistoryError : mg "HistoryError" = some (.ref A.a_HistoryError)
  e_RangeError : PySem.KX.Err1 prog K mg "RangeError" "number" A.a_RangeError A.i_RangeError A.v_RangeError A.w_RangeError
  ei_RangeError : L2.ErrI K A.a_RangeError
  ex_RangeError : PySem.W.exmOne K (.ref A.a_RangeError) (.ref A.a_PrimedeepError) = some true
  kv_RangeError : PySem.W.kitOne K (.ref A.a_RangeError) (.type "ValueError") = some true
  kt_RangeError_SizeError : PySem.W.kitOne K (.ref A.a_RangeError) (.ref A.a_SizeError) = some false
  kt_RangeError_RangeError : PySem.W.kitOne K (.ref A.a_RangeError) (.ref A.a_RangeError) = some true
  kt_RangeError_PrimeError : PySem.W.kitOne K (.ref A.a_RangeError) (.ref A.a_PrimeError) = some false
  kt_RangeError_DepthError : PySem.W.kitOne K (.ref A.a_RangeError) (.ref A.a_DepthError) = some false
  kt_RangeError_ZeroError : PySem.W.kitOne K (.ref A.a_RangeError) (.ref A.a_ZeroError) = some false
  kt_RangeError_MixError : PySem.W.kitOne K (.ref A.a_RangeError) (.ref A.a_MixError) = some false
  kt_RangeError_BarError : PySem.W.kitOne K (.ref A.a_RangeError) (.ref A.a_BarError) = some false
  kt_RangeError_MonicError : PySem.W.kitOne K (.ref A.a_RangeError) (.ref A.a_MonicError) = some false
  kt_RangeError_RepeatError : PySem.W.kitOne K (.ref A.a_RangeError) (.ref A.a_RepeatError) = some false
  kt_RangeError_FieldError : PySem.W.kitOne K (.ref A.a_RangeError) (.ref A.a_FieldError) = some false
  kt_RangeError_EditError : PySem.W.kitOne K (.ref A.a_RangeError) (.ref A.a_EditError) = some false
  kt_RangeError_TextError : PySem.W.kitOne K (.ref A.a_RangeError) (.ref A.a_TextError) = some false
  kt_RangeError_HistoryError : PySem.W.kitOne K (.ref A.a_RangeError) (.ref A.a_HistoryError) = some false
  e_PrimeError : PySem.KX.Err1 prog K mg "PrimeError" "number" A.a_PrimeError A.i_PrimeError A.v_PrimeError A.w_PrimeError
  ei_PrimeError : L2.ErrI K A.a_PrimeError
  ex_PrimeError : PySem.W.exmOne K (.ref A.a_PrimeError) (.ref A.a_PrimedeepError) = some true
  kv_PrimeError : PySem.W.kitOne K (.ref A.a_PrimeError) (.type "ValueError") = some true
  kt_PrimeError_SizeError : PySem.W.kitOne K (.ref A.a_PrimeError) (.ref A.a_SizeError) = some false
  kt_PrimeError_RangeError : PySem.W.kitOne K (.ref A.a_PrimeError) (.ref A.a_RangeError) = some false
  kt_PrimeError_PrimeError : PySem.W.kitOne K (.ref A.a_PrimeError) (.ref A.a_PrimeError) = some true
  kt_PrimeError_DepthError : PySem.W.kitOne K (.ref A.a_PrimeError) (.ref A.a_DepthError) = some false
  kt_PrimeError_ZeroError : PySem.W.kitOne K (.ref A.a_PrimeError) (.ref A.a_ZeroError) = some false
  kt_PrimeError_MixError : PySem.W.kitOne K (.ref A.a_PrimeError) (.ref A.a_MixError) = some false
  kt_PrimeError_BarError : PySem.W.kitOne K (.ref A.a_PrimeError) (.ref A.a_BarError) = some false
  kt_PrimeError_MonicError : PySem.W.kitOne K (.ref A.a_PrimeError) (.ref A.a_MonicError) = some false
  kt_PrimeError_RepeatError : PySem.W.kitOne K (.ref A.a_PrimeError) (.ref A.a_RepeatError) = some false
  kt_PrimeError_FieldError : PySem.W.kitOne K (.ref A.a_PrimeError) (.ref A.a_FieldError) = some false
  kt_PrimeError_EditError : PySem.W.kitOne K (.ref A.a_PrimeError) (.ref A.a_EditError) = some false
  kt_PrimeError_TextError : PySem.W.kitOne K (.ref A.a_PrimeError) (.ref A.a_TextError) = some false
  kt_PrimeError_HistoryError : PySem.W.kitOne K (.ref A.a_PrimeError) (.ref A.a_HistoryError) = some false
  e_ZeroError : PySem.KX.Err0 prog K mg "ZeroError" A.a_ZeroError A.i_ZeroError A.v_ZeroError A.w_ZeroError
  ei_ZeroError : L2.ErrI K A.a_ZeroError
  ex_ZeroError : PySem.W.exmOne K (.ref A.a_ZeroError) (.ref A.a_PrimedeepError) = some true
  kv_ZeroError : PySem.W.kitOne K (.ref A.a_ZeroError) (.type "ValueError") = some true
  kt_ZeroError_SizeError : PySem.W.kitOne K (.ref A.a_ZeroError) (.ref A.a_SizeError) = some false
  kt_ZeroError_RangeError : PySem.W.kitOne K (.ref A.a_ZeroError) (.ref A.a_RangeError) = some false
  kt_ZeroError_PrimeError : PySem.W.kitOne K (.ref A.a_ZeroError) (.ref A.a_PrimeError) = some false
  kt_ZeroError_DepthError : PySem.W.kitOne K (.ref A.a_ZeroError) (.ref A.a_DepthError) = some false
  kt_ZeroError_ZeroError : PySem.W.kitOne K (.ref A.a_ZeroError) (.ref A.a_ZeroError) = some true
  kt_ZeroError_MixError : PySem.W.kitOne K (.ref A.a_ZeroError) (.ref A.a_MixError) = some false
  kt_ZeroError_BarError : PySem.W.kitOne K (.ref A.a_ZeroError) (.ref A.a_BarError) = some false
  kt_ZeroError_MonicError : PySem.W.kitOne K (.ref A.a_ZeroError) (.ref A.a_MonicError) = some false
  kt_ZeroError_RepeatError : PySem.W.kitOne K (.ref A.a_ZeroError) (.ref A.a_RepeatError) = some false
  kt_ZeroError_FieldError : PySem.W.kitOne K (.ref A.a_ZeroError) (.ref A.a_FieldError) = some false
  kt_ZeroError_EditError : PySem.W.kitOne K (.ref A.a_ZeroError) (.ref A.a_EditError) = some false
  kt_ZeroError_TextError : PySem.W.kitOne K (.ref A.a_ZeroError) (.ref A.a_TextError) = some false
  kt_ZeroError_HistoryError : PySem.W.kitOne K (.ref A.a_ZeroError) (.ref A.a_HistoryError) = some false
section
variable {prog : Program} {K : PySem.W.Frag} {mg : Str → Option Value} {A : Ad}
theorem Txt.b_prime_parts (T : Txt prog K mg A) : Binds K A.d_prime_parts ["number"] [] := T.F_prime_parts.binds fun _ _ _ _ _ _ us hl => match us, hl with | [_], _ => rfl
theorem Txt.k_prime_parts (T : Txt prog K mg A) : PySem.W.keepIn K (.ref A.a_prime_parts) = true := T.F_prime_parts.kp
theorem Txt.b_look_prime (T : Txt prog K mg A) : Binds K A.d_look_prime ["p"] [] := T.F_look_prime.binds fun _ _ _ _ _ _ us hl => match us, hl with | [_], _ => rfl
theorem Txt.k_look_prime (T : Txt prog K mg A) : PySem.W.keepIn K (.ref A.a_look_prime) = true := T.F_look_prime.kp
theorem Txt.b_look_range (T : Txt prog K mg A) : Binds K A.d_look_range ["number", "low", "high"] [] := T.F_look_range.binds fun _ _ _ _ _ _ us hl => match us, hl with | [_, _, _], _ => rfl
theorem Txt.k_look_range (T : Txt prog K mg A) : PySem.W.keepIn K (.ref A.a_look_range) = true := T.F_look_range.kp
theorem Txt.b_power (T : Txt prog K mg A) : Binds K A.d_power ["base", "exponent"] [] := T.F_power.binds fun _ _ _ _ _ _ us hl => match us, hl with | [_, _], _ => rfl
theorem Txt.k_power (T : Txt prog K mg A) : PySem.W.keepIn K (.ref A.a_power) = true := T.F_power.kp
theorem Txt.b_power_mod (T : Txt prog K mg A) : Binds K A.d_power_mod ["base", "exponent", "modulus"] [] := T.F_power_mod.binds fun _ _ _ _ _ _ us hl => match us, hl with | [_, _, _], _ => rfl
theorem Txt.k_power_mod (T : Txt prog K mg A) : PySem.W.keepIn K (.ref A.a_power_mod) = true := T.F_power_mod.kp
theorem Txt.b_inverse_mod (T : Txt prog K mg A) : Binds K A.d_inverse_mod ["a", "modulus"] [] := T.F_inverse_mod.binds fun _ _ _ _ _ _ us hl => match us, hl with | [_, _], _ => rfl
theorem Txt.k_inverse_mod (T : Txt prog K mg A) : PySem.W.keepIn K (.ref A.a_inverse_mod) = true := T.F_inverse_mod.kp
theorem Txt.b_parted (T : Txt prog K mg A) : Binds K A.d_parted ["p", "n"] [] := T.F_parted.binds fun _ _ _ _ _ _ us hl => match us, hl with | [_, _], _ => rfl
theorem Txt.k_parted (T : Txt prog K mg A) : PySem.W.keepIn K (.ref A.a_parted) = true := T.F_parted.kp
theorem Txt.b_int_depth (T : Txt prog K mg A) : Binds K A.d_int_depth ["p", "n"] [] := T.F_int_depth.binds fun _ _ _ _ _ _ us hl => match us, hl with | [_, _], _ => rfl
theorem Txt.k_int_depth (T : Txt prog K mg A) : PySem.W.keepIn K (.ref A.a_int_depth) = true := T.F_int_depth.kp
theorem Txt.b_look_numbers (T : Txt prog K mg A) : Binds K A.d_look_numbers ["p", "a", "b"] [] := T.F_look_numbers.binds fun _ _ _ _ _ _ us hl => match us, hl with | [_, _, _], _ => rfl
theorem Txt.k_look_numbers (T : Txt prog K mg A) : PySem.W.keepIn K (.ref A.a_look_numbers) = true := T.F_look_numbers.kp
theorem Txt.b_look_zeros (T : Txt prog K mg A) : Binds K A.d_look_zeros ["a", "b"] [] := T.F_look_zeros.binds fun _ _ _ _ _ _ us hl => match us, hl with | [_, _], _ => rfl
theorem Txt.k_look_zeros (T : Txt prog K mg A) : PySem.W.keepIn K (.ref A.a_look_zeros) = true := T.F_look_zeros.kp
theorem Txt.b_square_unit (T : Txt prog K mg A) : Binds K A.d_square_unit ["p", "number"] [] := T.F_square_unit.binds fun _ _ _ _ _ _ us hl => match us, hl with | [_, _], _ => rfl
theorem Txt.k_square_unit (T : Txt prog K mg A) : PySem.W.keepIn K (.ref A.a_square_unit) = true := T.F_square_unit.kp
theorem Txt.b_odd_sign (T : Txt prog K mg A) : Binds K A.d_odd_sign ["p", "i", "u", "j", "w"] [] := T.F_odd_sign.binds fun _ _ _ _ _ _ us hl => match us, hl with | [_, _, _, _, _], _ => rfl
theorem Txt.k_odd_sign (T : Txt prog K mg A) : PySem.W.keepIn K (.ref A.a_odd_sign) = true := T.F_odd_sign.kp
theorem Txt.b_even_sign (T : Txt prog K mg A) : Binds K A.d_even_sign ["i", "u", "j", "w"] [] := T.F_even_sign.binds fun _ _ _ _ _ _ us hl => match us, hl with | [_, _, _, _], _ => rfl
theorem Txt.k_even_sign (T : Txt prog K mg A) : PySem.W.keepIn K (.ref A.a_even_sign) = true := T.F_even_sign.kp
theorem Txt.b_symbol_of (T : Txt prog K mg A) : Binds K A.d_symbol_of ["p", "a", "b"] [] := T.F_symbol_of.binds fun _ _ _ _ _ _ us hl => match us, hl with | [_, _, _], _ => rfl
theorem Txt.k_symbol_of (T : Txt prog K mg A) : PySem.W.keepIn K (.ref A.a_symbol_of) = true := T.F_symbol_of.kp
theorem Txt.b_symbol (T : Txt prog K mg A) : Binds K A.d_symbol ["p", "a", "b"] [] := T.F_symbol.binds fun _ _ _ _ _ _ us hl => match us, hl with | [_, _, _], _ => rfl
theorem Txt.k_symbol (T : Txt prog K mg A) : PySem.W.keepIn K (.ref A.a_symbol) = true := T.F_symbol.kp
theorem Txt.b_unit_root (T : Txt prog K mg A) : Binds K A.d_unit_root ["p", "number", "m"] [] := T.F_unit_root.binds fun _ _ _ _ _ _ us hl => match us, hl with | [_, _, _], _ => rfl
theorem Txt.k_unit_root (T : Txt prog K mg A) : PySem.W.keepIn K (.ref A.a_unit_root) = true := T.F_unit_root.kp
theorem Txt.b_start_pair (T : Txt prog K mg A) : Binds K A.d_start_pair ["p", "a", "b"] [] := T.F_start_pair.binds fun _ _ _ _ _ _ us hl => match us, hl with | [_, _, _], _ => rfl
theorem Txt.k_start_pair (T : Txt prog K mg A) : PySem.W.keepIn K (.ref A.a_start_pair) = true := T.F_start_pair.kp
theorem Txt.b_first_point (T : Txt prog K mg A) : Binds K A.d_first_point ["p", "a", "b", "m"] [] := T.F_first_point.binds fun _ _ _ _ _ _ us hl => match us, hl with | [_, _, _, _], _ => rfl
theorem Txt.k_first_point (T : Txt prog K mg A) : PySem.W.keepIn K (.ref A.a_first_point) = true := T.F_first_point.kp
theorem Txt.b_conic_point (T : Txt prog K mg A) : Binds K A.d_conic_point ["p", "a", "b", "m"] [] := T.F_conic_point.binds fun _ _ _ _ _ _ us hl => match us, hl with | [_, _, _, _], _ => rfl
theorem Txt.k_conic_point (T : Txt prog K mg A) : PySem.W.keepIn K (.ref A.a_conic_point) = true := T.F_conic_point.kp
theorem Txt.b_primes_of (T : Txt prog K mg A) : Binds K A.d_primes_of ["numbers", "most"] [] := T.F_primes_of.binds fun _ _ _ _ _ _ us hl => match us, hl with | [_, _], _ => rfl
theorem Txt.k_primes_of (T : Txt prog K mg A) : PySem.W.keepIn K (.ref A.a_primes_of) = true := T.F_primes_of.kp
theorem Txt.b_with_two (T : Txt prog K mg A) : Binds K A.d_with_two ["primes"] [] := T.F_with_two.binds fun _ _ _ _ _ _ us hl => match us, hl with | [_], _ => rfl
theorem Txt.k_with_two (T : Txt prog K mg A) : PySem.W.keepIn K (.ref A.a_with_two) = true := T.F_with_two.kp
theorem Txt.b_conic_bars (T : Txt prog K mg A) : Binds K A.d_conic_bars ["a", "b"] [] := T.F_conic_bars.binds fun _ _ _ _ _ _ us hl => match us, hl with | [_, _], _ => rfl
theorem Txt.k_conic_bars (T : Txt prog K mg A) : PySem.W.keepIn K (.ref A.a_conic_bars) = true := T.F_conic_bars.kp
theorem Txt.b_law_cells (T : Txt prog K mg A) : Binds K A.d_law_cells ["script"] [] := T.F_law_cells.binds fun _ _ _ _ _ _ us hl => match us, hl with | [_], _ => rfl
theorem Txt.k_law_cells (T : Txt prog K mg A) : PySem.W.keepIn K (.ref A.a_law_cells) = true := T.F_law_cells.kp
theorem Txt.b_law_draw (T : Txt prog K mg A) : Binds K A.d_law_draw ["pool", "many"] [] := T.F_law_draw.binds fun _ _ _ _ _ _ us hl => match us, hl with | [_, _], _ => rfl
theorem Txt.k_law_draw (T : Txt prog K mg A) : PySem.W.keepIn K (.ref A.a_law_draw) = true := T.F_law_draw.kp
theorem Txt.b_law_is_integer (T : Txt prog K mg A) : Binds K A.d_law_is_integer ["x"] [] := T.F_law_is_integer.binds fun _ _ _ _ _ _ us hl => match us, hl with | [_], _ => rfl
theorem Txt.k_law_is_integer (T : Txt prog K mg A) : PySem.W.keepIn K (.ref A.a_law_is_integer) = true := T.F_law_is_integer.kp
theorem Txt.b_law_power (T : Txt prog K mg A) : Binds K A.d_law_power ["base", "exponent"] [] := T.F_law_power.binds fun _ _ _ _ _ _ us hl => match us, hl with | [_, _], _ => rfl
theorem Txt.k_law_power (T : Txt prog K mg A) : PySem.W.keepIn K (.ref A.a_law_power) = true := T.F_law_power.kp
theorem Txt.b_law_primes (T : Txt prog K mg A) : Binds K A.d_law_primes [] [] := T.F_law_primes.binds fun _ _ _ _ _ _ us hl => match us, hl with | [], _ => rfl
theorem Txt.k_law_primes (T : Txt prog K mg A) : PySem.W.keepIn K (.ref A.a_law_primes) = true := T.F_law_primes.kp
theorem Txt.b_law_number (T : Txt prog K mg A) : Binds K A.d_law_number ["pool", "great"] [] := T.F_law_number.binds fun _ _ _ _ _ _ us hl => match us, hl with | [_, _], _ => rfl
theorem Txt.k_law_number (T : Txt prog K mg A) : PySem.W.keepIn K (.ref A.a_law_number) = true := T.F_law_number.kp
theorem Txt.b_law_is_square (T : Txt prog K mg A) : Binds K A.d_law_is_square ["p", "u"] [] := T.F_law_is_square.binds fun _ _ _ _ _ _ us hl => match us, hl with | [_, _], _ => rfl
theorem Txt.k_law_is_square (T : Txt prog K mg A) : PySem.W.keepIn K (.ref A.a_law_is_square) = true := T.F_law_is_square.kp
theorem Txt.b_law_walked (T : Txt prog K mg A) : Binds K A.d_law_walked ["a", "b"] [] := T.F_law_walked.binds fun _ _ _ _ _ _ us hl => match us, hl with | [_, _], _ => rfl
theorem Txt.k_law_walked (T : Txt prog K mg A) : PySem.W.keepIn K (.ref A.a_law_walked) = true := T.F_law_walked.kp
theorem Txt.b_law_symbol (T : Txt prog K mg A) : Binds K A.d_law_symbol ["p", "a", "b"] [] := T.F_law_symbol.binds fun _ _ _ _ _ _ us hl => match us, hl with | [_, _, _], _ => rfl
theorem Txt.k_law_symbol (T : Txt prog K mg A) : PySem.W.keepIn K (.ref A.a_law_symbol) = true := T.F_law_symbol.kp
theorem Txt.b_law_bars (T : Txt prog K mg A) : Binds K A.d_law_bars ["a", "b"] [] := T.F_law_bars.binds fun _ _ _ _ _ _ us hl => match us, hl with | [_, _], _ => rfl
theorem Txt.k_law_bars (T : Txt prog K mg A) : PySem.W.keepIn K (.ref A.a_law_bars) = true := T.F_law_bars.kp
theorem Txt.b_law_same_list (T : Txt prog K mg A) : Binds K A.d_law_same_list ["told", "due"] [] := T.F_law_same_list.binds fun _ _ _ _ _ _ us hl => match us, hl with | [_, _], _ => rfl
theorem Txt.k_law_same_list (T : Txt prog K mg A) : PySem.W.keepIn K (.ref A.a_law_same_list) = true := T.F_law_same_list.kp
theorem Txt.b_law_point_right (T : Txt prog K mg A) : Binds K A.d_law_point_right ["point", "p", "a", "b", "m"] [] := T.F_law_point_right.binds fun _ _ _ _ _ _ us hl => match us, hl with | [_, _, _, _, _], _ => rfl
theorem Txt.k_law_point_right (T : Txt prog K mg A) : PySem.W.keepIn K (.ref A.a_law_point_right) = true := T.F_law_point_right.kp
theorem Txt.b_law_prime_right (T : Txt prog K mg A) : Binds K A.d_law_prime_right ["pool", "p", "a", "b"] [] := T.F_law_prime_right.binds fun _ _ _ _ _ _ us hl => match us, hl with | [_, _, _, _], _ => rfl
theorem Txt.k_law_prime_right (T : Txt prog K mg A) : PySem.W.keepIn K (.ref A.a_law_prime_right) = true := T.F_law_prime_right.kp
theorem Txt.b_law_refusal (T : Txt prog K mg A) : Binds K A.d_law_refusal ["x"] [] := T.F_law_refusal.binds fun _ _ _ _ _ _ us hl => match us, hl with | [_], _ => rfl
theorem Txt.k_law_refusal (T : Txt prog K mg A) : PySem.W.keepIn K (.ref A.a_law_refusal) = true := T.F_law_refusal.kp
theorem Txt.b_law_refused (T : Txt prog K mg A) : Binds K A.d_law_refused ["word", "p", "a", "b", "m"] [] := T.F_law_refused.binds fun _ _ _ _ _ _ us hl => match us, hl with | [_, _, _, _, _], _ => rfl
theorem Txt.k_law_refused (T : Txt prog K mg A) : PySem.W.keepIn K (.ref A.a_law_refused) = true := T.F_law_refused.kp
theorem Txt.b_law_refusals_right (T : Txt prog K mg A) : Binds K A.d_law_refusals_right ["pool", "a", "b"] [] := T.F_law_refusals_right.binds fun _ _ _ _ _ _ us hl => match us, hl with | [_, _, _], _ => rfl
theorem Txt.k_law_refusals_right (T : Txt prog K mg A) : PySem.W.keepIn K (.ref A.a_law_refusals_right) = true := T.F_law_refusals_right.kp
theorem Txt.b_law (T : Txt prog K mg A) : Binds K A.d_law ["script"] [] := T.F_law.binds fun _ _ _ _ _ _ us hl => match us, hl with | [_], _ => rfl
theorem Txt.k_law (T : Txt prog K mg A) : PySem.W.keepIn K (.ref A.a_law) = true := T.F_law.kp
end
end K9
namespace K7
structure Pr (p : Nat) : Prop where
  two : 2 ≤ p
  irr : ∀ d, d ∣ p → d = 1 ∨ d = p
theorem Pr.cop {p a : Nat} (h : Pr p) (ha : ¬ p ∣ a) : Nat.Coprime p a := by
  rcases h.irr (Nat.gcd p a) (Nat.gcd_dvd_left p a) with e | e
  · exact e
  · exact absurd (e ▸ Nat.gcd_dvd_right p a) ha
theorem Pr.mul {p a b : Nat} (h : Pr p) (hd : p ∣ a * b) : p ∣ a ∨ p ∣ b := by
  by_cases ha : p ∣ a
  · exact .inl ha
  · exact .inr (Nat.Coprime.dvd_of_dvd_mul_left (h.cop ha) hd)
theorem Pr.copPow {p a : Nat} (h : Pr p) (ha : ¬ p ∣ a) (k : Nat) : Nat.Coprime (p ^ k) a := Nat.Coprime.pow_left k (h.cop ha)
def vN (p : Nat) (n : Nat) : Nat := if h : 2 ≤ p ∧ 0 < n ∧ n % p = 0 then vN p (n / p) + 1 else 0
termination_by n
decreasing_by exact Nat.div_lt_self h.2.1 h.1
theorem vN_step {p n : Nat} (hp : 2 ≤ p) (hn : 0 < n) (h : n % p = 0) : vN p n = vN p (n / p) + 1 := by
  rw [vN, dif_pos ⟨hp, hn, h⟩]
theorem vN_zero {p n : Nat} (h : n % p ≠ 0) : vN p n = 0 := by
  rw [vN, dif_neg (fun z => h z.2.2)]
theorem vN_mulp {p n : Nat} (hp : 2 ≤ p) (hn : 0 < n) : vN p (p * n) = vN p n + 1 := by
  rw [vN_step hp (Nat.mul_pos (by omega) hn) (Nat.mul_mod_right p n), Nat.mul_div_cancel_left n (by omega)]
theorem vN_pow {p r : Nat} (hp : 2 ≤ p) (hr : 0 < r) : ∀ v, vN p (p ^ v * r) = v + vN p r
  | 0 => by rw [Nat.pow_zero, Nat.one_mul, Nat.zero_add]
  | v + 1 => by
    rw [Nat.pow_succ, Nat.mul_assoc, Nat.mul_comm p r, ← Nat.mul_assoc, Nat.mul_comm _ p, vN_mulp hp (Nat.mul_pos (Nat.pow_pos (by omega)) hr), vN_pow hp hr v]
    omega
theorem vN_form {p : Nat} (hp : 2 ≤ p) : ∀ n, 0 < n → ∃ r, n = p ^ vN p n * r ∧ 0 < r ∧ r % p ≠ 0 := fun n => by
  induction n using Nat.strongRecOn with
  | ind n ih =>
    intro hn
    by_cases h : n % p = 0
    · have hd : n / p < n := Nat.div_lt_self hn hp
      have hpos : 0 < n / p := Nat.div_pos (Nat.le_of_dvd hn (Nat.dvd_of_mod_eq_zero h)) (by omega)
      obtain ⟨r, e, hr, hr2⟩ := ih (n / p) hd hpos
      refine ⟨r, ?_, hr, hr2⟩
      rw [vN_step hp hn h, Nat.pow_succ, Nat.mul_assoc, Nat.mul_comm p r, ← Nat.mul_assoc, ← e]
      exact (Nat.div_mul_cancel (Nat.dvd_of_mod_eq_zero h)).symm
    · exact ⟨n, by rw [vN_zero h, Nat.pow_zero, Nat.one_mul], hn, h⟩
theorem vN_unique {p v r n : Nat} (hp : 2 ≤ p) (e : n = p ^ v * r) (hr : r % p ≠ 0) : vN p n = v := by
  have hr0 : 0 < r := by
    rcases Nat.eq_zero_or_pos r with z | z
    · rw [z, Nat.zero_mod] at hr; exact absurd rfl hr
    · exact z
  rw [e, vN_pow hp hr0, vN_zero hr, Nat.add_zero]
theorem vN_mul {p a b : Nat} (h : Pr p) (ha : 0 < a) (hb : 0 < b) : vN p (a * b) = vN p a + vN p b := by
  obtain ⟨r, e1, r0, r1⟩ := vN_form h.two a ha
  obtain ⟨s, e2, s0, s1⟩ := vN_form h.two b hb
  refine vN_unique h.two (r := r * s) ?_ fun z => ?_
  · rw [Nat.pow_add]
    calc a * b = (p ^ vN p a * r) * (p ^ vN p b * s) := by rw [← e1, ← e2]
      _ = p ^ vN p a * p ^ vN p b * (r * s) := by
        rw [Nat.mul_assoc, Nat.mul_left_comm r, Nat.mul_assoc]
  · rcases h.mul (Nat.dvd_of_mod_eq_zero z) with q | q
    · exact r1 (Nat.mod_eq_zero_of_dvd q)
    · exact s1 (Nat.mod_eq_zero_of_dvd q)
theorem pow_le_vN {p n k : Nat} (hp : 2 ≤ p) (hn : 0 < n) (h : p ^ k ∣ n) : k ≤ vN p n := by
  obtain ⟨c, e⟩ := h
  have hc : 0 < c := by
    rcases Nat.eq_zero_or_pos c with z | z
    · rw [z, Nat.mul_zero] at e; omega
    · exact z
  rw [e, vN_pow hp hc]
  omega
theorem vN_dvd {p n : Nat} (hp : 2 ≤ p) (hn : 0 < n) : p ^ vN p n ∣ n := by
  obtain ⟨r, e, _⟩ := vN_form hp n hn
  exact ⟨r, e⟩
theorem vN_lt_pow {p n : Nat} (hp : 2 ≤ p) (hn : 0 < n) : p ^ vN p n ≤ n := Nat.le_of_dvd hn (vN_dvd hp hn)
def S (p : Nat) : Nat → Nat → Nat
  | 0, _ => 0
  | J + 1, n => n % p + S p J (n / p)
def L (p : Nat) : Nat → Nat → Nat
  | 0, _ => 0
  | J + 1, n => n / p + L p J (n / p)
def C (p : Nat) : Nat → Nat → Nat → Nat → Nat
  | 0, _, _, _ => 0
  | J + 1, a, b, c => (a % p + b % p + c) / p + C p J (a / p) (b / p) ((a % p + b % p + c) / p)
theorem S_zero (p : Nat) : ∀ J, S p J 0 = 0
  | 0 => rfl
  | J + 1 => by rw [S, Nat.zero_mod, Nat.zero_div, S_zero p J]
theorem L_zero (p : Nat) : ∀ J, L p J 0 = 0
  | 0 => rfl
  | J + 1 => by rw [L, Nat.zero_div, L_zero p J]
theorem C_zero {p : Nat} (hp : 2 ≤ p) : ∀ J c, c ≤ 1 → C p J 0 0 c = 0
  | 0, _, _ => rfl
  | J + 1, c, h => by
    have e : (0 % p + 0 % p + c) / p = 0 := by
      rw [Nat.zero_mod, Nat.zero_add]
      exact Nat.div_eq_of_lt (by omega)
    rw [C, e, Nat.zero_div, C_zero hp J 0 (by omega)]
theorem div_lt_pow {p n J : Nat} (hp : 2 ≤ p) (h : n < p ^ (J + 1)) : n / p < p ^ J := by
  rw [Nat.pow_succ] at h
  exact Nat.div_lt_of_lt_mul (by rw [Nat.mul_comm]; exact h)
theorem S_fuel {p : Nat} (hp : 2 ≤ p) : ∀ J n, n < p ^ J → ∀ J', n < p ^ J' → S p J n = S p J' n
  | 0, n, h, J', _ => by
    have e : n = 0 := by rw [Nat.pow_zero] at h; omega
    rw [e, S_zero, S_zero]
  | J + 1, n, h, 0, h' => by
    have e : n = 0 := by rw [Nat.pow_zero] at h'; omega
    rw [e, S_zero, S_zero]
  | J + 1, n, h, J' + 1, h' => by rw [S, S, S_fuel hp J (n / p) (div_lt_pow hp h) J' (div_lt_pow hp h')]
theorem L_fuel {p : Nat} (hp : 2 ≤ p) : ∀ J n, n < p ^ J → ∀ J', n < p ^ J' → L p J n = L p J' n
  | 0, n, h, J', _ => by
    have e : n = 0 := by rw [Nat.pow_zero] at h; omega
    rw [e, L_zero, L_zero]
  | J + 1, n, h, 0, h' => by
    have e : n = 0 := by rw [Nat.pow_zero] at h'; omega
    rw [e, L_zero, L_zero]
  | J + 1, n, h, J' + 1, h' => by rw [L, L, L_fuel hp J (n / p) (div_lt_pow hp h) J' (div_lt_pow hp h')]
theorem carry_le {p a b c : Nat} (hp : 2 ≤ p) (hc : c ≤ 1) : (a % p + b % p + c) / p ≤ 1 := by
  have h1 := Nat.mod_lt a (show p > 0 by omega)
  have h2 := Nat.mod_lt b (show p > 0 by omega)
  have : (a % p + b % p + c) / p < 2 := Nat.div_lt_of_lt_mul (by omega)
  omega
theorem C_fuel {p : Nat} (hp : 2 ≤ p) : ∀ J a b c, c ≤ 1 → a < p ^ J → b < p ^ J → ∀ J', a < p ^ J' → b < p ^ J' → C p J a b c = C p J' a b c
  | 0, a, b, c, hc, ha, hb, J', _, _ => by
    rw [Nat.pow_zero] at ha hb
    have e : a = 0 := by omega
    have e2 : b = 0 := by omega
    rw [e, e2, C_zero hp _ _ hc, C_zero hp _ _ hc]
  | J + 1, a, b, c, hc, ha, hb, 0, h1, h2 => by
    rw [Nat.pow_zero] at h1 h2
    have e : a = 0 := by omega
    have e2 : b = 0 := by omega
    rw [e, e2, C_zero hp _ _ hc, C_zero hp _ _ hc]
  | J + 1, a, b, c, hc, ha, hb, J' + 1, h1, h2 => by
    rw [C, C, C_fuel hp J (a / p) (b / p) _ (carry_le hp hc) (div_lt_pow hp ha) (div_lt_pow hp hb) J' (div_lt_pow hp h1) (div_lt_pow hp h2)]
theorem S_L {p : Nat} (hp : 2 ≤ p) : ∀ J n, n < p ^ J → n = S p J n + (p - 1) * L p J n
  | 0, n, h => by
    rw [Nat.pow_zero] at h
    have e : n = 0 := by omega
    rw [e]; rfl
  | J + 1, n, h => by
    have ih := S_L hp J (n / p) (div_lt_pow hp h)
    have e := Nat.div_add_mod n p
    rw [S, L, Nat.mul_add]
    have e2 : p * (n / p) = (p - 1) * (n / p) + n / p := by
      rw [← Nat.succ_mul]
      congr 1
      omega
    omega
theorem step_sum {p a b c : Nat} (hp : 2 ≤ p) : (a + b + c) % p = (a % p + b % p + c) % p ∧ (a + b + c) / p = a / p + b / p + (a % p + b % p + c) / p := by
  have e1 := Nat.div_add_mod a p
  have e2 := Nat.div_add_mod b p
  have e : a + b + c = (a % p + b % p + c) + p * (a / p + b / p) := by
    rw [Nat.mul_add]
    omega
  constructor
  · rw [e, Nat.add_mul_mod_self_left]
  · rw [e, Nat.add_mul_div_left _ _ (show 0 < p by omega)]
    omega
theorem S_C {p : Nat} (hp : 2 ≤ p) : ∀ J a b c, a + b + c < p ^ J → S p J a + S p J b + c = S p J (a + b + c) + (p - 1) * C p J a b c
  | 0, a, b, c, h => by
    rw [Nat.pow_zero] at h
    have e1 : a = 0 := by omega
    have e2 : b = 0 := by omega
    have e3 : c = 0 := by omega
    rw [e1, e2, e3]; rfl
  | J + 1, a, b, c, h => by
    obtain ⟨m1, m2⟩ := step_sum (a := a) (b := b) (c := c) hp
    have ih := S_C hp J (a / p) (b / p) ((a % p + b % p + c) / p) (by rw [← m2]; exact div_lt_pow hp h)
    rw [← m2] at ih
    rw [S, S, S, C, m1, Nat.mul_add]
    have e := Nat.div_add_mod (a % p + b % p + c) p
    have e2 : p * ((a % p + b % p + c) / p) = (p - 1) * ((a % p + b % p + c) / p) + (a % p + b % p + c) / p := by
      rw [← Nat.succ_mul]
      congr 1
      omega
    omega
theorem L_C {p : Nat} (hp : 2 ≤ p) (J a b : Nat) (h : a + b < p ^ J) : L p J (a + b) = L p J a + L p J b + C p J a b 0 := by
  have h1 := S_L hp J (a + b) h
  have h2 := S_L hp J a (by omega)
  have h3 := S_L hp J b (by omega)
  have h4 := S_C hp J a b 0 h
  rw [Nat.add_zero, Nat.add_zero] at h4
  have e : (p - 1) * L p J (a + b) = (p - 1) * (L p J a + L p J b + C p J a b 0) := by
    rw [Nat.mul_add, Nat.mul_add]
    omega
  exact Nat.eq_of_mul_eq_mul_left (by omega) e
def Cl (p a b : Nat) : Nat → Nat → Nat
  | 0, _ => 0
  | J + 1, s => (if s ≤ a % s + b % s then 1 else 0) + Cl p a b J (s * p)
def cin (p a b k : Nat) : Nat := if p ^ k ≤ a % p ^ k + b % p ^ k then 1 else 0
theorem cin_le (p a b k : Nat) : cin p a b k ≤ 1 := by unfold cin; split <;> omega
theorem cin_next {p a b k : Nat} (hp : 2 ≤ p) : ((a / p ^ k) % p + (b / p ^ k) % p + cin p a b k) / p = cin p a b (k + 1) := by
  have hq : 0 < p ^ k := Nat.pow_pos (by omega)
  have e1 : a % p ^ (k + 1) = a % p ^ k + p ^ k * (a / p ^ k % p) := by rw [Nat.pow_succ, Nat.mod_mul]
  have e2 : b % p ^ (k + 1) = b % p ^ k + p ^ k * (b / p ^ k % p) := by rw [Nat.pow_succ, Nat.mod_mul]
  unfold cin
  rw [e1, e2]
  have l1 := Nat.mod_lt a hq
  have l2 := Nat.mod_lt b hq
  have d1 := Nat.mod_lt (a / p ^ k) (show p > 0 by omega)
  have d2 := Nat.mod_lt (b / p ^ k) (show p > 0 by omega)
  generalize a % p ^ k = x at *
  generalize b % p ^ k = y at *
  generalize a / p ^ k % p = u at *
  generalize b / p ^ k % p = v at *
  have ep : p ^ (k + 1) = p ^ k * p := Nat.pow_succ p k
  rw [ep]
  generalize p ^ k = q at *
  by_cases c : q ≤ x + y
  · rw [if_pos c]
    by_cases d : p ≤ u + v + 1
    · have : q * p ≤ x + q * u + (y + q * v) := by
        have := Nat.mul_le_mul_left q d
        rw [Nat.mul_add, Nat.mul_add, Nat.mul_one] at this
        omega
      rw [if_pos this]
      have e3 : (u + v + 1) / p = 1 := by
        rw [Nat.div_eq_iff (by omega)]; omega
      exact e3
    · have : ¬ q * p ≤ x + q * u + (y + q * v) := by
        have := Nat.mul_le_mul_left q (show u + v + 2 ≤ p by omega)
        rw [Nat.mul_add, Nat.mul_add] at this
        omega
      rw [if_neg this]
      exact Nat.div_eq_of_lt (by omega)
  · rw [if_neg c, Nat.add_zero]
    by_cases d : p ≤ u + v
    · have : q * p ≤ x + q * u + (y + q * v) := by
        have := Nat.mul_le_mul_left q d
        rw [Nat.mul_add] at this
        omega
      rw [if_pos this, Nat.div_eq_iff (by omega)]; omega
    · have : ¬ q * p ≤ x + q * u + (y + q * v) := by
        have := Nat.mul_le_mul_left q (show u + v + 1 ≤ p by omega)
        rw [Nat.mul_add, Nat.mul_add, Nat.mul_one] at this
        omega
      rw [if_neg this]
      exact Nat.div_eq_of_lt (by omega)
theorem C_Cl {p a b : Nat} (hp : 2 ≤ p) : ∀ J k, C p J (a / p ^ k) (b / p ^ k) (cin p a b k) = Cl p a b J (p ^ (k + 1))
  | 0, _ => rfl
  | J + 1, k => by
    rw [C, Cl, cin_next hp]
    have e1 : a / p ^ k / p = a / p ^ (k + 1) := by rw [Nat.div_div_eq_div_mul, Nat.pow_succ]
    have e2 : b / p ^ k / p = b / p ^ (k + 1) := by rw [Nat.div_div_eq_div_mul, Nat.pow_succ]
    rw [e1, e2, C_Cl hp J (k + 1), ← Nat.pow_succ]
    rfl
theorem Cl_C {p a b : Nat} (hp : 2 ≤ p) (J : Nat) : Cl p a b J p = C p J a b 0 := by
  have h := C_Cl (a := a) (b := b) hp J 0
  have e : cin p a b 0 = 0 := by
    unfold cin
    rw [Nat.pow_zero, Nat.mod_one, Nat.mod_one]
    rfl
  rw [e, Nat.pow_zero, Nat.div_one, Nat.div_one, Nat.zero_add, Nat.pow_one] at h
  exact h.symm
def fac : Nat → Nat
  | 0 => 1
  | n + 1 => (n + 1) * fac n
theorem fac_pos : ∀ n, 0 < fac n
  | 0 => Nat.one_pos
  | n + 1 => Nat.mul_pos (Nat.succ_pos n) (fac_pos n)
theorem L_succ {p : Nat} (hp : 2 ≤ p) : ∀ J n, n + 1 < p ^ J → L p J (n + 1) = L p J n + vN p (n + 1)
  | 0, n, h => by rw [Nat.pow_zero] at h; omega
  | J + 1, n, h => by
    rw [L, L]
    by_cases hd : (n + 1) % p = 0
    · have e : (n + 1) / p = n / p + 1 := by
        rw [Nat.succ_div, if_pos (Nat.dvd_of_mod_eq_zero hd)]
      have ih := L_succ hp J (n / p) (by rw [← e]; exact div_lt_pow hp h)
      rw [vN_step hp (Nat.succ_pos n) hd, e, ih]
      omega
    · have e : (n + 1) / p = n / p := by
        rw [Nat.succ_div, if_neg (fun z => hd (Nat.mod_eq_zero_of_dvd z)), Nat.add_zero]
      rw [vN_zero hd, e, Nat.add_zero]
theorem vN_fac {p : Nat} (h : Pr p) (J : Nat) : ∀ n, n < p ^ J → vN p (fac n) = L p J n
  | 0, _ => by
    rw [L_zero]
    exact vN_zero (by
      show 1 % p ≠ 0
      rw [Nat.mod_eq_of_lt h.two]
      exact Nat.one_ne_zero)
  | n + 1, hn => by
    rw [fac, vN_mul h (Nat.succ_pos n) (fac_pos n), vN_fac h J n (by omega), L_succ h.two J n hn]
    exact Nat.add_comm _ _
end K7
namespace K9
open K7
def primesN : List Nat := [2, 3, 5, 7, 11, 13, 17, 19, 23, 29, 31, 37, 41, 43, 47, 53, 59, 61, 67, 71, 73, 79, 83, 89, 97]
def oddP : List Nat := [3, 5, 7, 11, 13, 17, 19, 23, 29, 31, 37, 41, 43, 47, 53, 59, 61, 67, 71, 73, 79, 83, 89, 97]
theorem mem_cases {p : Nat} (h : p ∈ primesN) : p = 2 ∨ p ∈ oddP := by
  have : ∀ q ∈ primesN, q = 2 ∨ q ∈ oddP := by decide
  exact this p h
theorem odd_mem {p : Nat} (h : p ∈ oddP) : p ∈ primesN ∧ p ≠ 2 ∧ 3 ≤ p ∧ p < 98 ∧ p % 2 = 1 := by
  have : ∀ q ∈ oddP, q ∈ primesN ∧ q ≠ 2 ∧ 3 ≤ q ∧ q < 98 ∧ q % 2 = 1 := by decide
  exact this p h
theorem pr_mem {p : Nat} (hp : p ∈ primesN) : Pr p := by
  have h : ∀ p ∈ primesN, 2 ≤ p ∧ p < 98 ∧ ∀ d, d < 98 → p % d = 0 → d = 1 ∨ d = p := by decide +kernel
  obtain ⟨h1, h2, h3⟩ := h p hp
  refine ⟨h1, fun d hd => h3 d ?_ (Nat.mod_eq_zero_of_dvd hd)⟩
  have := Nat.le_of_dvd (by omega) hd
  omega
def pm (p r : Nat) : Nat := r ^ ((p - 1) / 2) % p
def rs (p : Nat) (u : Int) : Nat := (u % (p : Int)).toNat
def nr (p : Nat) (u : Int) : Bool := !(pm p (rs p u) == 1)
theorem pm_tab : ∀ p ∈ oddP, ∀ r, r < p → r ≠ 0 → (pm p r = 1 ∨ pm p r = p - 1) := by decide +kernel
theorem pm_mul (p r s : Nat) : pm p (r * s % p) = pm p r * pm p s % p := by
  unfold pm
  rw [← Nat.pow_mod, Nat.mul_pow, Nat.mul_mod]
theorem rs_lt {p : Nat} (hp : 0 < p) (u : Int) : rs p u < p := by
  unfold rs
  have h1 := Int.emod_nonneg u (show (p : Int) ≠ 0 by omega)
  have h2 := Int.emod_lt_of_pos u (show (0 : Int) < p by omega)
  omega
theorem rs_cast {p : Nat} (hp : 0 < p) (u : Int) : ((rs p u : Nat) : Int) = u % p := by
  unfold rs
  exact Int.toNat_of_nonneg (Int.emod_nonneg u (by omega))
theorem rs_mul {p : Nat} (hp : 0 < p) (u v : Int) : rs p (u * v) = rs p u * rs p v % p := by
  have h : ((rs p (u * v) : Nat) : Int) = ((rs p u * rs p v % p : Nat) : Int) := by
    rw [rs_cast hp, Int.natCast_emod, Int.natCast_mul, rs_cast hp, rs_cast hp, ← Int.mul_emod]
  omega
theorem rs_zero {p : Nat} (hp : 0 < p) {u : Int} (h : ¬ (p : Int) ∣ u) : rs p u ≠ 0 := by
  intro z
  have := rs_cast hp u
  rw [z] at this
  exact h (Int.dvd_of_emod_eq_zero this.symm)
theorem nr_mul {p : Nat} (hp : p ∈ oddP) {u v : Int} (hu : ¬ (p : Int) ∣ u) (hv : ¬ (p : Int) ∣ v) : nr p (u * v) = xor (nr p u) (nr p v) := by
  obtain ⟨_, _, h3, _, _⟩ := odd_mem hp
  have h0 : 0 < p := by omega
  unfold nr
  rw [rs_mul h0, pm_mul]
  have e1 : p % p = 0 := Nat.mod_self p
  have a1 : 1 * 1 % p = 1 := Nat.mod_eq_of_lt (by omega)
  have a2 : 1 * (p - 1) % p = p - 1 := by rw [Nat.one_mul]; exact Nat.mod_eq_of_lt (by omega)
  have a3 : (p - 1) * 1 % p = p - 1 := by rw [Nat.mul_one]; exact Nat.mod_eq_of_lt (by omega)
  have a4 : (p - 1) * (p - 1) % p = 1 := by
    obtain ⟨q, rfl⟩ : ∃ q, p = q + 3 := ⟨p - 3, by omega⟩
    have : (q + 3 - 1) * (q + 3 - 1) = 1 + (q + 3) * (q + 1) := by
      show (q + 2) * (q + 2) = _
      simp only [Nat.mul_add, Nat.add_mul]
      omega
    rw [this, Nat.add_mul_mod_self_left]
    exact Nat.mod_eq_of_lt (by omega)
  have n1 : ((p - 1) == 1) = false := by simp; omega
  rcases pm_tab p hp _ (rs_lt h0 u) (rs_zero h0 hu) with x | x <;> rcases pm_tab p hp _ (rs_lt h0 v) (rs_zero h0 hv) with y | y <;> rw [x, y]
  · rw [a1]; rfl
  · rw [a2, n1]; rfl
  · rw [a3, n1]; rfl
  · rw [a4, n1]; rfl
def e4 (u : Int) : Bool := decide (u % 4 = 3)
def e8 (u : Int) : Bool := decide (u % 8 = 3) || decide (u % 8 = 5)
theorem odd8 {u : Int} (h : ¬ (2 : Int) ∣ u) : u % 8 = 1 ∨ u % 8 = 3 ∨ u % 8 = 5 ∨ u % 8 = 7 := by omega
theorem e4_8 (u : Int) : e4 u = decide (u % 8 = 3 ∨ u % 8 = 7) := by
  unfold e4
  congr 1
  apply propext
  omega
theorem e_mul {u v : Int} (hu : ¬ (2 : Int) ∣ u) (hv : ¬ (2 : Int) ∣ v) : e4 (u * v) = xor (e4 u) (e4 v) ∧ e8 (u * v) = xor (e8 u) (e8 v) := by
  have h := Int.mul_emod u v 8
  rw [e4_8, e4_8, e4_8]
  unfold e8
  rcases odd8 hu with a | a | a | a <;> rcases odd8 hv with b | b | b | b <;> rw [a, b] at h <;> rw [h, a, b] <;> decide
def od (i : Nat) : Bool := i % 2 == 1
theorem od_add (i j : Nat) : od (i + j) = xor (od i) (od j) := by
  unfold od
  rcases Nat.mod_two_eq_zero_or_one i with a | a <;> rcases Nat.mod_two_eq_zero_or_one j with b | b <;> rw [Nat.add_mod, a, b] <;> rfl
def sgB (p i : Nat) (u : Int) (j : Nat) (w : Int) : Bool :=
  if p = 2 then xor (xor (e4 u && e4 w) (od i && e8 w)) (od j && e8 u) else xor (xor (od i && od j && od ((p - 1) / 2)) (nr p u && od j)) (nr p w && od i)
theorem sgB_symm (p i : Nat) (u : Int) (j : Nat) (w : Int) : sgB p i u j w = sgB p j w i u := by
  unfold sgB
  split
  · cases e4 u <;> cases e4 w <;> cases od i <;> cases od j <;> cases e8 u <;> cases e8 w <;> rfl
  · cases od i <;> cases od j <;> cases od ((p - 1) / 2) <;> cases nr p u <;> cases nr p w <;> rfl
theorem sgB_mul {p : Nat} (hp : p ∈ primesN) {i i' j : Nat} {u u' w : Int} (hu : ¬ (p : Int) ∣ u) (hu' : ¬ (p : Int) ∣ u') : sgB p (i + i') (u * u') j w = xor (sgB p i u j w) (sgB p i' u' j w) := by
  unfold sgB
  rcases mem_cases hp with rfl | ho
  · rw [if_pos rfl, if_pos rfl, if_pos rfl, (e_mul hu hu').1, (e_mul hu hu').2, od_add]
    cases e4 u <;> cases e4 u' <;> cases e4 w <;> cases od i <;> cases od i' <;> cases od j <;> cases e8 u <;> cases e8 u' <;> cases e8 w <;> rfl
  · rw [if_neg (odd_mem ho).2.1, if_neg (odd_mem ho).2.1, if_neg (odd_mem ho).2.1, nr_mul ho hu hu', od_add]
    cases od i <;> cases od i' <;> cases od j <;> cases od ((p - 1) / 2) <;> cases nr p u <;> cases nr p u' <;> cases nr p w <;> rfl
def vI (p : Nat) (a : Int) : Nat := vN p a.natAbs
def un (p : Nat) (a : Int) : Int := a / (p : Int) ^ vI p a
theorem form {p : Nat} (hp : 2 ≤ p) {a : Int} (ha : a ≠ 0) : a = (p : Int) ^ vI p a * un p a ∧ ¬ (p : Int) ∣ un p a := by
  have h0 : 0 < a.natAbs := by omega
  have hd : (p : Int) ^ vI p a ∣ a := by
    have := vN_dvd hp h0
    have h2 : ((p ^ vN p a.natAbs : Nat) : Int) ∣ (a.natAbs : Int) := Int.natCast_dvd_natCast.mpr this
    rw [Int.natCast_pow] at h2
    exact Int.dvd_natAbs.mp h2
  have e : a = (p : Int) ^ vI p a * un p a := (Int.mul_ediv_cancel' hd).symm
  refine ⟨e, fun ⟨c, hc⟩ => ?_⟩
  have h3 : p ^ (vI p a + 1) ∣ a.natAbs := by
    have h4 : (p : Int) ^ (vI p a + 1) ∣ a := by
      rw [Int.pow_succ]
      exact ⟨c, by rw [Int.mul_assoc, ← hc]; exact e⟩
    have h5 : ((p ^ (vI p a + 1) : Nat) : Int) ∣ (a.natAbs : Int) := by
      rw [Int.natCast_pow]
      exact Int.dvd_natAbs.mpr h4
    exact Int.natCast_dvd_natCast.mp h5
  have := pow_le_vN hp h0 h3
  unfold vI at this
  omega
theorem form_uniq {p : Nat} (hp : 2 ≤ p) {a u : Int} {i : Nat} (e : a = (p : Int) ^ i * u) (hu : ¬ (p : Int) ∣ u) : vI p a = i ∧ un p a = u := by
  have hv : vI p a = i := by
    refine vN_unique hp (r := u.natAbs) ?_ fun z => hu ?_
    · rw [e, Int.natAbs_mul, Int.natAbs_pow, Int.natAbs_natCast]
    · exact Int.dvd_natAbs.mp (Int.natCast_dvd_natCast.mpr (Nat.dvd_of_mod_eq_zero z))
  refine ⟨hv, ?_⟩
  unfold un
  rw [hv, e]
  exact Int.mul_ediv_cancel_left _ (Int.pow_ne_zero (by omega))
def sg (p : Nat) (a b : Int) : Bool := sgB p (vI p a) (un p a) (vI p b) (un p b)
theorem sg_symm (p : Nat) (a b : Int) : sg p a b = sg p b a := sgB_symm _ _ _ _ _
theorem int_pr {p : Nat} (h : Pr p) {u v : Int} (hu : ¬ (p : Int) ∣ u) (hv : ¬ (p : Int) ∣ v) : ¬ (p : Int) ∣ u * v := by
  intro z
  have h1 : p ∣ u.natAbs * v.natAbs := by
    rw [← Int.natAbs_mul]
    exact Int.natCast_dvd_natCast.mp (Int.dvd_natAbs.mpr z)
  rcases h.mul h1 with q | q
  · exact hu (Int.dvd_natAbs.mp (Int.natCast_dvd_natCast.mpr q))
  · exact hv (Int.dvd_natAbs.mp (Int.natCast_dvd_natCast.mpr q))
theorem form_mul {p : Nat} (hp : p ∈ primesN) {a b : Int} (ha : a ≠ 0) (hb : b ≠ 0) : vI p (a * b) = vI p a + vI p b ∧ un p (a * b) = un p a * un p b := by
  have h := pr_mem hp
  obtain ⟨e1, n1⟩ := form h.two ha
  obtain ⟨e2, n2⟩ := form h.two hb
  refine form_uniq h.two ?_ (int_pr h n1 n2)
  rw [Int.pow_add]
  calc a * b = ((p : Int) ^ vI p a * un p a) * ((p : Int) ^ vI p b * un p b) := by rw [← e1, ← e2]
    _ = _ := by rw [Int.mul_assoc, Int.mul_left_comm (un p a), Int.mul_assoc]
theorem sg_mul {p : Nat} (hp : p ∈ primesN) {a a' b : Int} (ha : a ≠ 0) (ha' : a' ≠ 0) : sg p (a * a') b = xor (sg p a b) (sg p a' b) := by
  have h := pr_mem hp
  unfold sg
  obtain ⟨e1, e2⟩ := form_mul hp ha ha'
  rw [e1, e2]
  exact sgB_mul hp (form h.two ha).2 (form h.two ha').2
theorem sg_units {p : Nat} (hp : p ∈ oddP) {a b : Int} (ha : ¬ (p : Int) ∣ a) (hb : ¬ (p : Int) ∣ b) : sg p a b = false := by
  obtain ⟨h1, h2, h3, _, _⟩ := odd_mem hp
  have f1 := form_uniq (p := p) (i := 0) (by omega) (show a = (p : Int) ^ 0 * a by rw [Int.pow_zero, Int.one_mul]) ha
  have f2 := form_uniq (p := p) (i := 0) (by omega) (show b = (p : Int) ^ 0 * b by rw [Int.pow_zero, Int.one_mul]) hb
  unfold sg sgB
  rw [if_neg h2, f1.1, f2.1]
  cases nr p (un p a) <;> cases nr p (un p b) <;> rfl
def xo : List Bool → Bool
  | [] => false
  | b :: r => xor b (xo r)
theorem xo_xor (f g : Nat → Bool) : ∀ l : List Nat, xo (l.map fun p => xor (f p) (g p)) = xor (xo (l.map f)) (xo (l.map g))
  | [] => rfl
  | a :: l => by
    show xor (xor (f a) (g a)) (xo (l.map fun p => xor (f p) (g p))) = xor (xor (f a) (xo (l.map f))) (xor (g a) (xo (l.map g)))
    rw [xo_xor f g l]
    cases f a <;> cases g a <;> cases xo (l.map f) <;> cases xo (l.map g) <;> rfl
theorem map_eq {f g : Nat → Bool} : ∀ {l : List Nat}, (∀ p ∈ l, f p = g p) → l.map f = l.map g
  | [], _ => rfl
  | a :: l, h => by
    rw [List.map_cons, List.map_cons, h a List.mem_cons_self, map_eq fun p hp => h p (List.mem_cons_of_mem _ hp)]
def ng (a : Int) : Bool := decide (a < 0)
def T (a b : Int) : Bool := xor (ng a && ng b) (xo (primesN.map fun p => sg p a b))
theorem ng_mul {a b : Int} (ha : a ≠ 0) (hb : b ≠ 0) : ng (a * b) = xor (ng a) (ng b) := by
  unfold ng
  rcases Int.lt_or_lt_of_ne ha with x | x <;> rcases Int.lt_or_lt_of_ne hb with y | y
  · have := Int.mul_pos_of_neg_of_neg x y
    rw [decide_eq_false (by omega), decide_eq_true x, decide_eq_true y]; rfl
  · have := Int.mul_neg_of_neg_of_pos x y
    rw [decide_eq_true this, decide_eq_true x, decide_eq_false (by omega)]; rfl
  · have := Int.mul_neg_of_pos_of_neg x y
    rw [decide_eq_true this, decide_eq_false (by omega), decide_eq_true y]; rfl
  · have := Int.mul_pos x y
    rw [decide_eq_false (by omega), decide_eq_false (by omega), decide_eq_false (by omega)]; rfl
theorem T_symm (a b : Int) : T a b = T b a := by
  unfold T
  rw [Bool.and_comm, map_eq (f := fun p => sg p a b) (g := fun p => sg p b a) fun p _ => sg_symm p a b]
theorem T_mul {a a' b : Int} (ha : a ≠ 0) (ha' : a' ≠ 0) : T (a * a') b = xor (T a b) (T a' b) := by
  unfold T
  rw [ng_mul ha ha', map_eq (f := fun p => sg p (a * a') b) (g := fun p => xor (sg p a b) (sg p a' b)) fun p hp => sg_mul hp ha ha', xo_xor]
  cases ng a <;> cases ng a' <;> cases ng b <;> cases xo (primesN.map fun p => sg p a b) <;> cases xo (primesN.map fun p => sg p a' b) <;> rfl
def gens : List Int := [-1, 2, 3, 5, 7, 11, 13, 17, 19, 23, 29, 31, 37, 41, 43, 47, 53, 59, 61, 67, 71, 73, 79, 83, 89, 97]
def gi (p : Nat) (g : Int) : Nat := if g = p then 1 else 0
def gu (p : Nat) (g : Int) : Int := if g = p then 1 else g
theorem g_form {p : Nat} (hp : p ∈ primesN) {g : Int} (hg : g ∈ gens) : vI p g = gi p g ∧ un p g = gu p g := by
  have tab : ∀ p ∈ primesN, ∀ g ∈ gens, g = (p : Int) ^ gi p g * gu p g ∧ gu p g % (p : Int) ≠ 0 := by decide +kernel
  obtain ⟨h1, h2⟩ := tab p hp g hg
  exact form_uniq (pr_mem hp).two h1 fun z => h2 (Int.emod_eq_zero_of_dvd z)
theorem T_tab : ∀ g ∈ gens, ∀ h ∈ gens, xor (ng g && ng h) (xo (primesN.map fun p => sgB p (gi p g) (gu p g) (gi p h) (gu p h))) = false := by decide +kernel
theorem T_gens {g h : Int} (hg : g ∈ gens) (hh : h ∈ gens) : T g h = false := by
  rw [← T_tab g hg h hh]
  unfold T
  rw [map_eq fun p hp => ?_]
  unfold sg
  rw [(g_form hp hg).1, (g_form hp hg).2, (g_form hp hh).1, (g_form hp hh).2]
inductive Sm : Int → Prop
  | one : Sm 1
  | mul {g a : Int} (hg : g ∈ gens) (h : Sm a) : Sm (g * a)
theorem gens_ne {g : Int} (hg : g ∈ gens) : g ≠ 0 := by
  have : ∀ g ∈ gens, g ≠ 0 := by decide
  exact this g hg
theorem Sm.ne {a : Int} (h : Sm a) : a ≠ 0 := by
  induction h with
  | one => decide
  | mul hg _ ih => exact Int.mul_ne_zero (gens_ne hg) ih
theorem T_one (b : Int) : T 1 b = false := by
  have := T_mul (a := 1) (a' := 1) (b := b) (by decide) (by decide)
  rw [Int.one_mul] at this
  cases h : T 1 b with
  | false => rfl
  | true => rw [h] at this; exact this
theorem T_zero {a b : Int} (ha : Sm a) (hb : Sm b) : T a b = false := by
  induction ha with
  | one => exact T_one b
  | mul hg h ih =>
    rename_i g a
    rw [T_mul (gens_ne hg) h.ne, ih]
    have hgb : T g b = false := by
      clear ih h
      induction hb with
      | one => rw [T_symm]; exact T_one g
      | mul hh h2 ih2 =>
        rw [T_symm, T_mul (gens_ne hh) h2.ne, T_symm _ g, T_gens hg hh, T_symm _ g, ih2]
        rfl
    rw [hgb]
    rfl
end K9
namespace K9
open K7
def sqU (p : Nat) (n : Int) : Bool := if p = 2 then decide (n % 8 = 1) else !nr p n
theorem odd_exp (p i j : Nat) (u w : Int) (hp : p ≠ 2) : (((i * j * ((p - 1) / 2) + (if nr p u = true then j else 0)) + (if nr p w = true then i else 0)) % 2 : Nat) = if sgB p i u j w = true then 1 else 0 := by
  unfold sgB od
  rw [if_neg hp]
  generalize (p - 1) / 2 = h
  have e1 : (i * j * h) % 2 = ((i % 2) * (j % 2) % 2) * (h % 2) % 2 := by rw [Nat.mul_mod, Nat.mul_mod i j]
  cases nr p u <;> cases nr p w <;> rcases Nat.mod_two_eq_zero_or_one i with a | a <;> rcases Nat.mod_two_eq_zero_or_one j with b | b <;> rcases Nat.mod_two_eq_zero_or_one h with c | c <;>
    rw [a, b, c] at e1 <;> rw [a, b, c] <;> simp <;> omega
theorem half_par {u : Int} (hu : ¬ (2 : Int) ∣ u) : ((u - 1) / 2) % 2 = if e4 u = true then 1 else 0 := by
  unfold e4
  split
  · rename_i h
    have := of_decide_eq_true h
    omega
  · rename_i h
    have : ¬ u % 4 = 3 := fun z => h (decide_eq_true z)
    omega
theorem sq_par {u : Int} (hu : ¬ (2 : Int) ∣ u) : ((u * u - 1) / 8) % 2 = if e8 u = true then 1 else 0 := by
  obtain ⟨k, r, e, hr⟩ : ∃ k r : Int, u = 8 * k + r ∧ (r = 1 ∨ r = 3 ∨ r = 5 ∨ r = 7) := ⟨u / 8, u % 8, by omega, odd8 hu⟩
  have h8 : u % 8 = r := by omega
  have e2 : u * u - 1 = 8 * (2 * (4 * (k * k) + k * r)) + (r * r - 1) := by
    rw [e]
    have : (8 * k + r) * (8 * k + r) = 64 * (k * k) + 16 * (k * r) + r * r := by
      rw [Int.add_mul, Int.mul_add, Int.mul_add]
      have a1 : 8 * k * (8 * k) = 64 * (k * k) := by rw [Int.mul_assoc, Int.mul_left_comm k, ← Int.mul_assoc]; omega
      have a2 : 8 * k * r = 8 * (k * r) := Int.mul_assoc _ _ _
      have a3 : r * (8 * k) = 8 * (k * r) := by rw [Int.mul_left_comm, Int.mul_comm r k]
      omega
    omega
  generalize 4 * (k * k) + k * r = t at e2
  unfold e8
  rw [e2, h8]
  rcases hr with rfl | rfl | rfl | rfl
  · show (8 * (2 * t) + 0) / 8 % 2 = 0; omega
  · show (8 * (2 * t) + 8) / 8 % 2 = 1; omega
  · show (8 * (2 * t) + 24) / 8 % 2 = 1; omega
  · show (8 * (2 * t) + 48) / 8 % 2 = 0; omega
theorem mul_par (a b : Int) : (a * b) % 2 = (a % 2) * (b % 2) := by
  rw [Int.mul_emod]
  have hh : ∀ z : Int, z % 2 = 0 ∨ z % 2 = 1 := fun z => by omega
  rcases hh a with x | x <;> rcases hh b with y | y <;> rw [x, y] <;> decide
theorem even_exp (i j : Nat) {u w : Int} (hu : ¬ (2 : Int) ∣ u) (hw : ¬ (2 : Int) ∣ w) :
    ((u - 1) / 2 * ((w - 1) / 2) + (i : Int) * ((w * w - 1) / 8) + (j : Int) * ((u * u - 1) / 8)) % 2 = if sgB 2 i u j w = true then 1 else 0 := by
  have h1 := mul_par ((u - 1) / 2) ((w - 1) / 2)
  have h2 := mul_par i ((w * w - 1) / 8)
  have h3 := mul_par j ((u * u - 1) / 8)
  rw [half_par hu, half_par hw] at h1
  rw [sq_par hw] at h2
  rw [sq_par hu] at h3
  have ei : (i : Int) % 2 = if od i = true then 1 else 0 := by
    unfold od
    rcases Nat.mod_two_eq_zero_or_one i with a | a <;> rw [a] <;> simp <;> omega
  have ej : (j : Int) % 2 = if od j = true then 1 else 0 := by
    unfold od
    rcases Nat.mod_two_eq_zero_or_one j with a | a <;> rw [a] <;> simp <;> omega
  rw [ei] at h2
  rw [ej] at h3
  generalize (u - 1) / 2 * ((w - 1) / 2) = A at *
  generalize (i : Int) * ((w * w - 1) / 8) = B at *
  generalize (j : Int) * ((u * u - 1) / 8) = C at *
  unfold sgB
  rw [if_pos rfl]
  clear ei ej
  generalize e4 u = x1 at *
  generalize e4 w = x2 at *
  generalize od i = x3 at *
  generalize od j = x4 at *
  generalize e8 u = x5 at *
  generalize e8 w = x6 at *
  cases x1 <;> cases x2 <;> cases x3 <;> cases x4 <;> cases x5 <;> cases x6 <;> simp at h1 h2 h3 ⊢ <;> omega
def sqs : List (Nat × Nat) := [(0, 0), (4, 0), (1, 1), (9, 1)]
def wlk (a b : Int) : Bool := sqs.any fun x => sqs.any fun y => sqs.any fun z => decide (x.2 + y.2 + z.2 > 0) && decide ((a * x.1 + b * y.1 - z.1) % 16 = 0)
theorem wlk_mod (a b : Int) : wlk a b = wlk (a % 16) (b % 16) := by
  unfold wlk
  congr 1
  funext x
  congr 1
  funext y
  congr 1
  funext z
  congr 2
  apply propext
  have h1 : (a * (x.1 : Int) + b * y.1 - z.1) % 16 = ((a % 16) * (x.1 : Int) + (b % 16) * y.1 - z.1) % 16 := by
    have a1 := Int.mul_emod a x.1 16
    have a2 := Int.mul_emod (a % 16) x.1 16
    rw [Int.emod_emod_of_dvd _ (Int.dvd_refl _)] at a2
    have b1 := Int.mul_emod b y.1 16
    have b2 := Int.mul_emod (b % 16) y.1 16
    rw [Int.emod_emod_of_dvd _ (Int.dvd_refl _)] at b2
    generalize a * (x.1 : Int) = A at *
    generalize b * (y.1 : Int) = B at *
    generalize (a % 16) * (x.1 : Int) = A' at *
    generalize (b % 16) * (y.1 : Int) = B' at *
    omega
  rw [h1]
def r2i (r : Int) : Nat := if r % 2 = 0 then 1 else 0
def r2u (r : Int) : Int := if r % 2 = 0 then r / 2 else r
theorem wlk_tab : ∀ r : Fin 16, r.val % 4 ≠ 0 → ∀ s : Fin 16, s.val % 4 ≠ 0 → wlk (r.val : Int) (s.val : Int) = !sgB 2 (r2i r.val) (r2u r.val) (r2i s.val) (r2u s.val) := by decide +kernel
theorem e_mod8 {u v : Int} (h : u % 8 = v % 8) : e4 u = e4 v ∧ e8 u = e8 v := by
  rw [e4_8, e4_8]
  unfold e8
  rw [h]
  exact ⟨rfl, rfl⟩
theorem sgB_mod8 {i j i' j' : Nat} {u w u' w' : Int} (hi : od i = od i') (hj : od j = od j') (hu : u % 8 = u' % 8) (hw : w % 8 = w' % 8) : sgB 2 i u j w = sgB 2 i' u' j' w' := by
  unfold sgB
  rw [if_pos rfl, if_pos rfl, (e_mod8 hu).1, (e_mod8 hu).2, (e_mod8 hw).1, (e_mod8 hw).2, hi, hj]
theorem two_low {i : Nat} {u : Int} (hi : i < 2) (hu : ¬ (2 : Int) ∣ u) : ((2 : Int) ^ i * u) % 4 ≠ 0 ∧ od (r2i (((2 : Int) ^ i * u) % 16)) = od i ∧ r2u (((2 : Int) ^ i * u) % 16) % 8 = u % 8 := by
  have h : i = 0 ∨ i = 1 := by omega
  rcases h with rfl | rfl
  · rw [Int.pow_zero, Int.one_mul]
    unfold r2i r2u
    rw [if_neg (by omega), if_neg (by omega)]
    exact ⟨by omega, rfl, by omega⟩
  · rw [show (2 : Int) ^ 1 = 2 from rfl]
    unfold r2i r2u
    rw [if_pos (by omega), if_pos (by omega)]
    exact ⟨by omega, rfl, by omega⟩
theorem wlk_sg {i j : Nat} {u w : Int} (hi : i < 2) (hj : j < 2) (hu : ¬ (2 : Int) ∣ u) (hw : ¬ (2 : Int) ∣ w) : wlk ((2 : Int) ^ i * u) ((2 : Int) ^ j * w) = !sgB 2 i u j w := by
  obtain ⟨a1, a2, a3⟩ := two_low hi hu
  obtain ⟨b1, b2, b3⟩ := two_low hj hw
  rw [wlk_mod]
  generalize (2 : Int) ^ i * u = A at *
  generalize (2 : Int) ^ j * w = B at *
  obtain ⟨r, er⟩ : ∃ r : Fin 16, A % 16 = (r.val : Int) := ⟨⟨(A % 16).toNat, by omega⟩, by show A % 16 = ((A % 16).toNat : Int); omega⟩
  obtain ⟨s, es⟩ : ∃ s : Fin 16, B % 16 = (s.val : Int) := ⟨⟨(B % 16).toNat, by omega⟩, by show B % 16 = ((B % 16).toNat : Int); omega⟩
  rw [er] at a2 a3 ⊢
  rw [es] at b2 b3 ⊢
  rw [wlk_tab r (by omega) s (by omega), sgB_mod8 a2 b2 a3 b3]
def tst (p : Nat) (i j : Nat) (u w : Int) : Int := if i = 1 ∧ j = 1 then -u * w else if i = 1 then w else if j = 1 then u else 1
theorem nr_one {p : Nat} (hp : p ∈ oddP) : nr p 1 = false := by
  have : ∀ p ∈ oddP, nr p 1 = false := by decide +kernel
  exact this p hp
theorem nr_neg {p : Nat} (hp : p ∈ oddP) : nr p (-1) = od ((p - 1) / 2) := by
  have : ∀ p ∈ oddP, nr p (-1) = od ((p - 1) / 2) := by decide +kernel
  exact this p hp
theorem one_nd {p : Nat} (hp : 2 ≤ p) : ¬ (p : Int) ∣ 1 := fun z => by
  have := Int.le_of_dvd (by decide) z
  omega
theorem tst_sg {p i j : Nat} {u w : Int} (hp : p ∈ oddP) (hi : i < 2) (hj : j < 2) (hu : ¬ (p : Int) ∣ u) (hw : ¬ (p : Int) ∣ w) : nr p (tst p i j u w) = sgB p i u j w := by
  obtain ⟨_, h2, h3, _, _⟩ := odd_mem hp
  unfold sgB tst
  rw [if_neg h2]
  have h : (i = 0 ∨ i = 1) ∧ (j = 0 ∨ j = 1) := ⟨by omega, by omega⟩
  rcases h with ⟨rfl | rfl, rfl | rfl⟩
  · show nr p 1 = _
    rw [nr_one hp]
    cases nr p u <;> cases nr p w <;> rfl
  · show nr p u = _
    cases nr p u <;> cases nr p w <;> rfl
  · show nr p w = _
    cases nr p u <;> cases nr p w <;> rfl
  · show nr p (-u * w) = _
    have hn : ¬ (p : Int) ∣ -u := fun z => hu (Int.dvd_neg.mp z)
    have e : -u = -1 * u := by omega
    rw [nr_mul hp hn hw, e, nr_mul hp (fun z => one_nd (by omega) (Int.dvd_neg.mp z)) hu, nr_neg hp]
    cases nr p u <;> cases nr p w <;> cases od ((p - 1) / 2) <;> rfl
theorem sq_list {p : Nat} (hp : p ∈ oddP) {u : Int} (hu : ¬ (p : Int) ∣ u) : (u % p) ∈ (List.range (p - 1)).map (fun k : Nat => (((k : Int) + 1) * ((k : Int) + 1)) % p) ↔ nr p u = false := by
  have tab : ∀ p ∈ oddP, ∀ r, r < p → r ≠ 0 → ((List.range (p - 1)).any (fun k => (k + 1) * (k + 1) % p == r)) = (pm p r == 1) := by decide +kernel
  obtain ⟨_, _, h3, _, _⟩ := odd_mem hp
  have h0 : 0 < p := by omega
  have t := tab p hp _ (rs_lt h0 u) (rs_zero h0 hu)
  have hc := rs_cast h0 u
  rw [List.mem_map]
  unfold nr
  constructor
  · rintro ⟨k, hk, e⟩
    have : ((List.range (p - 1)).any (fun k => (k + 1) * (k + 1) % p == rs p u)) = true := by
      rw [List.any_eq_true]
      refine ⟨k, hk, ?_⟩
      rw [beq_iff_eq]
      have e2 : (((k + 1) * (k + 1) % p : Nat) : Int) = (rs p u : Int) := by
        rw [Int.natCast_emod, Int.natCast_mul, hc, ← e]
        rfl
      exact Int.ofNat.inj e2
    rw [t] at this
    rw [this]
    rfl
  · intro h
    have h1 : (pm p (rs p u) == 1) = true := by
      cases z : (pm p (rs p u) == 1) with
      | true => rfl
      | false => rw [z] at h; cases h
    rw [← t, List.any_eq_true] at h1
    obtain ⟨k, hk, e⟩ := h1
    refine ⟨k, hk, ?_⟩
    rw [beq_iff_eq] at e
    rw [← hc, ← e, Int.natCast_emod, Int.natCast_mul]
    rfl
theorem sg_neg {p : Nat} (hp : p ∈ primesN) {a : Int} (ha : a ≠ 0) : sg p a (-a) = false := by
  have h := pr_mem hp
  obtain ⟨e, n⟩ := form h.two ha
  have n2 : ¬ (p : Int) ∣ -un p a := fun z => n (Int.dvd_neg.mp z)
  have f := form_uniq h.two (a := -a) (u := -un p a) (i := vI p a) (by rw [Int.mul_neg, ← e]) n2
  unfold sg
  rw [f.1, f.2]
  unfold sgB
  rcases mem_cases hp with rfl | ho
  · rw [if_pos rfl]
    have n' : ¬ (2 : Int) ∣ un 2 a := n
    have h1 : (e4 (un 2 a) && e4 (-un 2 a)) = false := by
      unfold e4
      rcases odd8 n' with x | x | x | x <;> simp <;> omega
    have h2 : e8 (-un 2 a) = e8 (un 2 a) := by
      unfold e8
      rcases odd8 n' with x | x | x | x
      all_goals
        have y : (-un 2 a) % 8 = 8 - un 2 a % 8 := by omega
        rw [y, x]
        decide
    rw [h1, h2]
    cases od (vI 2 a) <;> cases e8 (un 2 a) <;> rfl
  · have e1 : -un p a = -1 * un p a := by omega
    rw [if_neg (odd_mem ho).2.1, e1, nr_mul ho (fun z => one_nd h.two (Int.dvd_neg.mp z)) n, nr_neg ho]
    cases od (vI p a) <;> cases od ((p - 1) / 2) <;> cases nr p (un p a) <;> rfl
theorem sg_square {p : Nat} (hp : p ∈ primesN) {a b q : Int} (ha : a ≠ 0) (hq : q ≠ 0) : sg p (a * (q * q)) b = sg p a b := by
  rw [sg_mul hp ha (Int.mul_ne_zero hq hq), sg_mul hp hq hq]
  cases sg p a b <;> cases sg p q b <;> rfl
theorem sg_off {p : Nat} (hp : p ∈ primesN) (h2 : p ≠ 2) {a b : Int} (h : ¬ (p : Int) ∣ a * b) : sg p a b = false := by
  have ho := (mem_cases hp).resolve_left h2
  exact sg_units ho (fun z => h (Int.dvd_mul_of_dvd_left z)) (fun z => h (Int.dvd_mul_of_dvd_right z))
end K9
namespace K9
open K7
theorem p_pos {p : Nat} (hp : p ∈ primesN) : (0 : Int) < p := by
  have := (pr_mem hp).two
  omega
theorem pw_pos {p : Nat} (hp : p ∈ primesN) (k : Nat) : (0 : Int) < (p : Int) ^ k := Int.pow_pos (p_pos hp)
theorem pw_dvd {p : Nat} {i k : Nat} (h : i ≤ k) : (p : Int) ^ i ∣ (p : Int) ^ k := ⟨(p : Int) ^ (k - i), by rw [← Int.pow_add]; congr 1; omega⟩
theorem le_vI {p : Nat} (hp : 2 ≤ p) {a : Int} (ha : a ≠ 0) {k : Nat} (h : (p : Int) ^ k ∣ a) : k ≤ vI p a := by
  refine pow_le_vN hp (by omega) ?_
  have h5 : ((p ^ k : Nat) : Int) ∣ (a.natAbs : Int) := by
    rw [Int.natCast_pow]
    exact Int.dvd_natAbs.mpr h
  exact Int.natCast_dvd_natCast.mp h5
theorem vI_dvd {p : Nat} (hp : 2 ≤ p) {a : Int} (ha : a ≠ 0) {k : Nat} (h : k ≤ vI p a) : (p : Int) ^ k ∣ a := by
  have e := (form hp ha).1
  rw [e]
  exact Int.dvd_mul_of_dvd_left (pw_dvd h)
theorem sqU_nd {p : Nat} (hp : p ∈ primesN) {n : Int} (h : sqU p n = true) : ¬ (p : Int) ∣ n := by
  intro z
  unfold sqU at h
  rcases mem_cases hp with rfl | ho
  · rw [if_pos rfl] at h
    have h1 := of_decide_eq_true h
    have z' : (2 : Int) ∣ n := z
    omega
  · rw [if_neg (odd_mem ho).2.1] at h
    have e : rs p n = 0 := by
      unfold rs
      rw [Int.emod_eq_zero_of_dvd z]
      rfl
    have t : ∀ p ∈ oddP, (pm p 0 == 1) = false := by decide
    unfold nr at h
    rw [e, t p ho] at h
    cases h
def s2 (n : Int) : Nat → Int
  | 0 => 1
  | k + 1 => if (s2 n k * s2 n k - n) % 2 ^ (k + 4) ≠ 0 then s2 n k + 2 ^ (k + 2) else s2 n k
theorem s2_root {n : Int} (h : n % 8 = 1) : ∀ k, (2 : Int) ^ (k + 3) ∣ s2 n k * s2 n k - n ∧ s2 n k % 2 = 1
  | 0 => ⟨by show (8 : Int) ∣ 1 * 1 - n; omega, rfl⟩
  | k + 1 => by
    obtain ⟨⟨c, hc⟩, ho⟩ := s2_root h k
    unfold s2
    split
    · rename_i hn
      generalize hr : s2 n k = r at *
      have e4 : (2 : Int) ^ (k + 4) = 2 ^ (k + 2) * 4 := by rw [Int.pow_succ, Int.pow_succ]; omega
      have e3 : (2 : Int) ^ (k + 3) = 2 ^ (k + 2) * 2 := by rw [Int.pow_succ]
      have hodd : c % 2 = 1 := by
        rcases (show c % 2 = 0 ∨ c % 2 = 1 by omega) with z | z
        · exfalso
          apply hn
          have : r * r - n = 2 ^ (k + 4) * (c / 2) := by
            rw [hc, e3, e4]
            have : c = 2 * (c / 2) := by omega
            generalize c / 2 = d at *
            subst this
            rw [Int.mul_assoc, Int.mul_assoc, ← Int.mul_assoc 2 2 d, show (2 * 2 : Int) = 4 from rfl]
          rw [this]
          exact Int.mul_emod_right _ _
        · exact z
      have hk : (2 : Int) ^ (k + 2) = 2 ^ k * 4 := by rw [Int.pow_succ, Int.pow_succ]; omega
      refine ⟨?_, by rw [hk]; omega⟩
      have e : (r + 2 ^ (k + 2)) * (r + 2 ^ (k + 2)) - n = 2 ^ (k + 2) * (2 * c + 2 * r + 2 ^ (k + 2)) := by
        rw [Int.mul_add, Int.add_mul, Int.add_mul, Int.mul_add, Int.mul_add]
        rw [e3] at hc
        have a1 : r * 2 ^ (k + 2) = 2 ^ (k + 2) * r := Int.mul_comm _ _
        have a2 : (2 : Int) ^ (k + 2) * (2 * r) = 2 * (2 ^ (k + 2) * r) := Int.mul_left_comm _ _ _
        have a3 : (2 : Int) ^ (k + 2) * (2 * c) = 2 ^ (k + 2) * 2 * c := (Int.mul_assoc _ _ _).symm
        omega
      have e5 : (2 : Int) ^ (k + 1 + 3) = 2 ^ (k + 2) * 4 := e4
      rw [e, e5]
      obtain ⟨d, hd⟩ : ∃ d, 2 * c + 2 * r + 2 ^ (k + 2) = 4 * d := by
        rw [hk]
        exact ⟨(c + r) / 2 + 2 ^ k, by omega⟩
      rw [hd, ← Int.mul_assoc]
      exact Int.dvd_mul_right _ _
    · rename_i hn
      exact ⟨Int.dvd_of_emod_eq_zero (Decidable.of_not_not hn), ho⟩
theorem s2_more (n : Int) (k : Nat) : ∀ d, (2 : Int) ^ (k + 2) ∣ s2 n (k + d) - s2 n k
  | 0 => by
    show (2 : Int) ^ (k + 2) ∣ s2 n k - s2 n k
    rw [Int.sub_self]
    exact Int.dvd_zero _
  | d + 1 => by
    have ih := s2_more n k d
    have h2 : (2 : Int) ^ (k + 2) ∣ 2 ^ (k + d + 2) := ⟨2 ^ d, by rw [← Int.pow_add]; congr 1; omega⟩
    rw [← Nat.add_assoc]
    show (2 : Int) ^ (k + 2) ∣ (if (s2 n (k + d) * s2 n (k + d) - n) % 2 ^ (k + d + 4) ≠ 0 then s2 n (k + d) + 2 ^ (k + d + 2) else s2 n (k + d)) - s2 n k
    split
    · have e : s2 n (k + d) + 2 ^ (k + d + 2) - s2 n k = (s2 n (k + d) - s2 n k) + 2 ^ (k + d + 2) := by omega
      rw [e]
      exact Int.dvd_add ih h2
    · exact ih
def Tie (p : Nat) (n : Int) (M : Nat) (R : Int) : Prop :=
  if p = 2 then R = s2 n (M - 2) % 2 ^ M else ∃ r0 : Nat, 1 ≤ r0 ∧ (p : Int) ∣ (r0 : Int) * r0 - n ∧ (∀ t : Nat, 1 ≤ t → t < r0 → ¬ (p : Int) ∣ (t : Int) * t - n) ∧ (p : Int) ∣ R - r0
structure IsRoot (p : Nat) (n : Int) (M : Nat) (R : Int) : Prop where
  lo : 0 ≤ R
  hi : R < (p : Int) ^ M
  sq : (p : Int) ^ M ∣ R * R - n
  tie : Tie p n M R
theorem pow_cop {p : Nat} (h : Pr p) {s : Int} (hs : ¬ (p : Int) ∣ s) : ∀ {M : Nat} {t : Int}, (p : Int) ^ M ∣ t * s → (p : Int) ^ M ∣ t := by
  intro M t hd
  have h1 : p ^ M ∣ t.natAbs * s.natAbs := by
    rw [← Int.natAbs_mul]
    have h5 : ((p ^ M : Nat) : Int) ∣ ((t * s).natAbs : Int) := by
      rw [Int.natCast_pow]
      exact Int.dvd_natAbs.mpr hd
    exact Int.natCast_dvd_natCast.mp h5
  have h2 : ¬ p ∣ s.natAbs := fun z => hs (Int.dvd_natAbs.mp (Int.natCast_dvd_natCast.mpr z))
  have h3 := Nat.Coprime.dvd_of_dvd_mul_right (h.copPow h2 M) h1
  have h6 : ((p ^ M : Nat) : Int) ∣ (t.natAbs : Int) := Int.natCast_dvd_natCast.mpr h3
  rw [Int.natCast_pow] at h6
  exact Int.dvd_natAbs.mp h6
theorem root_cut {p : Nat} (hp : p ∈ primesN) {n : Int} (hn : sqU p n = true) {M M' : Nat} {R R' : Int} (hM : 1 ≤ M) (hMM : M ≤ M') (h : IsRoot p n M R) (h' : IsRoot p n M' R') : R' % (p : Int) ^ M = R := by
  have key : (p : Int) ^ M ∣ R' - R := by
    rcases mem_cases hp with rfl | ho
    · have t1 : R = s2 n (M - 2) % 2 ^ M := h.tie
      have t2 : R' = s2 n (M' - 2) % 2 ^ M' := h'.tie
      have d1 : (2 : Int) ^ M ∣ s2 n (M' - 2) - s2 n (M - 2) := by
        rcases Nat.lt_or_ge M 2 with c | c
        · have eM : M = 1 := by omega
          rw [eM]
          have h8 : n % 8 = 1 := by
            unfold sqU at hn
            rw [if_pos rfl] at hn
            exact of_decide_eq_true hn
          have a1 := (s2_root h8 (M' - 2)).2
          have a2 := (s2_root h8 (1 - 2)).2
          show (2 : Int) ∣ _
          omega
        · have := s2_more n (M - 2) (M' - M)
          rw [show M - 2 + (M' - M) = M' - 2 by omega, show M - 2 + 2 = M by omega] at this
          exact this
      have d2 : (2 : Int) ^ M ∣ s2 n (M - 2) - R := by
        rw [t1]
        exact Int.dvd_self_sub_emod
      have d3 : (2 : Int) ^ M ∣ s2 n (M' - 2) - R' := by
        refine Int.dvd_trans (pw_dvd (p := 2) hMM) ?_
        rw [t2]
        exact Int.dvd_self_sub_emod
      have e : R' - R = (s2 n (M' - 2) - s2 n (M - 2)) + (s2 n (M - 2) - R) - (s2 n (M' - 2) - R') := by omega
      show (2 : Int) ^ M ∣ R' - R
      rw [e]
      exact Int.dvd_sub (Int.dvd_add d1 d2) d3
    · obtain ⟨_, h2, h3, _, _⟩ := odd_mem ho
      have t1 := h.tie
      have t2 := h'.tie
      unfold Tie at t1 t2
      rw [if_neg h2] at t1 t2
      obtain ⟨r, r1, r2, r3, r4⟩ := t1
      obtain ⟨q, q1, q2, q3, q4⟩ := t2
      have erq : r = q := by
        rcases Nat.lt_trichotomy r q with c | c | c
        · exact absurd r2 (q3 r r1 c)
        · exact c
        · exact absurd q2 (r3 q q1 c)
      subst erq
      have hnd := sqU_nd hp hn
      have hs : ¬ (p : Int) ∣ R' + R := by
        intro z
        have z1 : (p : Int) ∣ 2 * r := by
          have e : (2 * r : Int) = (R' + R) - (R' - r) - (R - r) := by omega
          rw [e]
          exact Int.dvd_sub (Int.dvd_sub z q4) r4
        have z2 : (p : Int) ∣ r := by
          refine Decidable.by_contra fun hr => ?_
          have h2' : ¬ (p : Int) ∣ 2 := fun z => by
            have := Int.le_of_dvd (by decide) z
            omega
          exact int_pr (pr_mem hp) h2' hr z1
        have z3 : (p : Int) ∣ n := by
          have e : n = (r : Int) * r - ((r : Int) * r - n) := by omega
          rw [e]
          exact Int.dvd_sub (Int.dvd_mul_of_dvd_left z2) r2
        exact hnd z3
      refine pow_cop (pr_mem hp) hs ?_
      have e : (R' - R) * (R' + R) = (R' * R' - n) - (R * R - n) := by
        rw [Int.sub_mul, Int.mul_add, Int.mul_add, Int.mul_comm R R']
        omega
      rw [e]
      exact Int.dvd_sub (Int.dvd_trans (pw_dvd hMM) h'.sq) h.sq
  have e := Int.emod_emod_of_dvd R' (Int.dvd_refl ((p : Int) ^ M))
  obtain ⟨c, hc⟩ := key
  have e2 : R' = R + (p : Int) ^ M * c := by omega
  rw [e2, Int.add_mul_emod_self_left]
  exact Int.emod_eq_of_lt h.lo h.hi
end K9
namespace K9
open K7
def prs (p : Nat) : List (Int × Int) := [(1, 0), (1, 2)] ++ (List.range (p + 1)).map fun k : Nat => ((k : Int), (1 : Int))
def qf (A B : Int) (xy : Int × Int) : Int := A * (xy.1 * xy.1) + B * (xy.2 * xy.2)
structure FirstP (p : Nat) (A B : Int) (xy : Int × Int) : Prop where
  ex : ∃ t : Nat, (prs p)[t]? = some xy ∧ ∀ s, s < t → ∀ z, (prs p)[s]? = some z → sqU p (qf A B z) = false
  sq : sqU p (qf A B xy) = true
theorem FirstP.uniq {p : Nat} {A B : Int} {x y : Int × Int} (h : FirstP p A B x) (k : FirstP p A B y) : x = y := by
  obtain ⟨t, t1, t2⟩ := h.ex
  obtain ⟨s, s1, s2⟩ := k.ex
  rcases Nat.lt_trichotomy t s with c | c | c
  · have := s2 t c x t1
    rw [h.sq] at this
    cases this
  · rw [c, s1] at t1
    exact (Option.some.inj t1).symm
  · have := t2 s c y s1
    rw [k.sq] at this
    cases this
theorem nr_res {p : Nat} {u v : Int} (h : rs p u = rs p v) : nr p u = nr p v := by
  unfold nr
  rw [h]
theorem rs_eq {p : Nat} {u v : Int} (h : u % (p : Int) = v % p) : rs p u = rs p v := by
  unfold rs
  rw [h]
theorem pair_tab : ∀ p ∈ oddP, ∀ r, r < p → pm p r = p - 1 → ∀ s, s < p → pm p s = p - 1 → ((List.range p).any fun k => pm p ((r * (k * k) + s) % p) == 1) = true := by decide +kernel
theorem two_tab : ∀ r : Fin 16, r.val % 4 ≠ 0 → ∀ s : Fin 16, s.val % 4 ≠ 0 → (r.val % 2 = 1 ∨ s.val % 2 = 1) → sgB 2 (r2i r.val) (r2u r.val) (r2i s.val) (r2u s.val) = false →
    ((prs 2).any fun xy => decide (((r.val : Int) * (xy.1 * xy.1) + (s.val : Int) * (xy.2 * xy.2)) % 8 = 1)) = true := by decide +kernel
theorem two_tab2 : ∀ u : Fin 8, u.val % 2 = 1 → ∀ w : Fin 8, w.val % 2 = 1 → sgB 2 1 u.val 1 w.val = false →
    ((prs 2).any fun xy => decide ((2 * (u.val : Int) * (xy.1 * xy.1) - ((u.val : Int) * w.val) * (xy.2 * xy.2)) % 8 = 1)) = true := by decide +kernel
theorem sqU_two {n : Int} (h : n % 8 = 1) : sqU 2 n = true := by
  unfold sqU
  rw [if_pos rfl]
  exact decide_eq_true h
theorem sqU_odd {p : Nat} (hp : p ∈ oddP) {n : Int} (h : nr p n = false) : sqU p n = true := by
  unfold sqU
  rw [if_neg (odd_mem hp).2.1, h]
  rfl
theorem pair_exA {p : Nat} (hp : p ∈ primesN) {i j : Nat} {u w : Int} (hi : i < 2) (hj : j < 2) (hu : ¬ (p : Int) ∣ u) (hw : ¬ (p : Int) ∣ w) (hij : i = 0 ∨ j = 0) (hs : sgB p i u j w = false) :
    ∃ xy ∈ prs p, sqU p (qf ((p : Int) ^ i * u) ((p : Int) ^ j * w) xy) = true := by
  rcases mem_cases hp with rfl | ho
  · obtain ⟨a1, a2, a3⟩ := two_low hi hu
    obtain ⟨b1, b2, b3⟩ := two_low hj hw
    have hodd : ((2 : Int) ^ i * u) % 2 = 1 ∨ ((2 : Int) ^ j * w) % 2 = 1 := by
      have hu' : ¬ (2 : Int) ∣ u := hu
      have hw' : ¬ (2 : Int) ∣ w := hw
      rcases hij with rfl | rfl
      · left; rw [Int.pow_zero]; omega
      · right; rw [Int.pow_zero]; omega
    show ∃ xy ∈ prs 2, sqU 2 (qf ((2 : Int) ^ i * u) ((2 : Int) ^ j * w) xy) = true
    generalize (2 : Int) ^ i * u = A at *
    generalize (2 : Int) ^ j * w = B at *
    obtain ⟨r, er⟩ : ∃ r : Fin 16, A % 16 = (r.val : Int) := ⟨⟨(A % 16).toNat, by omega⟩, by show A % 16 = ((A % 16).toNat : Int); omega⟩
    obtain ⟨s, es⟩ : ∃ s : Fin 16, B % 16 = (s.val : Int) := ⟨⟨(B % 16).toNat, by omega⟩, by show B % 16 = ((B % 16).toNat : Int); omega⟩
    rw [er] at a2 a3
    rw [es] at b2 b3
    have := two_tab r (by omega) s (by omega) (by omega) (by rw [← hs]; exact sgB_mod8 a2 b2 a3 b3)
    rw [List.any_eq_true] at this
    obtain ⟨xy, h1, h2⟩ := this
    have h3 := of_decide_eq_true h2
    refine ⟨xy, h1, sqU_two ?_⟩
    unfold qf
    generalize xy.1 * xy.1 = X at *
    generalize xy.2 * xy.2 = Y at *
    have c1 := Int.mul_emod A X 8
    have c2 := Int.mul_emod (r.val : Int) X 8
    have c3 := Int.mul_emod B Y 8
    have c4 := Int.mul_emod (s.val : Int) Y 8
    rw [show A % 8 = (r.val : Int) % 8 by omega, ← c2] at c1
    rw [show B % 8 = (s.val : Int) % 8 by omega, ← c4] at c3
    rw [Int.add_emod, c1, c3, ← Int.add_emod]
    exact h3
  · obtain ⟨_, h2, h3, _, _⟩ := odd_mem ho
    have m10 : ((1, 0) : Int × Int) ∈ prs p := List.mem_cons_self
    have m01 : ((0, 1) : Int × Int) ∈ prs p := List.mem_append_right _ (List.mem_map.mpr ⟨0, List.mem_range.mpr (by omega), rfl⟩)
    have q10 : qf ((p : Int) ^ i * u) ((p : Int) ^ j * w) (1, 0) = (p : Int) ^ i * u := by
      show (p : Int) ^ i * u * (1 * 1) + (p : Int) ^ j * w * (0 * 0) = _
      rw [Int.mul_one, Int.mul_one, Int.mul_zero, Int.mul_zero, Int.add_zero]
    have q01 : qf ((p : Int) ^ i * u) ((p : Int) ^ j * w) (0, 1) = (p : Int) ^ j * w := by
      show (p : Int) ^ i * u * (0 * 0) + (p : Int) ^ j * w * (1 * 1) = _
      rw [Int.mul_one, Int.mul_one, Int.mul_zero, Int.mul_zero, Int.zero_add]
    unfold sgB at hs
    rw [if_neg h2] at hs
    have hcase : (i = 0 ∨ i = 1) ∧ (j = 0 ∨ j = 1) := ⟨by omega, by omega⟩
    rcases hcase with ⟨rfl | rfl, rfl | rfl⟩
    · cases hu0 : nr p u with
      | false => exact ⟨_, m10, sqU_odd ho (by rw [q10, Int.pow_zero, Int.one_mul]; exact hu0)⟩
      | true =>
        cases hw0 : nr p w with
        | false => exact ⟨_, m01, sqU_odd ho (by rw [q01, Int.pow_zero, Int.one_mul]; exact hw0)⟩
        | true =>
          have h0 : 0 < p := by omega
          have notone : ∀ v : Int, ¬ (p : Int) ∣ v → nr p v = true → pm p (rs p v) = p - 1 := fun v hv h => by
            rcases pm_tab p ho _ (rs_lt h0 v) (rs_zero h0 hv) with z | z
            · unfold nr at h
              rw [z] at h
              cases h
            · exact z
          have := pair_tab p ho _ (rs_lt h0 u) (notone u hu hu0) _ (rs_lt h0 w) (notone w hw hw0)
          rw [List.any_eq_true] at this
          obtain ⟨k, hk, e⟩ := this
          rw [beq_iff_eq] at e
          refine ⟨((k : Int), 1), List.mem_append_right _ (List.mem_map.mpr ⟨k, List.mem_range.mpr (by have := List.mem_range.mp hk; omega), rfl⟩), sqU_odd ho ?_⟩
          have hr : rs p (qf ((p : Int) ^ 0 * u) ((p : Int) ^ 0 * w) ((k : Int), 1)) = (rs p u * (k * k) + rs p w) % p := by
            unfold qf
            show rs p ((p : Int) ^ 0 * u * ((k : Int) * k) + (p : Int) ^ 0 * w * (1 * 1)) = _
            rw [Int.pow_zero, Int.one_mul, Int.one_mul, Int.mul_one, Int.mul_one]
            have h : ((rs p (u * ((k : Int) * k) + w) : Nat) : Int) = (((rs p u * (k * k) + rs p w) % p : Nat) : Int) := by
              rw [rs_cast h0, Int.natCast_emod, Int.natCast_add, Int.natCast_mul, rs_cast h0, rs_cast h0, Int.natCast_mul]
              have h1 : u = u % p + p * (u / p) := by rw [Int.emod_def]; omega
              have h2 : w = w % p + p * (w / p) := by rw [Int.emod_def]; omega
              have h3 : u * ((k : Int) * k) + w = (u % p * ((k : Int) * k) + w % p) + p * (u / p * ((k : Int) * k) + w / p) := by
                rw [Int.mul_add, ← Int.mul_assoc (p : Int)]
                have h4 : u * ((k : Int) * k) = u % p * ((k : Int) * k) + p * (u / p) * ((k : Int) * k) := by rw [← Int.add_mul, ← h1]
                omega
              rw [h3, Int.add_mul_emod_self_left]
            omega
          unfold nr
          rw [hr, e]
          rfl
    · refine ⟨_, m10, sqU_odd ho ?_⟩
      rw [q10, Int.pow_zero, Int.one_mul]
      generalize nr p u = x at *
      generalize nr p w = y at *
      cases x
      · rfl
      · cases y <;> cases hs
    · refine ⟨_, m01, sqU_odd ho ?_⟩
      rw [q01, Int.pow_zero, Int.one_mul]
      generalize nr p u = x at *
      generalize nr p w = y at *
      cases y
      · rfl
      · cases x <;> cases hs
    · omega
theorem pair_exB {p : Nat} (hp : p ∈ primesN) {u w : Int} (hu : ¬ (p : Int) ∣ u) (hw : ¬ (p : Int) ∣ w) (hs : sgB p 1 u 1 w = false) :
    ∃ xy ∈ prs p, sqU p (qf ((p : Int) * u) (-(u * w)) xy) = true := by
  rcases mem_cases hp with rfl | ho
  · have hu' : ¬ (2 : Int) ∣ u := hu
    have hw' : ¬ (2 : Int) ∣ w := hw
    obtain ⟨r, er⟩ : ∃ r : Fin 8, u % 8 = (r.val : Int) := ⟨⟨(u % 8).toNat, by omega⟩, by show u % 8 = ((u % 8).toNat : Int); omega⟩
    obtain ⟨s, es⟩ : ∃ s : Fin 8, w % 8 = (s.val : Int) := ⟨⟨(w % 8).toNat, by omega⟩, by show w % 8 = ((w % 8).toNat : Int); omega⟩
    have := two_tab2 r (by omega) s (by omega) (by rw [← hs]; exact sgB_mod8 rfl rfl (by omega) (by omega))
    rw [List.any_eq_true] at this
    obtain ⟨xy, h1, h2⟩ := this
    have h3 := of_decide_eq_true h2
    refine ⟨xy, h1, sqU_two ?_⟩
    unfold qf
    show ((2 : Int) * u * _ + -(u * w) * _) % 8 = 1
    generalize xy.1 * xy.1 = X at *
    generalize xy.2 * xy.2 = Y at *
    have d1 : (8 : Int) ∣ u - r.val := ⟨u / 8, by omega⟩
    have d2 : (8 : Int) ∣ w - s.val := ⟨w / 8, by omega⟩
    obtain ⟨c1, e1⟩ := d1
    obtain ⟨c2, e2⟩ := d2
    have e3 : u = r.val + 8 * c1 := by omega
    have e4 : w = s.val + 8 * c2 := by omega
    have e5 : (2 : Int) * u * X + -(u * w) * Y = (2 * (r.val : Int) * X - ((r.val : Int) * s.val) * Y) + 8 * (2 * c1 * X - (c1 * s.val + r.val * c2 + 8 * (c1 * c2)) * Y) := by
      rw [e3, e4]
      simp only [Int.add_mul, Int.mul_add, Int.sub_mul, Int.mul_sub, Int.neg_mul, Int.mul_assoc, Int.mul_left_comm _ (8 : Int)]
      omega
    rw [e5, Int.add_mul_emod_self_left]
    exact h3
  · obtain ⟨_, h2, h3, _, _⟩ := odd_mem ho
    refine ⟨(0, 1), List.mem_append_right _ (List.mem_map.mpr ⟨0, List.mem_range.mpr (by omega), rfl⟩), sqU_odd ho ?_⟩
    have e : qf ((p : Int) * u) (-(u * w)) (0, 1) = tst p 1 1 u w := by
      show (p : Int) * u * (0 * 0) + -(u * w) * (1 * 1) = -u * w
      rw [Int.mul_zero, Int.mul_zero, Int.zero_add, Int.mul_one, Int.mul_one, Int.neg_mul]
    rw [e, tst_sg ho (by decide) (by decide) hu hw]
    exact hs
theorem first_ex {p : Nat} {A B : Int} (h : ∃ xy ∈ prs p, sqU p (qf A B xy) = true) : ∃ xy, FirstP p A B xy := by
  have gen : ∀ (l : List (Int × Int)), (∃ xy ∈ l, sqU p (qf A B xy) = true) → ∃ (t : Nat) (xy : Int × Int), l[t]? = some xy ∧ sqU p (qf A B xy) = true ∧ ∀ s, s < t → ∀ z, l[s]? = some z → sqU p (qf A B z) = false := by
    intro l
    induction l with
    | nil => rintro ⟨_, h, _⟩; cases h
    | cons a l ih =>
      rintro ⟨xy, hm, hq⟩
      cases ha : sqU p (qf A B a) with
      | true => exact ⟨0, a, rfl, ha, fun s hs => by omega⟩
      | false =>
        obtain ⟨t, z, h1, h2, h3⟩ := ih ⟨xy, by
          rcases List.mem_cons.mp hm with rfl | hm
          · rw [hq] at ha; cases ha
          · exact hm, hq⟩
        refine ⟨t + 1, z, h1, h2, fun s hs y hy => ?_⟩
        cases s with
        | zero =>
          have : a = y := Option.some.inj hy
          rw [← this]
          exact ha
        | succ s => exact h3 s (by omega) y hy
  obtain ⟨t, xy, h1, h2, h3⟩ := gen _ h
  exact ⟨xy, ⟨t, h1, h3⟩, h2⟩
end K9
namespace K9
open K7
inductive FP (p : Nat) (a b : Int) (M : Nat) : Int → Int → Int → Prop
  | A {x y z : Int} (h : ¬ (p : Int) ∣ a ∨ ¬ (p : Int) ∣ b) (f : FirstP p a b (x, y)) (r : IsRoot p (qf a b (x, y)) M z) : FP p a b M x y z
  | B {x x0 y0 : Int} (ha : (p : Int) ∣ a) (hb : (p : Int) ∣ b) (f : FirstP p a (-(a / p * (b / p))) (x0, y0)) (r : IsRoot p (qf a (-(a / p * (b / p))) (x0, y0)) M x) : FP p a b M x (a / p * y0) (a * x0)
theorem root_unit {p : Nat} (hp : p ∈ primesN) {n : Int} (hn : sqU p n = true) {M : Nat} (hM : 1 ≤ M) {R : Int} (h : IsRoot p n M R) : ¬ (p : Int) ∣ R := by
  intro z
  have h1 : (p : Int) ∣ R * R - n := Int.dvd_trans ⟨(p : Int) ^ (M - 1), by rw [Int.mul_comm, ← Int.pow_succ]; congr 1; omega⟩ h.sq
  have e : n = R * R - (R * R - n) := by omega
  exact sqU_nd hp hn (by rw [e]; exact Int.dvd_sub (Int.dvd_mul_of_dvd_left z) h1)
theorem FP.eq {p : Nat} (hp : p ∈ primesN) {a b : Int} {M : Nat} {x y z : Int} (h : FP p a b M x y z) : (p : Int) ^ M ∣ a * (x * x) + b * (y * y) - z * z := by
  cases h with
  | A _ f r =>
    have := r.sq
    unfold qf at this
    have e : a * (x * x) + b * (y * y) - z * z = -(z * z - (a * (x * x) + b * (y * y))) := by omega
    rw [e]
    exact Int.dvd_neg.mpr this
  | B ha hb f r =>
    rename_i x0 y0
    have hs := r.sq
    unfold qf at hs
    have hp0 := p_pos hp
    obtain ⟨u, rfl⟩ := ha
    obtain ⟨w, rfl⟩ := hb
    rw [Int.mul_ediv_cancel_left _ (by omega), Int.mul_ediv_cancel_left _ (by omega)] at *
    have e : (p : Int) * u * (x * x) + p * w * (u * y0 * (u * y0)) - p * u * x0 * (p * u * x0) = p * u * (x * x - (p * u * ((x0, y0).1 * (x0, y0).1) + -(u * w) * ((x0, y0).2 * (x0, y0).2))) := by
      show _ = p * u * (x * x - (p * u * (x0 * x0) + -(u * w) * (y0 * y0)))
      have e1 : (p : Int) * w * (u * y0 * (u * y0)) = p * u * (u * w * (y0 * y0)) := by
        simp only [Int.mul_assoc, Int.mul_left_comm, Int.mul_comm]
      have e2 : (p : Int) * u * x0 * (p * u * x0) = p * u * (p * u * (x0 * x0)) := by
        simp only [Int.mul_assoc, Int.mul_left_comm, Int.mul_comm]
      rw [e1, e2, Int.neg_mul, Int.mul_sub, Int.mul_add, Int.mul_neg]
      omega
    rw [e]
    exact Int.dvd_mul_of_dvd_right hs
theorem FP.unit {p : Nat} (hp : p ∈ primesN) {a b : Int} {M : Nat} (hM : 1 ≤ M) {x y z : Int} (h : FP p a b M x y z) : ¬ (p : Int) ∣ x ∨ ¬ (p : Int) ∣ z := by
  cases h with
  | A _ f r => exact .inr (root_unit hp f.sq hM r)
  | B _ _ f r => exact .inl (root_unit hp f.sq hM r)
theorem cut_dvd {p : Nat} {M : Nat} {R R' : Int} (h : R' % (p : Int) ^ M = R) : (p : Int) ^ M ∣ R' - R := by
  rw [← h]
  exact Int.dvd_self_sub_emod
theorem FP.cut {p : Nat} (hp : p ∈ primesN) {a b : Int} {M M' : Nat} (hM : 1 ≤ M) (hMM : M ≤ M') {x y z x' y' z' : Int} (h : FP p a b M x y z) (h' : FP p a b M' x' y' z') :
    (p : Int) ^ M ∣ x' - x ∧ (p : Int) ^ M ∣ y' - y ∧ (p : Int) ^ M ∣ z' - z := by
  cases h with
  | A n f r =>
    cases h' with
    | A n' f' r' =>
      have e := f.uniq f'
      have e1 : x = x' := congrArg Prod.fst e
      have e2 : y = y' := congrArg Prod.snd e
      subst e1 e2
      rw [Int.sub_self, Int.sub_self]
      exact ⟨Int.dvd_zero _, Int.dvd_zero _, cut_dvd (root_cut hp f.sq hM hMM r r')⟩
    | B ha hb f' r' => exact absurd ha (n.resolve_right fun q => q hb)
  | B ha hb f r =>
    rename_i x0 y0
    generalize hy : a / p * y0 = yy at *
    generalize hz : a * x0 = zz at *
    cases h' with
    | A n' f' r' => exact absurd ha (n'.resolve_right fun q => q hb)
    | B ha' hb' f' r' =>
      rename_i x1 y1
      have e := f.uniq f'
      have e1 : x0 = x1 := congrArg Prod.fst e
      have e2 : y0 = y1 := congrArg Prod.snd e
      subst e1 e2
      rw [← hy, ← hz, Int.sub_self, Int.sub_self]
      exact ⟨cut_dvd (root_cut hp f.sq hM hMM r r'), Int.dvd_zero _, Int.dvd_zero _⟩
structure Out (p : Nat) (a b : Int) (i j s m : Nat) (o1 o2 o3 : Int) : Prop where
  ex : ∃ (x y z N1 N2 N3 : Int) (D : Nat), FP p (a / (p : Int) ^ (2 * i)) (b / (p : Int) ^ (2 * j)) (m + s) x y z ∧
    N1 = x * (p : Int) ^ (s - i) % (p : Int) ^ (m + s) ∧ N2 = y * (p : Int) ^ (s - j) % (p : Int) ^ (m + s) ∧ N3 = z * (p : Int) ^ s % (p : Int) ^ (m + s) ∧
    (∃ N, (N = N1 ∨ N = N2 ∨ N = N3) ∧ N ≠ 0 ∧ vI p N = D) ∧ (∀ N, (N = N1 ∨ N = N2 ∨ N = N3) → N ≠ 0 → D ≤ vI p N) ∧
    o1 = N1 / (p : Int) ^ D % (p : Int) ^ m ∧ o2 = N2 / (p : Int) ^ D % (p : Int) ^ m ∧ o3 = N3 / (p : Int) ^ D % (p : Int) ^ m
theorem unit_low {p : Nat} (hp : p ∈ primesN) {x : Int} {e W : Nat} (hx : ¬ (p : Int) ∣ x) (he : e < W) : x * (p : Int) ^ e % (p : Int) ^ W ≠ 0 ∧ vI p (x * (p : Int) ^ e % (p : Int) ^ W) = e := by
  have h2 := (pr_mem hp).two
  have e1 : x * (p : Int) ^ e % (p : Int) ^ W = (p : Int) ^ e * (x % (p : Int) ^ (W - e)) := by
    rw [show (p : Int) ^ W = (p : Int) ^ e * (p : Int) ^ (W - e) by rw [← Int.pow_add]; congr 1; omega, Int.mul_comm x, Int.mul_emod_mul_of_pos _ _ (pw_pos hp e)]
  have hn : ¬ (p : Int) ∣ x % (p : Int) ^ (W - e) := by
    intro z
    apply hx
    have e2 : x = x % (p : Int) ^ (W - e) + (p : Int) ^ (W - e) * (x / (p : Int) ^ (W - e)) := by rw [Int.emod_def]; omega
    rw [e2]
    refine Int.dvd_add z (Int.dvd_mul_of_dvd_left ?_)
    exact ⟨(p : Int) ^ (W - e - 1), by rw [Int.mul_comm, ← Int.pow_succ]; congr 1; omega⟩
  refine ⟨?_, ?_⟩
  · rw [e1]
    intro z
    rcases Int.mul_eq_zero.mp z with q | q
    · have := pw_pos hp e; omega
    · rw [q] at hn; exact hn (Int.dvd_zero _)
  · exact (form_uniq h2 e1 hn).1
theorem sq_shift {p : Nat} {A x k : Int} {i e s m : Nat} (hi : i + e = s) : ∃ t, (p : Int) ^ (2 * i) * A * ((x * (p : Int) ^ e + k * (p : Int) ^ (m + s)) * (x * (p : Int) ^ e + k * (p : Int) ^ (m + s))) = A * (x * x) * (p : Int) ^ (2 * s) + (p : Int) ^ (m + 2 * s) * t := by
  refine ⟨A * (x * k * (p : Int) ^ i + x * k * (p : Int) ^ i + k * k * (p : Int) ^ (m + 2 * i)), ?_⟩
  subst hi
  have q1 : (p : Int) ^ (2 * i) = (p : Int) ^ i * (p : Int) ^ i := by rw [← Int.pow_add]; congr 1; omega
  have q2 : (p : Int) ^ (2 * (i + e)) = (p : Int) ^ i * (p : Int) ^ i * ((p : Int) ^ e * (p : Int) ^ e) := by rw [← Int.pow_add, ← Int.pow_add, ← Int.pow_add]; congr 1; omega
  have q3 : (p : Int) ^ (m + (i + e)) = (p : Int) ^ m * ((p : Int) ^ i * (p : Int) ^ e) := by rw [← Int.pow_add, ← Int.pow_add]
  have q4 : (p : Int) ^ (m + 2 * (i + e)) = (p : Int) ^ m * ((p : Int) ^ i * (p : Int) ^ i * ((p : Int) ^ e * (p : Int) ^ e)) := by rw [← Int.pow_add, ← Int.pow_add, ← Int.pow_add, ← Int.pow_add]; congr 1; omega
  have q5 : (p : Int) ^ (m + 2 * i) = (p : Int) ^ m * ((p : Int) ^ i * (p : Int) ^ i) := by rw [← Int.pow_add, ← Int.pow_add]; congr 1; omega
  rw [q1, q2, q3, q4, q5]
  generalize (p : Int) ^ i = I
  generalize (p : Int) ^ e = E
  generalize (p : Int) ^ m = Z
  simp only [Int.mul_add, Int.add_mul, Int.two_mul, Int.mul_assoc, Int.mul_left_comm, Int.mul_comm]
  simp only [Int.add_assoc, Int.add_comm, Int.add_left_comm]
theorem Out.low {p : Nat} (hp : p ∈ primesN) {x z N1 N3 : Int} {i s m D : Nat} (hi : i ≤ s) (hm : 1 ≤ m) (hu : ¬ (p : Int) ∣ x ∨ ¬ (p : Int) ∣ z) (h1 : N1 = x * (p : Int) ^ (s - i) % (p : Int) ^ (m + s)) (h3 : N3 = z * (p : Int) ^ s % (p : Int) ^ (m + s)) (hD1 : N1 ≠ 0 → D ≤ vI p N1) (hD3 : N3 ≠ 0 → D ≤ vI p N3) : D ≤ s := by
  rcases hu with hu | hu
  · have := unit_low hp (e := s - i) (W := m + s) hu (by omega)
    rw [← h1] at this
    have := hD1 this.1
    omega
  · have := unit_low hp (e := s) (W := m + s) hu (by omega)
    rw [← h3] at this
    have := hD3 this.1
    omega
theorem div_of {p : Nat} (hp : p ∈ primesN) {N : Int} {D : Nat} (h : N ≠ 0 → D ≤ vI p N) : N = (p : Int) ^ D * (N / (p : Int) ^ D) := by
  by_cases z : N = 0
  · rw [z, Int.zero_ediv, Int.mul_zero]
  · exact (Int.mul_ediv_cancel' (vI_dvd (pr_mem hp).two z (h z))).symm
theorem Out.right {p : Nat} (hp : p ∈ primesN) {a b : Int} {i j s m : Nat} {o1 o2 o3 : Int} (hi : i ≤ s) (hj : j ≤ s) (hm : 1 ≤ m) (ha : (p : Int) ^ (2 * i) ∣ a) (hb : (p : Int) ^ (2 * j) ∣ b) (h : Out p a b i j s m o1 o2 o3) :
    (0 ≤ o1 ∧ o1 < (p : Int) ^ m) ∧ (0 ≤ o2 ∧ o2 < (p : Int) ^ m) ∧ (0 ≤ o3 ∧ o3 < (p : Int) ^ m) ∧ (p : Int) ^ m ∣ a * (o1 * o1) + b * (o2 * o2) - o3 * o3 ∧ (o1 % p ≠ 0 ∨ o2 % p ≠ 0 ∨ o3 % p ≠ 0) := by
  obtain ⟨x, y, z, N1, N2, N3, D, fp, n1, n2, n3, ⟨N, hN, hN0, hND⟩, hD, e1, e2, e3⟩ := h.ex
  have hpm := pw_pos hp m
  have bd : ∀ o q : Int, o = q % (p : Int) ^ m → 0 ≤ o ∧ o < (p : Int) ^ m := fun o q e => by
    rw [e]
    exact ⟨Int.emod_nonneg _ (by omega), Int.emod_lt_of_pos _ hpm⟩
  refine ⟨bd _ _ e1, bd _ _ e2, bd _ _ e3, ?_, ?_⟩
  · have hDs := Out.low hp hi hm (fp.unit hp (by omega)) n1 n3 (hD N1 (.inl rfl)) (hD N3 (.inr (.inr rfl)))
    have d1 := div_of hp (hD N1 (.inl rfl))
    have d2 := div_of hp (hD N2 (.inr (.inl rfl)))
    have d3 := div_of hp (hD N3 (.inr (.inr rfl)))
    generalize N1 / (p : Int) ^ D = q1 at *
    generalize N2 / (p : Int) ^ D = q2 at *
    generalize N3 / (p : Int) ^ D = q3 at *
    have feq := fp.eq hp
    obtain ⟨A, rfl⟩ := ha
    obtain ⟨B, rfl⟩ := hb
    rw [Int.mul_ediv_cancel_left _ (by have := pw_pos hp (2 * i); omega), Int.mul_ediv_cancel_left _ (by have := pw_pos hp (2 * j); omega)] at feq
    obtain ⟨k1, f1⟩ : ∃ k, N1 = x * (p : Int) ^ (s - i) + k * (p : Int) ^ (m + s) := ⟨-(x * (p : Int) ^ (s - i) / (p : Int) ^ (m + s)), by rw [n1, Int.emod_def, Int.neg_mul, Int.mul_comm ((p : Int) ^ (m + s))]; omega⟩
    obtain ⟨k2, f2⟩ : ∃ k, N2 = y * (p : Int) ^ (s - j) + k * (p : Int) ^ (m + s) := ⟨-(y * (p : Int) ^ (s - j) / (p : Int) ^ (m + s)), by rw [n2, Int.emod_def, Int.neg_mul, Int.mul_comm ((p : Int) ^ (m + s))]; omega⟩
    obtain ⟨k3, f3⟩ : ∃ k, N3 = z * (p : Int) ^ s + k * (p : Int) ^ (m + s) := ⟨-(z * (p : Int) ^ s / (p : Int) ^ (m + s)), by rw [n3, Int.emod_def, Int.neg_mul, Int.mul_comm ((p : Int) ^ (m + s))]; omega⟩
    obtain ⟨t1, g1⟩ := sq_shift (p := p) (A := A) (x := x) (k := k1) (i := i) (e := s - i) (s := s) (m := m) (by omega)
    obtain ⟨t2, g2⟩ := sq_shift (p := p) (A := B) (x := y) (k := k2) (i := j) (e := s - j) (s := s) (m := m) (by omega)
    obtain ⟨t3, g3⟩ := sq_shift (p := p) (A := 1) (x := z) (k := k3) (i := 0) (e := s) (s := s) (m := m) (by omega)
    rw [← f1] at g1
    rw [← f2] at g2
    rw [← f3] at g3
    rw [Nat.mul_zero, Int.pow_zero, Int.one_mul, Int.one_mul, Int.one_mul] at g3
    obtain ⟨c, hc⟩ := feq
    have tot : (p : Int) ^ (2 * i) * A * (N1 * N1) + (p : Int) ^ (2 * j) * B * (N2 * N2) - N3 * N3 = (p : Int) ^ (m + 2 * s) * ((p : Int) ^ s * c + t1 + t2 - t3) := by
      rw [g1, g2, g3]
      have h1 : A * (x * x) * (p : Int) ^ (2 * s) + B * (y * y) * (p : Int) ^ (2 * s) - z * z * (p : Int) ^ (2 * s) = (p : Int) ^ (m + 2 * s) * ((p : Int) ^ s * c) := by
        rw [← Int.add_mul, ← Int.sub_mul, hc, Int.mul_right_comm, ← Int.mul_assoc, ← Int.pow_add, ← Int.pow_add]
        congr 2
        omega
      rw [Int.mul_sub, Int.mul_add, Int.mul_add]
      omega
    have tot2 : (p : Int) ^ (2 * D) * ((p : Int) ^ (2 * i) * A * (q1 * q1) + (p : Int) ^ (2 * j) * B * (q2 * q2) - q3 * q3) = (p : Int) ^ (2 * D) * ((p : Int) ^ m * ((p : Int) ^ (2 * s - 2 * D) * ((p : Int) ^ s * c + t1 + t2 - t3))) := by
      have h2 : (p : Int) ^ (m + 2 * s) = (p : Int) ^ (2 * D) * ((p : Int) ^ m * (p : Int) ^ (2 * s - 2 * D)) := by
        rw [← Int.pow_add, ← Int.pow_add]
        congr 1
        omega
      rw [← Int.mul_assoc ((p : Int) ^ m), ← Int.mul_assoc ((p : Int) ^ (2 * D)), ← h2, ← tot, d1, d2, d3]
      have h3 : (p : Int) ^ (2 * D) = (p : Int) ^ D * (p : Int) ^ D := by rw [← Int.pow_add]; congr 1; omega
      rw [h3]
      generalize (p : Int) ^ D = P
      rw [Int.mul_sub, Int.mul_add]
      have m1 : ∀ K q : Int, P * P * (K * (q * q)) = K * (P * q * (P * q)) := fun K q => by simp only [Int.mul_assoc, Int.mul_left_comm, Int.mul_comm]
      rw [m1, m1]
      have m2 : P * P * (q3 * q3) = P * q3 * (P * q3) := by simp only [Int.mul_assoc, Int.mul_left_comm, Int.mul_comm]
      rw [m2]
    have tot3 := Int.eq_of_mul_eq_mul_left (by have := pw_pos hp (2 * D); omega) tot2
    have dv : (p : Int) ^ m ∣ (p : Int) ^ (2 * i) * A * (q1 * q1) + (p : Int) ^ (2 * j) * B * (q2 * q2) - q3 * q3 := ⟨_, tot3⟩
    have cg : ∀ K q o : Int, o = q % (p : Int) ^ m → (p : Int) ^ m ∣ K * (o * o) - K * (q * q) := fun K q o e => by
      have e4 : q = o + (p : Int) ^ m * (q / (p : Int) ^ m) := by rw [e, Int.emod_def]; omega
      rw [← Int.mul_sub]
      refine Int.dvd_mul_of_dvd_right ?_
      generalize q / (p : Int) ^ m = r at e4
      rw [e4]
      exact ⟨-(2 * o * r + (p : Int) ^ m * (r * r)), by
        rw [Int.mul_neg, Int.mul_add, Int.mul_add, Int.add_mul, Int.add_mul]
        have y1 : (p : Int) ^ m * r * o = o * ((p : Int) ^ m * r) := Int.mul_comm _ _
        have y2 : (p : Int) ^ m * (2 * o * r) = 2 * (o * ((p : Int) ^ m * r)) := by simp only [Int.mul_assoc, Int.mul_left_comm]
        have y3 : (p : Int) ^ m * r * ((p : Int) ^ m * r) = (p : Int) ^ m * ((p : Int) ^ m * (r * r)) := by simp only [Int.mul_assoc, Int.mul_left_comm]
        omega⟩
    have z1 := cg ((p : Int) ^ (2 * i) * A) q1 o1 e1
    have z2 := cg ((p : Int) ^ (2 * j) * B) q2 o2 e2
    have z3 := cg 1 q3 o3 e3
    rw [Int.one_mul, Int.one_mul] at z3
    have fin : (p : Int) ^ (2 * i) * A * (o1 * o1) + (p : Int) ^ (2 * j) * B * (o2 * o2) - o3 * o3 = ((p : Int) ^ (2 * i) * A * (q1 * q1) + (p : Int) ^ (2 * j) * B * (q2 * q2) - q3 * q3) +
        ((p : Int) ^ (2 * i) * A * (o1 * o1) - (p : Int) ^ (2 * i) * A * (q1 * q1)) + ((p : Int) ^ (2 * j) * B * (o2 * o2) - (p : Int) ^ (2 * j) * B * (q2 * q2)) - (o3 * o3 - q3 * q3) := by omega
    rw [fin]
    exact Int.dvd_sub (Int.dvd_add (Int.dvd_add dv z1) z2) z3
  · have hf := form (pr_mem hp).two hN0
    have hq : ¬ (p : Int) ∣ N / (p : Int) ^ D := by
      have : un p N = N / (p : Int) ^ D := by unfold un; rw [hND]
      rw [← this]
      exact hf.2
    have ho : ∀ o : Int, o = N / (p : Int) ^ D % (p : Int) ^ m → o % p ≠ 0 := fun o e z => by
      apply hq
      rw [e, Int.emod_emod_of_dvd _ (⟨(p : Int) ^ (m - 1), by rw [Int.mul_comm, ← Int.pow_succ]; congr 1; omega⟩ : (p : Int) ∣ (p : Int) ^ m)] at z
      exact Int.dvd_of_emod_eq_zero z
    rcases hN with rfl | rfl | rfl
    · exact .inl (ho _ e1)
    · exact .inr (.inl (ho _ e2))
    · exact .inr (.inr (ho _ e3))
theorem Out.far {p : Nat} (hp : p ∈ primesN) {a b : Int} {i j s m m' : Nat} {o1 o2 o3 q1 q2 q3 : Int} (hi : i ≤ s) (hm : 1 ≤ m) (hmm : m ≤ m') (h : Out p a b i j s m o1 o2 o3) (h' : Out p a b i j s m' q1 q2 q3) :
    q1 % (p : Int) ^ m = o1 ∧ q2 % (p : Int) ^ m = o2 ∧ q3 % (p : Int) ^ m = o3 := by
  obtain ⟨x, y, z, N1, N2, N3, D, fp, n1, n2, n3, ⟨N, hN, hN0, hND⟩, hD, e1, e2, e3⟩ := h.ex
  obtain ⟨x', y', z', N1', N2', N3', D', fp', n1', n2', n3', ⟨N', hN', hN0', hND'⟩, hD', e1', e2', e3'⟩ := h'.ex
  have h2 := (pr_mem hp).two
  have hDs := Out.low hp hi hm (fp.unit hp (by omega)) n1 n3 (hD N1 (.inl rfl)) (hD N3 (.inr (.inr rfl)))
  have hDs' := Out.low hp hi (by omega) (fp'.unit hp (by omega)) n1' n3' (hD' N1' (.inl rfl)) (hD' N3' (.inr (.inr rfl)))
  obtain ⟨c1, c2, c3⟩ := fp.cut hp (by omega) (by omega : m + s ≤ m' + s) fp'
  have near : ∀ (x x' : Int) (e : Nat) (n n' : Int), (p : Int) ^ (m + s) ∣ x' - x → n = x * (p : Int) ^ e % (p : Int) ^ (m + s) → n' = x' * (p : Int) ^ e % (p : Int) ^ (m' + s) → n' % (p : Int) ^ (m + s) = n := by
    intro x x' e n n' hd hn hn'
    rw [hn', Int.emod_emod_of_dvd _ (pw_dvd (by omega)), hn]
    obtain ⟨c, hc⟩ := hd
    have : x' = x + (p : Int) ^ (m + s) * c := by omega
    rw [this, Int.add_mul, Int.mul_assoc, Int.add_mul_emod_self_left]
  have r1 := near x x' (s - i) N1 N1' c1 n1 n1'
  have r2 := near y y' (s - j) N2 N2' c2 n2 n2'
  have r3 := near z z' s N3 N3' c3 n3 n3'
  have same : ∀ n n' : Int, n' % (p : Int) ^ (m + s) = n → n ≠ 0 → n' ≠ 0 ∧ vI p n' = vI p n := by
    intro n n' e hn
    have hlt : vI p n < m + s := by
      refine Decidable.by_contra fun c => ?_
      have hd := vI_dvd h2 hn (k := m + s) (by omega)
      have hb := Int.emod_lt_of_pos n' (pw_pos hp (m + s))
      have hb0 := Int.emod_nonneg n' (show (p : Int) ^ (m + s) ≠ 0 by have := pw_pos hp (m + s); omega)
      rw [e] at hb hb0
      have := Int.le_of_dvd (by omega) hd
      omega
    obtain ⟨f1, f2⟩ := form h2 hn
    have e4 : n' = (p : Int) ^ vI p n * (un p n + (p : Int) ^ (m + s - vI p n) * (n' / (p : Int) ^ (m + s))) := by
      rw [Int.mul_add, ← f1, ← Int.mul_assoc, ← Int.pow_add, show vI p n + (m + s - vI p n) = m + s by omega]
      rw [Int.emod_def] at e
      omega
    have hnd : ¬ (p : Int) ∣ un p n + (p : Int) ^ (m + s - vI p n) * (n' / (p : Int) ^ (m + s)) := by
      intro z
      apply f2
      have h6 : (p : Int) ∣ (p : Int) ^ (m + s - vI p n) * (n' / (p : Int) ^ (m + s)) := Int.dvd_mul_of_dvd_left ⟨(p : Int) ^ (m + s - vI p n - 1), by rw [Int.mul_comm, ← Int.pow_succ]; congr 1; omega⟩
      have h7 := Int.dvd_sub z h6
      rw [Int.add_sub_cancel] at h7
      exact h7
    refine ⟨fun z => ?_, (form_uniq h2 e4 hnd).1⟩
    rw [z, Int.zero_emod] at e
    exact hn e.symm
  have zero : ∀ n n' : Int, n' % (p : Int) ^ (m + s) = n → n = 0 → n' ≠ 0 → m + s ≤ vI p n' := fun n n' e hn hn' => le_vI h2 hn' (Int.dvd_of_emod_eq_zero (e.trans hn))
  have hDD : D = D' := by
    have l1 : D' ≤ D := by
      rcases hN with rfl | rfl | rfl
      · obtain ⟨u, v⟩ := same _ _ r1 hN0
        have := hD' N1' (.inl rfl) u
        omega
      · obtain ⟨u, v⟩ := same _ _ r2 hN0
        have := hD' N2' (.inr (.inl rfl)) u
        omega
      · obtain ⟨u, v⟩ := same _ _ r3 hN0
        have := hD' N3' (.inr (.inr rfl)) u
        omega
    have l2 : D ≤ D' := by
      have go : ∀ n n' : Int, n' % (p : Int) ^ (m + s) = n → n' ≠ 0 → vI p n' = D' → (n ≠ 0 → D ≤ vI p n) → D ≤ D' := fun n n' e hn' hv hd => by
        by_cases c : n = 0
        · have := zero n n' e c hn'
          omega
        · have := hd c
          have := (same n n' e c).2
          omega
      rcases hN' with rfl | rfl | rfl
      · exact go _ _ r1 hN0' hND' (hD N1 (.inl rfl))
      · exact go _ _ r2 hN0' hND' (hD N2 (.inr (.inl rfl)))
      · exact go _ _ r3 hN0' hND' (hD N3 (.inr (.inr rfl)))
    omega
  subst hDD
  have fin : ∀ n n' q o : Int, n' % (p : Int) ^ (m + s) = n → (n ≠ 0 → D ≤ vI p n) → q = n' / (p : Int) ^ D % (p : Int) ^ m' → o = n / (p : Int) ^ D % (p : Int) ^ m → q % (p : Int) ^ m = o := by
    intro n n' q o e hd eq eo
    rw [eq, Int.emod_emod_of_dvd _ (pw_dvd hmm), eo]
    have d1 := div_of hp hd
    have e4 : n' = (p : Int) ^ D * (n / (p : Int) ^ D + (p : Int) ^ m * ((p : Int) ^ (s - D) * (n' / (p : Int) ^ (m + s)))) := by
      rw [Int.mul_add, ← d1, ← Int.mul_assoc ((p : Int) ^ m), ← Int.pow_add, ← Int.mul_assoc, ← Int.pow_add, show D + (m + (s - D)) = m + s by omega]
      rw [Int.emod_def] at e
      omega
    have e5 : n' / (p : Int) ^ D = n / (p : Int) ^ D + (p : Int) ^ m * ((p : Int) ^ (s - D) * (n' / (p : Int) ^ (m + s))) := by
      rw [congrArg (· / (p : Int) ^ D) e4]
      exact Int.mul_ediv_cancel_left _ (by have := pw_pos hp D; omega)
    rw [e5, Int.add_mul_emod_self_left]
  exact ⟨fin _ _ _ _ r1 (hD N1 (.inl rfl)) e1' e1, fin _ _ _ _ r2 (hD N2 (.inr (.inl rfl))) e2' e2, fin _ _ _ _ r3 (hD N3 (.inr (.inr rfl))) e3' e3⟩
end K9
namespace K9
open K7
theorem exists_pr : ∀ n, 2 ≤ n → ∃ q, Pr q ∧ q ∣ n := fun n => by
  induction n using Nat.strongRecOn with
  | _ n ih =>
    intro h
    by_cases hp : ∀ d, d ∣ n → d = 1 ∨ d = n
    · exact ⟨n, ⟨h, hp⟩, Nat.dvd_refl n⟩
    · obtain ⟨d, hd⟩ := Classical.not_forall.mp hp
      obtain ⟨hd1, hd2⟩ := Classical.not_imp.mp hd
      have h1 : d ≠ 1 := fun z => hd2 (.inl z)
      have h2 : d ≠ n := fun z => hd2 (.inr z)
      have h3 := Nat.le_of_dvd (by omega) hd1
      have h4 : d ≠ 0 := fun z => by
        rw [z] at hd1
        have := Nat.eq_zero_of_zero_dvd hd1
        omega
      obtain ⟨q, hq, hqd⟩ := ih d (by omega) (by omega)
      exact ⟨q, hq, Nat.dvd_trans hqd hd1⟩
theorem Pr.eq {p q : Nat} (hp : Pr p) (hq : Pr q) (h : p ∣ q) : p = q := by
  rcases hq.irr p h with e | e
  · have := hp.two; omega
  · exact e
theorem Pr.dvd_pow {p q : Nat} (hp : Pr p) : ∀ {k : Nat}, p ∣ q ^ k → p ∣ q
  | 0, h => by
    rw [Nat.pow_zero] at h
    have := Nat.le_of_dvd (by decide) h
    have := hp.two
    omega
  | k + 1, h => by
    rw [Nat.pow_succ] at h
    rcases hp.mul h with x | x
    · exact Pr.dvd_pow hp x
    · exact x
def Low (d r : Nat) : Prop := ∀ q, Pr q → q ∣ r → d ≤ q
theorem low_pr {d r : Nat} (hd : 2 ≤ d) (h : Low d r) (hr : d ∣ r) : Pr d := by
  obtain ⟨q, hq, hqd⟩ := exists_pr d hd
  have h1 := h q hq (Nat.dvd_trans hqd hr)
  have h2 := Nat.le_of_dvd (by omega) hqd
  have : q = d := by omega
  exact this ▸ hq
theorem low_next {d r : Nat} (hd : 2 ≤ d) (hodd : d = 2 ∨ d % 2 = 1) (h : Low d r) (hr : ¬ d ∣ r) : Low (if d = 2 then d + 1 else d + 2) r := by
  intro q hq hqr
  have h1 := h q hq hqr
  have h2 : q ≠ d := fun z => hr (z ▸ hqr)
  split
  · omega
  · rcases Nat.lt_or_ge q (d + 2) with c | c
    · exfalso
      have he : q = d + 1 := by omega
      have h3 : 2 ∣ q := by omega
      rcases hq.irr 2 h3 with z | z <;> omega
    · exact c
theorem low_end {d r : Nat} (hr : 1 < r) (h : Low d r) (hd : r < d * d) : Pr r := by
  obtain ⟨q, hq, hqr⟩ := exists_pr r hr
  obtain ⟨s, rfl⟩ := hqr
  have hq2 := hq.two
  by_cases hs : s = 1
  · rw [hs, Nat.mul_one]; exact hq
  · have hs2 : 2 ≤ s := by
      rcases Nat.eq_zero_or_pos s with z | z
      · rw [z, Nat.mul_zero] at hr; omega
      · omega
    obtain ⟨t, ht, hts⟩ := exists_pr s hs2
    have h1 := h q hq (Nat.dvd_mul_right _ _)
    have h2 := h t ht (Nat.dvd_trans hts (Nat.dvd_mul_left _ _))
    have h3 := Nat.le_of_dvd (by omega) hts
    have : d * d ≤ q * s := Nat.mul_le_mul h1 (by omega)
    omega
theorem asc_eq : ∀ {l k : List Int}, l.Pairwise (· < ·) → k.Pairwise (· < ·) → (∀ x, x ∈ l ↔ x ∈ k) → l = k
  | [], [], _, _, _ => rfl
  | [], b :: k, _, _, h => by
    have := (h b).mpr List.mem_cons_self
    cases this
  | a :: l, [], _, _, h => by
    have := (h a).mp List.mem_cons_self
    cases this
  | a :: l, b :: k, hl, hk, h => by
    obtain ⟨ha, hl'⟩ := List.pairwise_cons.mp hl
    obtain ⟨hb, hk'⟩ := List.pairwise_cons.mp hk
    have hab : a = b := by
      have h1 := (h a).mp List.mem_cons_self
      have h2 := (h b).mpr List.mem_cons_self
      rcases List.mem_cons.mp h1 with e | e
      · exact e
      · rcases List.mem_cons.mp h2 with e' | e'
        · exact e'.symm
        · have := hb a e
          have := ha b e'
          omega
    subst hab
    rw [asc_eq hl' hk' fun x => ⟨fun hx => by
      rcases List.mem_cons.mp ((h x).mp (List.mem_cons_of_mem _ hx)) with e | e
      · have := ha x hx
        omega
      · exact e, fun hx => by
      rcases List.mem_cons.mp ((h x).mpr (List.mem_cons_of_mem _ hx)) with e | e
      · have := hb x hx
        omega
      · exact e⟩]
theorem asc_of : ∀ {l : List Int}, l.Pairwise (· ≤ ·) → l.Nodup → l.Pairwise (· < ·)
  | [], _, _ => .nil
  | a :: l, h, n => by
    obtain ⟨h1, h2⟩ := List.pairwise_cons.mp h
    obtain ⟨n1, n2⟩ := List.nodup_cons.mp n
    refine List.pairwise_cons.mpr ⟨fun x hx => ?_, asc_of h2 n2⟩
    have := h1 x hx
    rcases Int.lt_or_eq_of_le this with c | c
    · exact c
    · rw [c] at n1
      exact absurd hx n1
def Small (a b : Int) : Prop := ∀ q : Nat, Pr q → (q ∣ a.natAbs ∨ q ∣ b.natAbs) → q ∈ primesN
def primesI : List Int := primesN.map fun p : Nat => (p : Int)
def bad (a b p : Int) : Bool := (decide (p = 2) || decide (a * b % p = 0)) && sg p.toNat a b
def barsL (a b : Int) : List Int := (if a < 0 ∧ b < 0 then [0] else []) ++ primesI.filter (bad a b)
theorem primesI_asc : primesI.Pairwise (· < ·) := by decide
theorem mem_primesI {p : Int} : p ∈ primesI ↔ ∃ q ∈ primesN, p = (q : Int) := by
  unfold primesI
  rw [List.mem_map]
  exact ⟨fun ⟨q, h, e⟩ => ⟨q, h, e.symm⟩, fun ⟨q, h, e⟩ => ⟨q, h, e.symm⟩⟩
theorem dvd_ab {q : Nat} {a b : Int} (hq : Pr q) : (a * b) % (q : Int) = 0 ↔ (q ∣ a.natAbs ∨ q ∣ b.natAbs) := by
  constructor
  · intro h
    have h1 : q ∣ a.natAbs * b.natAbs := by
      rw [← Int.natAbs_mul]
      exact Int.natCast_dvd_natCast.mp (Int.dvd_natAbs.mpr (Int.dvd_of_emod_eq_zero h))
    exact hq.mul h1
  · rintro (h | h)
    · exact Int.emod_eq_zero_of_dvd (Int.dvd_mul_of_dvd_left (Int.dvd_natAbs.mp (Int.natCast_dvd_natCast.mpr h)))
    · exact Int.emod_eq_zero_of_dvd (Int.dvd_mul_of_dvd_right (Int.dvd_natAbs.mp (Int.natCast_dvd_natCast.mpr h)))
theorem bars_told {a b : Int} (hs : Small a b) {fs : List Int} (hf : fs.Pairwise (· < ·)) (hm : ∀ x, x ∈ fs ↔ ∃ q : Nat, x = q ∧ Pr q ∧ (q ∣ a.natAbs ∨ q ∣ b.natAbs)) :
    (((2 : Int) :: fs.filter fun x => !decide (x = 2)).filter fun p => sg p.toNat a b) = primesI.filter (bad a b) := by
  have h2 : ∀ x ∈ fs, (2 : Int) ≤ x := fun x hx => by
    obtain ⟨q, rfl, hq, _⟩ := (hm x).mp hx
    have := hq.two
    omega
  have a1 : ((2 : Int) :: fs.filter fun x => !decide (x = 2)).Pairwise (· < ·) := by
    refine List.pairwise_cons.mpr ⟨fun x hx => ?_, hf.filter _⟩
    obtain ⟨hx1, hx2⟩ := List.mem_filter.mp hx
    have := h2 x hx1
    have : x ≠ 2 := fun z => by rw [decide_eq_true z] at hx2; cases hx2
    omega
  refine asc_eq (a1.filter _) (primesI_asc.filter _) fun x => ?_
  rw [List.mem_filter, List.mem_filter, List.mem_cons, List.mem_filter]
  unfold bad
  constructor
  · rintro ⟨hx, hg⟩
    rcases hx with rfl | ⟨hx, _⟩
    · exact ⟨by decide, by rw [hg]; rfl⟩
    · obtain ⟨q, rfl, hq, hd⟩ := (hm x).mp hx
      refine ⟨mem_primesI.mpr ⟨q, hs q hq hd, rfl⟩, ?_⟩
      rw [hg, decide_eq_true ((dvd_ab hq).mpr hd), Bool.or_true]
      rfl
  · rintro ⟨hx, hg⟩
    obtain ⟨hg1, hg2⟩ := Bool.and_eq_true_iff.mp hg
    refine ⟨?_, hg2⟩
    by_cases c : x = 2
    · exact .inl c
    · right
      rw [decide_eq_false c, Bool.false_or] at hg1
      obtain ⟨q, hq, rfl⟩ := mem_primesI.mp hx
      have hd := (dvd_ab (pr_mem hq)).mp (of_decide_eq_true hg1)
      exact ⟨(hm _).mpr ⟨q, rfl, pr_mem hq, hd⟩, by rw [decide_eq_false c]; rfl⟩
end K9
namespace K9
open K7
theorem sm_small {a : Int} (h : Sm a) : ∀ q : Nat, Pr q → q ∣ a.natAbs → q ∈ primesN := by
  have tab : ∀ g ∈ gens, g.natAbs = 1 ∨ g.natAbs ∈ primesN := by decide
  induction h with
  | one =>
    intro q hq hd
    have := Nat.le_of_dvd (by decide) hd
    have h1 : (1 : Int).natAbs = 1 := rfl
    have := hq.two
    omega
  | mul hg h ih =>
    intro q hq hd
    rw [Int.natAbs_mul] at hd
    rcases hq.mul hd with x | x
    · rcases tab _ hg with e | e
      · rw [e] at x
        have := Nat.le_of_dvd (by decide) x
        have := hq.two
        omega
      · rw [Pr.eq hq (pr_mem e) x]
        exact e
    · exact ih q hq x
theorem sm_le {a : Int} (h : Sm a) {q : Nat} (hq : Pr q) (hd : q ∣ a.natAbs) : q ≤ 97 := by
  have : ∀ x ∈ primesN, x ≤ 97 := by decide
  exact this q (sm_small h q hq hd)
theorem small_sm {a b : Int} (ha : Sm a) (hb : Sm b) : Small a b := fun q hq hd => hd.elim (sm_small ha q hq) (sm_small hb q hq)
theorem sm_neg' {a : Int} (h : Sm a) : Sm (-a) := by
  have e : -a = -1 * a := by omega
  rw [e]
  exact .mul (by decide) h
theorem sm_mul {a b : Int} (ha : Sm a) (hb : Sm b) : Sm (a * b) := by
  induction ha with
  | one => rw [Int.one_mul]; exact hb
  | mul hg h ih => rw [Int.mul_assoc]; exact .mul hg ih
def greatN : List Nat := [101, 103, 107, 109, 113, 127, 131, 9973]
theorem pr_great {n : Nat} (h : n ∈ greatN) : Pr n := by
  have tab : ∀ n ∈ greatN, 1 < n ∧ n < 100 * 100 ∧ ∀ d, d < 100 → 2 ≤ d → n % d ≠ 0 := by decide +kernel
  obtain ⟨h1, h2, h3⟩ := tab n h
  refine low_end h1 (fun q hq hd => ?_) h2
  rcases Nat.lt_or_ge q 100 with c | c
  · exact absurd (Nat.mod_eq_zero_of_dvd hd) (h3 q c hq.two)
  · exact c
theorem great_bd {n : Nat} (h : n ∈ greatN) : 97 < n ∧ n ≤ 9973 := by
  have tab : ∀ n ∈ greatN, 97 < n ∧ n ≤ 9973 := by decide
  exact tab n h
theorem filter_par (f : Nat → Bool) : ∀ l : List Nat, (l.filter f).length % 2 = if xo (l.map f) = true then 1 else 0
  | [] => rfl
  | a :: l => by
    have ih := filter_par f l
    rw [List.filter_cons, List.map_cons]
    show _ = if xor (f a) (xo (l.map f)) = true then 1 else 0
    cases f a with
    | false =>
      rw [if_neg Bool.false_ne_true, ih, Bool.false_xor]
    | true =>
      rw [if_pos rfl, List.length_cons, Bool.true_xor]
      cases hx : xo (l.map f) with
      | false =>
        rw [hx, if_neg Bool.false_ne_true] at ih
        show _ = 1
        omega
      | true =>
        rw [hx, if_pos rfl] at ih
        show _ = 0
        omega
theorem bars_even {a b : Int} (ha : Sm a) (hb : Sm b) : (barsL a b).length % 2 = 0 := by
  have hT := T_zero ha hb
  unfold T at hT
  have e1 : (primesI.filter (bad a b)).length = (primesN.filter fun p => sg p a b).length := by
    unfold primesI
    rw [List.filter_map, List.length_map]
    congr 1
    refine List.filter_congr fun p hp => ?_
    show bad a b ((p : Nat) : Int) = sg p a b
    unfold bad
    rw [Int.toNat_natCast]
    by_cases h2 : p = 2
    · subst h2
      rfl
    · by_cases hd : (p : Int) ∣ a * b
      · rw [decide_eq_true (Int.emod_eq_zero_of_dvd hd), Bool.or_true]
        rfl
      · rw [sg_off hp h2 hd, Bool.and_false]
  unfold barsL
  rw [List.length_append, e1]
  have h := filter_par (fun p => sg p a b) primesN
  by_cases hn : a < 0 ∧ b < 0
  · rw [if_pos hn]
    show (1 + _) % 2 = 0
    have : (ng a && ng b) = true := by
      unfold ng
      rw [decide_eq_true hn.1, decide_eq_true hn.2]
      rfl
    rw [this, Bool.true_xor] at hT
    have hx : xo (primesN.map fun p => sg p a b) = true := by
      cases hx : xo (primesN.map fun p => sg p a b) with
      | true => rfl
      | false => rw [hx] at hT; cases hT
    rw [hx, if_pos rfl] at h
    omega
  · rw [if_neg hn]
    show (0 + _) % 2 = 0
    have : (ng a && ng b) = false := by
      unfold ng
      by_cases h1 : a < 0
      · rw [decide_eq_false (fun z => hn ⟨h1, z⟩), Bool.and_false]
      · rw [decide_eq_false h1, Bool.false_and]
    rw [this, Bool.false_xor] at hT
    rw [hT, if_neg Bool.false_ne_true] at h
    omega
theorem bars_swap (a b : Int) : barsL b a = barsL a b := by
  unfold barsL
  congr 1
  · by_cases h : a < 0 ∧ b < 0
    · rw [if_pos h, if_pos ⟨h.2, h.1⟩]
    · rw [if_neg h, if_neg (fun z => h ⟨z.2, z.1⟩)]
  · congr 1
    funext p
    unfold bad
    rw [Int.mul_comm b a, sg_symm]
theorem bars_none {a : Int} (ha : a ≠ 0) : barsL a (-a) = [] := by
  unfold barsL
  rw [if_neg (by omega), List.nil_append, List.filter_eq_nil_iff]
  intro p hp
  obtain ⟨q, hq, rfl⟩ := mem_primesI.mp hp
  unfold bad
  rw [Int.toNat_natCast, sg_neg hq ha, Bool.and_false]
  exact Bool.false_ne_true
theorem bars_square {a b : Int} (ha : a ≠ 0) (hb : b ≠ 0) {q : Nat} (hq : q ∈ primesN) : barsL (a * ((q : Int) * q)) b = barsL a b := by
  have hqp := pr_mem hq
  have hq0 : (0 : Int) < (q : Int) := by have := hqp.two; omega
  have hqq : (0 : Int) < (q : Int) * q := Int.mul_pos hq0 hq0
  unfold barsL
  congr 1
  · have : a * ((q : Int) * q) < 0 ↔ a < 0 := by
      constructor
      · intro h
        refine Decidable.by_contra fun c => ?_
        have := Int.mul_nonneg (show 0 ≤ a by omega) (Int.le_of_lt hqq)
        omega
      · intro h
        exact Int.mul_neg_of_neg_of_pos h hqq
    by_cases h : a < 0 ∧ b < 0
    · rw [if_pos h, if_pos ⟨this.mpr h.1, h.2⟩]
    · rw [if_neg h, if_neg (fun z => h ⟨this.mp z.1, z.2⟩)]
  · refine List.filter_congr fun p hp => ?_
    obtain ⟨r, hr, rfl⟩ := mem_primesI.mp hp
    unfold bad
    rw [Int.toNat_natCast, sg_square hr ha (show (q : Int) ≠ 0 by omega)]
    by_cases h2 : r = 2
    · rw [h2]
      rfl
    · have h2' : ¬ ((r : Nat) : Int) = 2 := by omega
      rw [decide_eq_false h2', Bool.false_or, Bool.false_or]
      cases hs : sg r a b with
      | false => rw [Bool.and_false, Bool.and_false]
      | true =>
        rw [Bool.and_true, Bool.and_true]
        have hd : (r : Int) ∣ a * b := Decidable.by_contra fun z => by
          rw [sg_off hr h2 z] at hs
          cases hs
        rw [decide_eq_true (Int.emod_eq_zero_of_dvd hd), decide_eq_true (Int.emod_eq_zero_of_dvd ?_)]
        rw [Int.mul_right_comm]
        exact Int.dvd_mul_of_dvd_left hd
end K9
namespace K9
open PySem PySem.Spec PyProof.Rows L2 K7
local macro_rules | `(tactic| walk_at "rc") => `(tactic| first
  | assumption
  | (show (0 : Int) < _; omega)
  | (show (0 : Int) < _ ∧ _ < (1073741824 : Int); exact ⟨by omega, by omega⟩)
  | (show (-(2 ^ 64 : Int) < _ ∧ _ < (2 ^ 64 : Int)) ∨ _; exact .inl ⟨by omega, by omega⟩)
  | (show _ ∨ (-(2 ^ 64 : Int) < _ ∧ _ < (2 ^ 64 : Int)); exact .inr ⟨by omega, by omega⟩)
  | (show (0 : Int) ≤ _ ∧ _ ≤ (1000000 : Int) ∧ _ < 2 ^ 64; exact ⟨by decide, by decide, by decide⟩))
local macro_rules | `(tactic| walk_at "rd") => `(tactic| repeat (first
  | with_reducible apply KR.seq
  | with_reducible apply KR.asg
  | with_reducible apply KR.drop
  | with_reducible apply KR.ret
  | with_reducible apply KR.retN
  | with_reducible apply KR.next
  | with_reducible apply KR.ifs
  | with_reducible refine KR.var rfl ?_
  | with_reducible refine L2.iteT ?_
  | with_reducible refine L2.iteF ?_
  | with_reducible refine KR.iteNF ?_
  | with_reducible refine KR.iteNT ?_
  | with_reducible apply KR.con
  | with_reducible apply KR.op
  | with_reducible apply KR.opI0
  | ((with_reducible refine KR.opI ?rc ?_); (case rc => walk_at "rc"))
  | with_reducible apply KR.un
  | with_reducible apply KR.unI
  | with_reducible apply KR.eqI
  | with_reducible apply KR.neI
  | with_reducible apply KR.test
  | with_reducible apply KR.tb'
  | with_reducible apply KR.exbl
  | with_reducible apply KR.and'
  | with_reducible apply KR.or'
  | with_reducible apply KR.not'
  | with_reducible apply KR.chain
  | with_reducible apply KR.call
  | with_reducible apply KR.callS
  | with_reducible apply KR.make
  | with_reducible apply KR.bm
  | with_reducible apply KR.errF
  | with_reducible apply KR.cons
  | with_reducible apply KR.nil
  | with_reducible apply KR.cb
  | with_reducible apply KR.cInt1
  | with_reducible apply KR.cI1
  | with_reducible apply KR.cI2
  | with_reducible apply KR.isi_ii
  | with_reducible apply KR.isi_ib
  | with_reducible apply KR.bits
  | with_reducible apply KR.exint
  | with_reducible apply KR.ifx
  | with_reducible refine KR.aug rfl ?_
  | with_reducible apply KR.ipI
  | with_reducible apply KR.for'
  | with_reducible apply KR.rng1
  | with_reducible apply KR.rng2
  | with_reducible apply KR.ilist
  | with_reducible apply KR.itup
  | with_reducible apply KR.tup
  | with_reducible apply KR.lst
  | with_reducible apply KR.andV
  | with_reducible apply KR.orV
  | with_reducible apply KR.notV
  | with_reducible apply KR.asgG
  | with_reducible apply KR.sub
  | with_reducible apply KR.fld
  | with_reducible apply KR.prop
  | with_reducible apply KR.meth
  | with_reducible apply KR.par
  | with_reducible apply KR.parN
  | with_reducible apply KR.raise1
  | with_reducible apply KR.raise0
  | with_reducible apply KR.exv
  | with_reducible apply KR.lc
  | with_reducible apply KR.ienT
  | with_reducible apply KR.sfld
  | with_reducible apply KR.sl
  | with_reducible apply KR.part
  | with_reducible apply KR.nopart
  | with_reducible apply KR.isNo
  | with_reducible refine KR.nnT ?_
  | with_reducible refine KR.niF ?_
  | with_reducible refine KR.nrF ?_
  | with_reducible refine KR.mnT ?_
  | with_reducible refine KR.miF ?_
  | with_reducible refine KR.mrF ?_))
theorem lg {n k : Nat} (h : n < 2 ^ k) : n.log2 ≤ k := by
  by_cases z : n = 0
  · rw [z]
    exact Nat.zero_le _
  · have := (Nat.log2_lt z).mpr h
    omega
theorem mulW {i j : Int} {k : Nat} (hk : k < 400000) (hi : i.natAbs < 2 ^ k) (hj : j.natAbs < 2 ^ k) : CMulW i j := by
  have h1 := lg hi
  have h2 := lg hj
  show i.natAbs.log2 + j.natAbs.log2 < 1000000
  omega
theorem divW {i j : Int} {k : Nat} (hk : k < 9000) (hj : 0 < j) (h : j.natAbs < 2 ^ k) : CDivW i j := ⟨hj, by
  have := lg h
  omega⟩
theorem pow_lt7 {b r k : Nat} (hb : b < 128) (hr : 7 * r < k) : b ^ r < 2 ^ k := by
  have h1 : b ^ r ≤ (2 ^ 7) ^ r := Nat.pow_le_pow_left (by omega) r
  rw [← Nat.pow_mul] at h1
  have h2 : 2 ^ (7 * r) < 2 ^ k := Nat.pow_lt_pow_right (by decide) hr
  omega
section
variable {P : Program} {w : World} {K : PySem.W.Frag} {mg : Str → Option Value} {base : Heap} {A : Ad}
def sp_power : Sp := fun vs H Q _ => ∃ b e : Nat, vs = [.int b, .int e] ∧ 2 ≤ b ∧ b < 128 ∧ e ≤ 400 ∧ Q (.int ((b : Int) ^ e)) H
theorem ok_power (T : Txt P K mg A) : FnOk P w K mg base CX0 1 A.a_power A.d_power ["base", "exponent"] sp_power := by
  refine T.F_power.ok sc_power (fun vs H Q E h => ?_) (fun cdv Ar outer s H vs Q E hr h => ?_)
  · obtain ⟨_, _, rfl, _⟩ := h; rfl
  have nd := sc_power.nd
  obtain ⟨b, e, rfl, hb2, hb, he, q⟩ := h
  refine ⟨_, (pss_cons (ps_set (i := 2) nd rfl (.inl rfl) pe_int)
    (pss_cons (ps_set (i := 3) nd rfl (.inl rfl) (pv 0))
    (pss_cons (ps_set (i := 4) nd rfl (.inl rfl) (pv 1))
    (pss_cons (ps_while PassesOwn.never (pt_cmpR op_gt (pv 4) pe_int (nomark _)) (pss_cons (ps_if (pt_cmpR op_eq (pe_op op_mod (pv 4) pe_int) pe_int (nomark _)) (pss_one (ps_set (i := 2) nd rfl (.inl rfl) (pe_op op_mulW (pv 2) (pv 3)))) pss_nil)
    (pss_cons (ps_set (i := 4) nd rfl (.inl rfl) (pe_op op_fdiv (pv 4) pe_int))
    (pss_one (ps_if (pt_cmpR op_gt (pv 4) pe_int (nomark _)) (pss_one (ps_set (i := 3) nd rfl (.inl rfl) (pe_op op_mulW (pv 3) (pv 3)))) pss_nil)))))
    (pss_one (ps_ret (pv 2))))))), ?_⟩
  walk_at "rd"
  refine KR.whl (fun m σ' H' => ∃ r s t : Nat, m = t ∧ H' = H ∧ r + s * t = e ∧ (0 < t → 1 ≤ s) ∧ s ≤ 400 ∧ σ' = [some (.int b), some (.int e), some (.int (b ^ r : Nat)), some (.int (b ^ s : Nat)), some (.int t)]) e ⟨0, 1, e, rfl, rfl, by omega, fun _ => Nat.le_refl _, by decide, by rw [Nat.pow_zero, Nat.pow_one]; rfl⟩ ?_
  rintro t σ' H' ⟨r, s, _, rfl, rfl, hrs, hs, hs4, rfl⟩
  walk_at "rd"
  refine KR.iteD (fun hp => KR.turn ?_) (fun hq => ?_)
  · have ht : 0 < t := by omega
    have hst : s ≤ s * t := Nat.le_mul_of_pos_right s ht
    walk_at "rd"
    refine KR.iteD (fun ho => ?_) (fun hn => ?_)
    · walk_at "rd"
      refine KR.opI (mulW (k := 5000) (by decide) (by show b ^ r < _; exact pow_lt7 hb (by omega)) (by show b ^ s < _; exact pow_lt7 hb (by omega))) ?_
      walk_at "rd"
      have et : t = 2 * (t / 2) + 1 := by omega
      refine KR.iteD (fun hp2 => ?_) (fun hq2 => ?_)
      · have ht2 : 1 ≤ t / 2 := by omega
        have h3 : r + s + (s + s) * (t / 2) = e := by
          rw [et, Nat.mul_add, Nat.mul_one, ← Nat.mul_assoc, Nat.mul_two] at hrs
          omega
        have h4 : s + s ≤ (s + s) * (t / 2) := Nat.le_mul_of_pos_right _ ht2
        walk_at "rd"
        refine KR.opI (mulW (k := 5000) (by decide) (by show b ^ s < _; exact pow_lt7 hb (by omega)) (by show b ^ s < _; exact pow_lt7 hb (by omega))) ?_
        walk_at "rd"
        exact ⟨t / 2, by omega, r + s, s + s, t / 2, rfl, rfl, h3, fun _ => by have := hs ht; omega, by omega, by rw [Nat.pow_add, Nat.pow_add, Int.natCast_mul, Int.natCast_mul]; rfl⟩
      · walk_at "rd"
        have h0 : t / 2 = 0 := by omega
        have h3 : r + s = e := by
          rw [et, h0] at hrs
          omega
        exact ⟨t / 2, by omega, r + s, s, t / 2, rfl, rfl, by rw [h0, Nat.mul_zero]; omega, fun z => by omega, hs4, by rw [Nat.pow_add, Int.natCast_mul]; rfl⟩
    · walk_at "rd"
      have et : t = 2 * (t / 2) := by omega
      refine KR.iteD (fun hp2 => ?_) (fun hq2 => ?_)
      · have ht2 : 1 ≤ t / 2 := by omega
        have h3 : r + (s + s) * (t / 2) = e := by
          rw [et, ← Nat.mul_assoc, Nat.mul_two] at hrs
          exact hrs
        have h4 : s + s ≤ (s + s) * (t / 2) := Nat.le_mul_of_pos_right _ ht2
        walk_at "rd"
        refine KR.opI (mulW (k := 5000) (by decide) (by show b ^ s < _; exact pow_lt7 hb (by omega)) (by show b ^ s < _; exact pow_lt7 hb (by omega))) ?_
        walk_at "rd"
        exact ⟨t / 2, by omega, r, s + s, t / 2, rfl, rfl, h3, fun _ => by have := hs ht; omega, by omega, by rw [Nat.pow_add, Int.natCast_mul]; rfl⟩
      · exfalso
        omega
  · walk_at "rd"
    have ht : t = 0 := by omega
    rw [ht, Nat.mul_zero, Nat.add_zero] at hrs
    rw [hrs]
    exact q
def sp_power_mod : Sp := fun vs H Q _ => ∃ (b : Int) (e m : Nat), vs = [.int b, .int e, .int m] ∧ 1 ≤ m ∧ m < 2 ^ 60 ∧ e < 1000000 ∧ Q (.int (((b % (m : Int)).toNat ^ e % m : Nat) : Int)) H
theorem pm_step {m : Nat} {S t : Nat} : (S * S % m) ^ t % m = S ^ (2 * t) % m := by
  rw [← Nat.pow_mod, Nat.pow_mul, Nat.pow_two]
theorem ok_power_mod (T : Txt P K mg A) : FnOk P w K mg base CX0 1 A.a_power_mod A.d_power_mod ["base", "exponent", "modulus"] sp_power_mod := by
  refine T.F_power_mod.ok sc_power_mod (fun vs H Q E h => ?_) (fun cdv Ar outer s H vs Q E hr h => ?_)
  · obtain ⟨_, _, _, rfl, _⟩ := h; rfl
  have nd := sc_power_mod.nd
  obtain ⟨b, e, m, rfl, hm, hm2, he, q⟩ := h
  refine ⟨_, (pss_cons (ps_set (i := 3) nd rfl (.inl rfl) (pe_op op_mod pe_int (pv 2)))
    (pss_cons (ps_set (i := 4) nd rfl (.inl rfl) (pe_op op_mod (pv 0) (pv 2)))
    (pss_cons (ps_set (i := 5) nd rfl (.inl rfl) (pv 1))
    (pss_cons (ps_while PassesOwn.never (pt_cmpR op_gt (pv 5) pe_int (nomark _)) (pss_cons (ps_if (pt_cmpR op_eq (pe_op op_mod (pv 5) pe_int) pe_int (nomark _)) (pss_one (ps_set (i := 3) nd rfl (.inl rfl) (pe_op op_mod (pe_op op_mul (pv 3) (pv 4)) (pv 2)))) pss_nil)
    (pss_cons (ps_set (i := 5) nd rfl (.inl rfl) (pe_op op_fdiv (pv 5) pe_int))
    (pss_one (ps_if (pt_cmpR op_gt (pv 5) pe_int (nomark _)) (pss_one (ps_set (i := 4) nd rfl (.inl rfl) (pe_op op_mod (pe_op op_mul (pv 4) (pv 4)) (pv 2)))) pss_nil)))))
    (pss_one (ps_ret (pv 3))))))), ?_⟩
  walk_at "rd"
  obtain ⟨c, hc⟩ := Int.eq_ofNat_of_zero_le (Int.emod_nonneg b (show (m : Int) ≠ 0 by omega))
  have hcm : c < m := by have := Int.emod_lt_of_pos b (show (0 : Int) < m by omega); omega
  rw [hc] at q ⊢
  rw [Int.toNat_natCast] at q
  refine KR.whl (fun M σ' H' => ∃ R S t : Nat, M = t ∧ H' = H ∧ R < m ∧ S < m ∧ R * S ^ t % m = c ^ e % m ∧ σ' = [some (.int b), some (.int e), some (.int m), some (.int R), some (.int S), some (.int t)]) e
    ⟨1 % m, c, e, rfl, rfl, Nat.mod_lt _ (by omega), hcm, by rw [Nat.mod_mul_mod, Nat.one_mul], rfl⟩ ?_
  rintro t σ' H' ⟨R, S, _, rfl, rfl, hR, hS, hE, rfl⟩
  walk_at "rd"
  refine KR.iteD (fun hp => KR.turn ?_) (fun hq => ?_)
  · walk_at "rd"
    refine KR.iteD (fun ho => ?_) (fun hn => ?_)
    · walk_at "rd"
      have et : t = 2 * (t / 2) + 1 := by omega
      have hE2 : (R * S % m) * S ^ (2 * (t / 2)) % m = c ^ e % m := by
        rw [← hE, Nat.mod_mul_mod, Nat.mul_assoc, ← Nat.pow_succ']
        congr 3
        exact et.symm
      refine KR.iteD (fun hp2 => ?_) (fun hq2 => ?_)
      · walk_at "rd"
        exact ⟨t / 2, by omega, R * S % m, S * S % m, t / 2, rfl, rfl, Nat.mod_lt _ (by omega), Nat.mod_lt _ (by omega), by rw [Nat.mul_mod, pm_step, ← Nat.mul_mod]; exact hE2, rfl⟩
      · walk_at "rd"
        exact ⟨t / 2, by omega, R * S % m, S, t / 2, rfl, rfl, Nat.mod_lt _ (by omega), hS, by
          have h0 : t / 2 = 0 := by omega
          rw [h0] at hE2 ⊢
          exact hE2, rfl⟩
    · walk_at "rd"
      have et : t = 2 * (t / 2) := by omega
      refine KR.iteD (fun hp2 => ?_) (fun hq2 => ?_)
      · walk_at "rd"
        exact ⟨t / 2, by omega, R, S * S % m, t / 2, rfl, rfl, hR, Nat.mod_lt _ (by omega), by rw [Nat.mul_mod, pm_step, ← Nat.mul_mod, ← et]; exact hE, rfl⟩
      · exfalso
        omega
  · walk_at "rd"
    have ht : t = 0 := by omega
    rw [ht, Nat.pow_zero, Nat.mul_one, Nat.mod_eq_of_lt hR] at hE
    rw [hE]
    exact q
def sp_inverse_mod : Sp := fun vs H Q _ => ∃ (a : Int) (m : Nat), vs = [.int a, .int m] ∧ 2 ≤ m ∧ m < 2 ^ 5000 ∧ Nat.gcd m ((a % (m : Int)).toNat) = 1 ∧ ∀ v : Int, 0 ≤ v → v < m → (m : Int) ∣ a * v - 1 → Q (.int v) H
theorem ok_inverse_mod (T : Txt P K mg A) : FnOk P w K mg base CX0 1 A.a_inverse_mod A.d_inverse_mod ["a", "modulus"] sp_inverse_mod := by
  refine T.F_inverse_mod.ok sc_inverse_mod (fun vs H Q E h => ?_) (fun cdv Ar outer s H vs Q E hr h => ?_)
  · obtain ⟨_, _, rfl, _⟩ := h; rfl
  have nd := sc_inverse_mod.nd
  obtain ⟨a, m, rfl, hm, hmb, hg, q⟩ := h
  refine ⟨_, (pss_cons (ps_set (i := 2) nd rfl (.inl rfl) (pv 1))
    (pss_cons (ps_set (i := 3) nd rfl (.inl rfl) (pe_op op_mod (pv 0) (pv 1)))
    (pss_cons (ps_set (i := 4) nd rfl (.inl rfl) pe_int)
    (pss_cons (ps_set (i := 5) nd rfl (.inl rfl) pe_int)
    (pss_cons (ps_while PassesOwn.never (pt_cmpR op_gt (pv 3) pe_int (nomark _)) (pss_cons (ps_set (i := 6) nd rfl (.inl rfl) (pe_op op_fdivW (pv 2) (pv 3)))
    (pss_cons (ps_par (i := 2) (j := 3) (by rfl) nd rfl rfl (by decide) rfl rfl (pa_cons (pv 3) (pa_cons (pe_op op_sub (pv 2) (pe_op op_mulW (pv 6) (pv 3))) pa_nil)) (by rfl))
    (pss_one (ps_par (i := 4) (j := 5) (by rfl) nd rfl rfl (by decide) rfl rfl (pa_cons (pv 5) (pa_cons (pe_op op_sub (pv 4) (pe_op op_mulW (pv 6) (pv 5))) pa_nil)) (by rfl))))))
    (pss_one (ps_ret (pe_op op_mod (pv 4) (pv 1))))))))), ?_⟩
  walk_at "rd"
  obtain ⟨c, hc⟩ := Int.eq_ofNat_of_zero_le (Int.emod_nonneg a (show (m : Int) ≠ 0 by omega))
  have hcm : c < m := by have := Int.emod_lt_of_pos a (show (0 : Int) < m by omega); omega
  have hca : (m : Int) ∣ (c : Int) - 1 * a := by
    rw [← hc, Int.one_mul]
    have := Int.dvd_self_sub_emod (x := a) (m := (m : Int))
    have e : a % (m : Int) - a = -(a - a % m) := by omega
    rw [e]
    exact Int.dvd_neg.mpr this
  rw [hc] at hg ⊢
  rw [Int.toNat_natCast] at hg
  refine KR.whl (fun M σ' H' => ∃ (o n : Nat) (bf fc : Int) (z : Option V), M = n ∧ H' = H ∧ n < o ∧ Nat.gcd o n = 1 ∧ (m : Int) ∣ (o : Int) - bf * a ∧ (m : Int) ∣ (n : Int) - fc * a ∧ fc.natAbs * o + bf.natAbs * n ≤ m ∧ o ≤ m ∧
      σ' = [some (.int a), some (.int m), some (.int o), some (.int n), some (.int bf), some (.int fc), z]) c
    ⟨m, c, 0, 1, none, rfl, rfl, hcm, hg, by rw [Int.zero_mul, Int.sub_zero]; exact Int.dvd_refl _, hca, by show 1 * m + 0 * c ≤ m; omega, Nat.le_refl _, rfl⟩ ?_
  rintro n σ' H' ⟨o, _, bf, fc, z, rfl, rfl, hno, hgc, d1, d2, hb, hom, rfl⟩
  walk_at "rd"
  refine KR.iteD (fun hp => KR.turn ?_) (fun hq => ?_)
  · have hn0 : 0 < n := by omega
    have hfm : fc.natAbs ≤ m := by
      have : fc.natAbs ≤ fc.natAbs * o := Nat.le_mul_of_pos_right _ (by omega)
      omega
    have hqo : o / n ≤ o := Nat.div_le_self _ _
    walk_at "rd"
    refine KR.opI (divW (k := 5000) (by decide) (by omega) (by show n < _; omega)) ?_
    have eq : (o : Int) / (n : Int) = ((o / n : Nat) : Int) := rfl
    rw [eq]
    walk_at "rd"
    refine KR.opI (mulW (k := 5000) (by decide) (by show o / n < _; omega) (by show n < _; omega)) ?_
    walk_at "rd"
    refine KR.opI (mulW (k := 5000) (by decide) (by show o / n < _; omega) (by omega)) ?_
    walk_at "rd"
    have em : (o : Int) - ((o / n : Nat) : Int) * n = ((o % n : Nat) : Int) := by
      have := Nat.div_add_mod o n
      rw [← Int.natCast_mul, Nat.mul_comm]
      omega
    rw [em]
    refine ⟨o % n, Nat.mod_lt _ hn0, n, o % n, fc, bf - ((o / n : Nat) : Int) * fc, _, rfl, rfl, Nat.mod_lt _ hn0, by rw [Nat.gcd_comm, ← Nat.gcd_rec, Nat.gcd_comm]; exact hgc, d2, ?_, ?_, by omega, rfl⟩
    · rw [← em]
      have e : (o : Int) - ((o / n : Nat) : Int) * n - (bf - ((o / n : Nat) : Int) * fc) * a = ((o : Int) - bf * a) - ((o / n : Nat) : Int) * ((n : Int) - fc * a) := by
        rw [Int.sub_mul, Int.mul_sub, Int.mul_assoc]
        omega
      rw [e]
      exact Int.dvd_sub d1 (Int.dvd_mul_of_dvd_right d2)
    · have h1 : (bf - ((o / n : Nat) : Int) * fc).natAbs ≤ bf.natAbs + o / n * fc.natAbs := by
        have := Int.natAbs_sub_le bf (((o / n : Nat) : Int) * fc)
        rw [Int.natAbs_mul, Int.natAbs_natCast] at this
        exact this
      have h2 : (bf - ((o / n : Nat) : Int) * fc).natAbs * n ≤ (bf.natAbs + o / n * fc.natAbs) * n := Nat.mul_le_mul_right n h1
      have h3 : (bf.natAbs + o / n * fc.natAbs) * n + fc.natAbs * (o % n) = bf.natAbs * n + fc.natAbs * o := by
        have := Nat.div_add_mod o n
        rw [Nat.add_mul]
        have e : o / n * fc.natAbs * n = fc.natAbs * (n * (o / n)) := by rw [Nat.mul_comm (o / n), Nat.mul_assoc, Nat.mul_comm (o / n)]
        rw [e]
        have e2 : fc.natAbs * (n * (o / n)) + fc.natAbs * (o % n) = fc.natAbs * o := by rw [← Nat.mul_add, this]
        omega
      omega
  · walk_at "rd"
    have hn0 : n = 0 := by omega
    rw [hn0, Nat.gcd_zero_right] at hgc
    rw [hgc] at d1
    refine q _ (Int.emod_nonneg _ (by omega)) (Int.emod_lt_of_pos _ (by omega)) ?_
    have h1 : (m : Int) ∣ bf - bf % m := Int.dvd_self_sub_emod
    have e : a * (bf % m) - 1 = -((1 : Nat) - bf * a) - a * (bf - bf % m) := by
      rw [Int.mul_sub, Int.mul_comm bf a]
      show a * (bf % m) - 1 = -(1 - a * bf) - (a * bf - a * (bf % m))
      omega
    rw [e]
    exact Int.dvd_sub (Int.dvd_neg.mpr d1) (Int.dvd_mul_of_dvd_right h1)
theorem div_p {p : Nat} {r : Int} (hr : r % (p : Int) = 0) : r = (p : Int) * (r / p) := (Int.mul_ediv_cancel' (Int.dvd_of_emod_eq_zero hr)).symm
theorem div_ne {p : Nat} {r : Int} (h : r ≠ 0) (hr : r % (p : Int) = 0) : r / (p : Int) ≠ 0 := fun z => h (by rw [div_p hr, z, Int.mul_zero])
theorem div_small {p : Nat} {r : Int} (hp : 2 ≤ p) (h : r ≠ 0) (hr : r % (p : Int) = 0) : (r / (p : Int)).natAbs < r.natAbs := by
  have e := div_p hr
  have h1 : r.natAbs = p * (r / (p : Int)).natAbs := by
    have e2 := congrArg Int.natAbs e
    rw [Int.natAbs_mul, Int.natAbs_natCast] at e2
    exact e2
  have h2 : 0 < (r / (p : Int)).natAbs := Int.natAbs_pos.mpr (div_ne h hr)
  rw [h1]
  have := Nat.mul_lt_mul_of_pos_right (show 1 < p by omega) h2
  rwa [Nat.one_mul] at this
theorem up_pow {p f : Nat} {n r : Int} (e : n = (p : Int) ^ f * r) (hr : r % (p : Int) = 0) : n = (p : Int) ^ (f + 1) * (r / p) := by
  rw [Int.pow_succ, Int.mul_assoc, ← div_p hr, ← e]
def sp_parted : Sp := fun vs H Q _ => ∃ (p : Nat) (n : Int), vs = [.int p, .int n] ∧ 2 ≤ p ∧ p < 100 ∧ n ≠ 0 ∧ ∀ a, H a = none → Q (.ref a) (upd H a (.tup [.int (vI p n : Nat), .int (un p n)]))
theorem ok_parted (T : Txt P K mg A) : FnOk P w K mg base CX0 1 A.a_parted A.d_parted ["p", "n"] sp_parted := by
  refine T.F_parted.ok sc_parted (fun vs H Q E h => ?_) (fun cdv Ar outer s H vs Q E hr h => ?_)
  · obtain ⟨_, _, rfl, _⟩ := h; rfl
  have nd := sc_parted.nd
  obtain ⟨p, n, rfl, h2, h9, hn, q⟩ := h
  refine ⟨_, (pss_cons (ps_set (i := 2) nd rfl (.inl rfl) pe_int)
    (pss_cons (ps_set (i := 3) nd rfl (.inl rfl) (pv 1))
    (pss_cons (ps_while PassesOwn.never (pt_cmpR op_eq (pe_op op_mod (pv 3) (pv 0)) pe_int (nomark _)) (pss_cons (ps_set (i := 3) nd rfl (.inl rfl) (pe_op op_fdiv (pv 3) (pv 0)))
    (pss_one (ps_aug (i := 2) nd rfl (.inl rfl) pe_int ip_add))))
    (pss_one (ps_ret (pe_tup (pa_cons (pv 2) (pa_cons (pv 3) pa_nil)))))))), ?_⟩
  walk_at "rd"
  refine KR.whl (fun m σ' H' => ∃ (f : Nat) (r : Int), m = r.natAbs ∧ H' = H ∧ σ' = [some (.int p), some (.int n), some (.int f), some (.int r)] ∧ r ≠ 0 ∧ n = (p : Int) ^ f * r) n.natAbs ⟨0, n, rfl, rfl, rfl, hn, by rw [Int.pow_zero, Int.one_mul]⟩ ?_
  rintro m σ' H' ⟨f, r, rfl, rfl, rfl, hr, e⟩
  walk_at "rd"
  refine KR.iteD (fun hp => KR.turn ?_) (fun hq => ?_)
  · walk_at "rd"
    exact ⟨(r / (p : Int)).natAbs, div_small h2 hr hp, f + 1, r / p, rfl, rfl, rfl, div_ne hr hp, up_pow e hp⟩
  · walk_at "rd"
    obtain ⟨e1, e2⟩ := form_uniq h2 e (fun z => hq (Int.emod_eq_zero_of_dvd z))
    rw [e1, e2] at q
    exact ⟨by show 2 ≤ sizeLine; decide, fun a ha => q a ha⟩
def sp_int_depth : Sp := fun vs H Q _ => ∃ (p : Nat) (n : Int), vs = [.int p, .int n] ∧ 2 ≤ p ∧ p < 100 ∧ n ≠ 0 ∧ ∀ H2, Evl.Ex H H2 → Q (.int (vI p n : Nat)) H2
theorem ok_int_depth (T : Txt P K mg A) : FnOk P w K mg base CX0 2 A.a_int_depth A.d_int_depth ["p", "n"] sp_int_depth := by
  refine T.F_int_depth.ok sc_int_depth (fun vs H Q E h => ?_) (fun cdv Ar outer s H vs Q E hr h => ?_)
  · obtain ⟨_, _, rfl, _⟩ := h; rfl
  have nd := sc_int_depth.nd
  obtain ⟨p, n, rfl, h2, h9, hn, q⟩ := h
  refine ⟨_, (pss_one (ps_ret (pe_ix ix_tup (pe_call (ok_parted T) (hr.mono (by decide)) (by rfl) T.g_parted T.k_parted T.b_parted .nil pass0 (pa_cons (pv 0) (pa_cons (pv 1) pa_nil))) pe_int (fun _ _ => rfl)))), ?_⟩
  walk_at "rd"
  refine ⟨p, n, rfl, h2, h9, hn, fun a ha => ?_⟩
  walk_at "rd"
  refine KR.ixT (.inl (.inl upd_same)) (v := .int (vI p n : Nat)) (atI_nat (j := 0) rfl) ?_
  exact q _ (Evl.Ex.new ha)
end
end K9
namespace K9
open PySem PySem.Spec PyProof.Rows L2 K7
local macro_rules | `(tactic| walk_at "rc") => `(tactic| first
  | assumption
  | (show (0 : Int) < _; omega)
  | (show (0 : Int) < _ ∧ _ < (1073741824 : Int); exact ⟨by omega, by omega⟩)
  | (show (-(2 ^ 64 : Int) < _ ∧ _ < (2 ^ 64 : Int)) ∨ _; exact .inl ⟨by omega, by omega⟩)
  | (show _ ∨ (-(2 ^ 64 : Int) < _ ∧ _ < (2 ^ 64 : Int)); exact .inr ⟨by omega, by omega⟩)
  | (show (0 : Int) ≤ _ ∧ _ ≤ (1000000 : Int) ∧ _ < 2 ^ 64; exact ⟨by decide, by decide, by decide⟩))
local macro_rules | `(tactic| walk_at "rd") => `(tactic| repeat (first
  | with_reducible apply KR.seq
  | with_reducible apply KR.asg
  | with_reducible apply KR.drop
  | with_reducible apply KR.ret
  | with_reducible apply KR.retN
  | with_reducible apply KR.next
  | with_reducible apply KR.ifs
  | with_reducible refine KR.var rfl ?_
  | with_reducible refine L2.iteT ?_
  | with_reducible refine L2.iteF ?_
  | with_reducible refine KR.iteNF ?_
  | with_reducible refine KR.iteNT ?_
  | with_reducible apply KR.con
  | with_reducible apply KR.op
  | with_reducible apply KR.opI0
  | ((with_reducible refine KR.opI ?rc ?_); (case rc => walk_at "rc"))
  | with_reducible apply KR.un
  | with_reducible apply KR.unI
  | with_reducible apply KR.eqI
  | with_reducible apply KR.neI
  | with_reducible apply KR.test
  | with_reducible apply KR.tb'
  | with_reducible apply KR.exbl
  | with_reducible apply KR.and'
  | with_reducible apply KR.or'
  | with_reducible apply KR.not'
  | with_reducible apply KR.chain
  | with_reducible apply KR.call
  | with_reducible apply KR.callS
  | with_reducible apply KR.make
  | with_reducible apply KR.bm
  | with_reducible apply KR.errF
  | with_reducible apply KR.cons
  | with_reducible apply KR.nil
  | with_reducible apply KR.cb
  | with_reducible apply KR.cInt1
  | with_reducible apply KR.cI1
  | with_reducible apply KR.cI2
  | with_reducible apply KR.isi_ii
  | with_reducible apply KR.isi_ib
  | with_reducible apply KR.bits
  | with_reducible apply KR.exint
  | with_reducible apply KR.ifx
  | with_reducible refine KR.aug rfl ?_
  | with_reducible apply KR.ipI
  | with_reducible apply KR.for'
  | with_reducible apply KR.rng1
  | with_reducible apply KR.rng2
  | with_reducible apply KR.ilist
  | with_reducible apply KR.itup
  | with_reducible apply KR.tup
  | with_reducible apply KR.lst
  | with_reducible apply KR.andV
  | with_reducible apply KR.orV
  | with_reducible apply KR.notV
  | with_reducible apply KR.asgG
  | with_reducible apply KR.sub
  | with_reducible apply KR.fld
  | with_reducible apply KR.prop
  | with_reducible apply KR.meth
  | with_reducible apply KR.par
  | with_reducible apply KR.parN
  | with_reducible apply KR.raise1
  | with_reducible apply KR.raise0
  | with_reducible apply KR.exv
  | with_reducible apply KR.lc
  | with_reducible apply KR.ienT
  | with_reducible apply KR.sfld
  | with_reducible apply KR.sl
  | with_reducible apply KR.part
  | with_reducible apply KR.nopart
  | with_reducible apply KR.isNo
  | with_reducible refine KR.nnT ?_
  | with_reducible refine KR.niF ?_
  | with_reducible refine KR.nrF ?_
  | with_reducible refine KR.mnT ?_
  | with_reducible refine KR.miF ?_
  | with_reducible refine KR.mrF ?_))
theorem inV_int (a : Int) (l : List Int) : inV (.int a) (l.map V.int) = decide (a ∈ l) := by
  unfold inV
  induction l with
  | nil => rfl
  | cons x r ih =>
    rw [List.map_cons, List.any_cons, ih]
    show ((x == a) || _) = _
    by_cases h : x = a
    · rw [h]; simp
    · have h' : ¬ a = x := fun z => h z.symm
      simp [h, h']
theorem flat_ints (l : List Int) : (l.map V.int).all flatV = true := by
  rw [List.all_map, List.all_eq_true]
  intro x _
  rfl
theorem pr_of {p : Int} (h : p ∈ primesL) : ∃ q : Nat, p = (q : Int) ∧ q ∈ primesN ∧ 2 ≤ q ∧ q < 100 := by
  have : ∀ x ∈ primesL, x.toNat ∈ primesN ∧ 2 ≤ x ∧ x < 100 := by decide
  obtain ⟨h1, h2, h3⟩ := this p h
  exact ⟨p.toNat, by omega, h1, by omega, by omega⟩
theorem of_pr {q : Nat} (h : q ∈ primesN) : (q : Int) ∈ primesL ∧ 2 ≤ q ∧ q < 100 := by
  have : ∀ x ∈ primesN, (x : Int) ∈ primesL ∧ 2 ≤ x ∧ x < 100 := by decide
  exact this q h
abbrev errD (A : Addr) (E : XK) (H : Hp) (a : Int) : Prop := ∀ d, H d = none → E (.ref A) (some d) (upd H d (.xd [(("number" : Str), .int a)]))
def okA (n : Int) : Prop := -1000000000000 ≤ n ∧ n ≤ 1000000000000
theorem vI_lt {p : Nat} (hp : 2 ≤ p) {n : Int} (hn : n ≠ 0) {k : Nat} (h : n.natAbs < 2 ^ k) : vI p n < k := by
  have h1 := vN_lt_pow hp (show 0 < n.natAbs by omega)
  have h2 : 2 ^ vN p n.natAbs ≤ p ^ vN p n.natAbs := Nat.pow_le_pow_left hp _
  refine Decidable.by_contra fun c => ?_
  have h3 : (2 : Nat) ^ k ≤ 2 ^ vN p n.natAbs := Nat.pow_le_pow_right (by decide) (by unfold vI at c; omega)
  omega
theorem un_le {p : Nat} (hp : 2 ≤ p) {n : Int} (hn : n ≠ 0) : (un p n).natAbs ≤ n.natAbs := by
  have e := congrArg Int.natAbs (form hp hn).1
  rw [Int.natAbs_mul] at e
  have : 1 ≤ ((p : Int) ^ vI p n).natAbs := by
    have : (0 : Int) < (p : Int) ^ vI p n := Int.pow_pos (by omega)
    omega
  have := Nat.mul_le_mul_right (un p n).natAbs this
  omega
theorem odd_expI (p i j : Nat) (u w : Int) (hp : p ≠ 2) (hp0 : 1 ≤ p) : ((((i : Int) * j * (((p : Int) - 1) / 2) + (if nr p u = true then (j : Int) else 0)) + (if nr p w = true then (i : Int) else 0)) % 2) = if sgB p i u j w = true then 1 else 0 := by
  have h := odd_exp p i j u w hp
  have e1 : ((p : Int) - 1) / 2 = (((p - 1) / 2 : Nat) : Int) := by omega
  rw [e1, ← Int.natCast_mul, ← Int.natCast_mul]
  generalize i * j * ((p - 1) / 2) = t at *
  generalize nr p u = x at *
  generalize nr p w = y at *
  generalize sgB p i u j w = z at *
  cases x <;> cases y <;> cases z <;> simp at h ⊢ <;> omega
section
variable {P : Program} {w : World} {K : PySem.W.Frag} {mg : Str → Option Value} {base : Heap} {A : Ad}
theorem Txt.sqSP (T : Txt P K mg A) (H : Hp) : SqT K H A.aSP (primesL.map V.int) := by
  obtain ⟨dd, its, n, sl, h1, h2, h3⟩ := T.tSP
  exact .inr ⟨_, its, n, h1, rfl, rfl, h2, h3⟩
def sp_look_prime (A : Ad) : Sp := fun vs H Q E => ∃ a : Int, vs = [.int a] ∧ (a ∈ primesL → Q .non H) ∧ (a ∉ primesL → errD A.a_PrimeError E H a)
theorem ok_look_prime (T : Txt P K mg A) : FnOk P w K mg base (L2N.CX P w) 2 A.a_look_prime A.d_look_prime ["p"] (sp_look_prime A) := by
  refine T.F_look_prime.okN sc_look_prime (fun vs H Q E h => ?_) (fun cdv Ar outer s H vs Q E hr h => ?_)
  · obtain ⟨_, rfl, _⟩ := h; rfl
  have nd := sc_look_prime.nd
  obtain ⟨a, rfl, q, e⟩ := h
  refine ⟨_, (pss_one (ps_if (pt_cmpR op_notIn_seq (pv 0) (pe_glob (v := .ref A.aSP) (by rfl) T.c_SMALL_PRIMES rfl) (by rfl)) (pss_one (ps_raise1 rfl T.e_PrimeError PySem.KX.fld_number hr (L2N.takes_of rfl rfl rfl rfl) (pa_cons (pv 0) pa_nil) (by rfl))) pss_nil)), ?_⟩
  walk_at "rd"
  refine ⟨A.aSP, _, rfl, .inr (T.sqSP H), rfl, flat_ints _, ?_⟩
  rw [inV_int]
  walk_at "rd"
  refine KR.iteND (fun hn => ?_) (fun hp => ?_)
  · walk_at "rd"
    exact fun d hd => e hn d hd
  · walk_at "rd"
    exact q hp
def sp_look_range (A : Ad) : Sp := fun vs H Q E => ∃ a lo hi : Int, vs = [.int a, .int lo, .int hi] ∧ (lo ≤ a ∧ a ≤ hi → Q .non H) ∧ (¬ (lo ≤ a ∧ a ≤ hi) → errD A.a_RangeError E H a)
theorem ok_look_range (T : Txt P K mg A) : FnOk P w K mg base (L2N.CX P w) 2 A.a_look_range A.d_look_range ["number", "low", "high"] (sp_look_range A) := by
  refine T.F_look_range.okN sc_look_range (fun vs H Q E h => ?_) (fun cdv Ar outer s H vs Q E hr h => ?_)
  · obtain ⟨_, _, _, rfl, _⟩ := h; rfl
  have nd := sc_look_range.nd
  obtain ⟨a, lo, hi, rfl, q, e⟩ := h
  refine ⟨_, (pss_one (ps_if (pt_not (pt_chain op_le op_le (pv 1) (pv 0) (pv 2))) (pss_one (ps_raise1 rfl T.e_RangeError PySem.KX.fld_number hr (L2N.takes_of rfl rfl rfl rfl) (pa_cons (pv 0) pa_nil) (by rfl))) pss_nil)), ?_⟩
  walk_at "rd"
  refine KR.iteD (fun h1 => ?_) (fun h1 => ?_)
  · walk_at "rd"
    refine KR.iteND (fun hn => ?_) (fun hp => ?_)
    · walk_at "rd"
      exact fun d hd => e (fun z => hn z.2) d hd
    · walk_at "rd"
      exact q ⟨h1, hp⟩
  · walk_at "rd"
    exact fun d hd => e (fun z => h1 z.1) d hd
def sp_look_numbers (A : Ad) : Sp := fun vs H Q E => ∃ p a b : Int, vs = [.int p, .int a, .int b] ∧ (p ∉ primesL → errD A.a_PrimeError E H p) ∧ (p ∈ primesL → (¬ okA a → errD A.a_RangeError E H a) ∧ (okA a → (¬ okA b → errD A.a_RangeError E H b) ∧ (okA b → Q .non H)))
theorem ok_look_numbers (T : Txt P K mg A) : FnOk P w K mg base (L2N.CX P w) 3 A.a_look_numbers A.d_look_numbers ["p", "a", "b"] (sp_look_numbers A) := by
  refine T.F_look_numbers.okN sc_look_numbers (fun vs H Q E h => ?_) (fun cdv Ar outer s H vs Q E hr h => ?_)
  · obtain ⟨_, _, _, rfl, _⟩ := h; rfl
  have nd := sc_look_numbers.nd
  obtain ⟨p, a, b, rfl, e1, h⟩ := h
  refine ⟨_, (pss_cons (ps_expr (pe_call (ok_look_prime T) (hr.mono (by decide)) (by rfl) T.g_look_prime T.k_look_prime T.b_look_prime .nil (L2N.passes_call (L2N.takes_of rfl rfl rfl rfl) (fun _ _ _ _ h => h)) (pa_cons (pv 0) pa_nil)))
    (pss_cons (ps_expr (pe_call (ok_look_range T) (hr.mono (by decide)) (by rfl) T.g_look_range T.k_look_range T.b_look_range .nil (L2N.passes_call (L2N.takes_of rfl rfl rfl rfl) (fun _ _ _ _ h => h)) (pa_cons (pv 1) (pa_cons (pe_un un_neg (KR.pe_gI (by rfl) T.c_MOST_NUMBER)) (pa_cons (KR.pe_gI (by rfl) T.c_MOST_NUMBER) pa_nil)))))
    (pss_one (ps_expr (pe_call (ok_look_range T) (hr.mono (by decide)) (by rfl) T.g_look_range T.k_look_range T.b_look_range .nil (L2N.passes_call (L2N.takes_of rfl rfl rfl rfl) (fun _ _ _ _ h => h)) (pa_cons (pv 2) (pa_cons (pe_un un_neg (KR.pe_gI (by rfl) T.c_MOST_NUMBER)) (pa_cons (KR.pe_gI (by rfl) T.c_MOST_NUMBER) pa_nil)))))))), ?_⟩
  walk_at "rd"
  refine ⟨p, rfl, fun hp => ?_, e1⟩
  obtain ⟨e2, h⟩ := h hp
  walk_at "rd"
  refine ⟨a, _, _, rfl, fun ha => ?_, e2⟩
  obtain ⟨e3, q⟩ := h ha
  walk_at "rd"
  refine ⟨b, _, _, rfl, fun hb => ?_, e3⟩
  walk_at "rd"
  exact q hb
def sp_look_zeros (A : Ad) : Sp := fun vs H Q E => ∃ a b : Int, vs = [.int a, .int b] ∧ ((a = 0 ∨ b = 0) → E (.ref A.a_ZeroError) none H) ∧ (a ≠ 0 → b ≠ 0 → Q .non H)
theorem ok_look_zeros (T : Txt P K mg A) : FnOk P w K mg base (L2N.CX P w) 2 A.a_look_zeros A.d_look_zeros ["a", "b"] (sp_look_zeros A) := by
  refine T.F_look_zeros.okN sc_look_zeros (fun vs H Q E h => ?_) (fun cdv Ar outer s H vs Q E hr h => ?_)
  · obtain ⟨_, _, rfl, _⟩ := h; rfl
  have nd := sc_look_zeros.nd
  obtain ⟨a, b, rfl, e, q⟩ := h
  refine ⟨_, (pss_one (ps_if (PW.pt (pw_or (pt_cmpR op_eq (pv 0) pe_int (nomark _)) (pw_or1 (pt_cmpR op_eq (pv 1) pe_int (nomark _))))) (pss_one (ps_raise0 rfl T.e_ZeroError hr (L2N.takes_of rfl rfl rfl rfl) (by rfl))) pss_nil)), ?_⟩
  walk_at "rd"
  refine KR.iteD (fun h1 => ?_) (fun h1 => ?_)
  · walk_at "rd"
    exact e (.inl h1)
  · walk_at "rd"
    refine KR.iteD (fun h2 => ?_) (fun h2 => ?_)
    · walk_at "rd"
      exact e (.inr h2)
    · walk_at "rd"
      exact q h1 h2
def sp_square_unit : Sp := fun vs H Q _ => ∃ (p : Nat) (n : Int), vs = [.int p, .int n] ∧ p ∈ primesN ∧ Q (.bl (sqU p n)) H
theorem ok_square_unit (T : Txt P K mg A) : FnOk P w K mg base CX0 2 A.a_square_unit A.d_square_unit ["p", "number"] sp_square_unit := by
  refine T.F_square_unit.ok sc_square_unit (fun vs H Q E h => ?_) (fun cdv Ar outer s H vs Q E hr h => ?_)
  · obtain ⟨_, _, rfl, _⟩ := h; rfl
  have nd := sc_square_unit.nd
  obtain ⟨p, n, rfl, hp, q⟩ := h
  obtain ⟨_, h2, h9⟩ := of_pr hp
  refine ⟨_, (pss_cons (ps_if (pt_cmpR op_eq (pv 0) pe_int (nomark _)) (pss_one (ps_ret (pe_cmpR op_eq (pe_op op_mod (pv 1) pe_int) pe_int (nomark _)))) pss_nil)
    (pss_one (ps_ret (pe_cmpR op_eq (pe_call (ok_power_mod T) (hr.mono (by decide)) (by rfl) T.g_power_mod T.k_power_mod T.b_power_mod .nil pass0 (pa_cons (pv 1) (pa_cons (pe_op op_fdiv (pe_op op_sub (pv 0) pe_int) pe_int) (pa_cons (pv 0) pa_nil)))) pe_int (nomark _))))), ?_⟩
  walk_at "rd"
  unfold sqU at q
  refine KR.iteD (fun c => ?_) (fun c => ?_)
  · rw [if_pos (show p = 2 by omega)] at q
    walk_at "rd"
    exact q
  · rw [if_neg (show p ≠ 2 by omega)] at q
    walk_at "rd"
    have e1 : ((p : Int) - 1) / 2 = (((p - 1) / 2 : Nat) : Int) := by omega
    rw [e1]
    refine ⟨n, (p - 1) / 2, p, rfl, by omega, by omega, by omega, ?_⟩
    walk_at "rd"
    have e2 : (decide (((((n % (p : Int)).toNat ^ ((p - 1) / 2) % p : Nat)) : Int) = 1)) = !nr p n := by
      unfold nr pm rs
      rw [Bool.not_not]
      generalize (n % (p : Int)).toNat ^ ((p - 1) / 2) % p = t
      rw [Bool.eq_iff_iff, decide_eq_true_iff, beq_iff_eq]
      omega
    rw [e2]
    exact q
def sp_odd_sign : Sp := fun vs H Q _ => ∃ (p i j : Nat) (u w : Int), vs = [.int p, .int i, .int u, .int j, .int w] ∧ p ∈ primesN ∧ p ≠ 2 ∧ i < 1000 ∧ j < 1000 ∧ Q (.int (if sgB p i u j w = true then 1 else 0)) H
theorem ok_odd_sign (T : Txt P K mg A) : FnOk P w K mg base CX0 3 A.a_odd_sign A.d_odd_sign ["p", "i", "u", "j", "w"] sp_odd_sign := by
  refine T.F_odd_sign.ok sc_odd_sign (fun vs H Q E h => ?_) (fun cdv Ar outer s H vs Q E hr h => ?_)
  · obtain ⟨_, _, _, _, _, rfl, _⟩ := h; rfl
  have nd := sc_odd_sign.nd
  obtain ⟨p, i, j, u, w, rfl, hp, hp2, hi, hj, q⟩ := h
  obtain ⟨_, h2, h9⟩ := of_pr hp
  have hx := odd_expI p i j u w hp2 (by omega)
  have su : ∀ v, sqU p v = !nr p v := fun v => by unfold sqU; rw [if_neg hp2]
  refine ⟨_, (pss_cons (ps_set (i := 5) nd rfl (.inl rfl) (pe_op op_mul (pe_op op_mul (pv 1) (pv 3)) (pe_op op_fdiv (pe_op op_sub (pv 0) pe_int) pe_int)))
    (pss_cons (ps_if (pt_not (pt_val (pe_call (ok_square_unit T) (hr.mono (by decide)) (by rfl) T.g_square_unit T.k_square_unit T.b_square_unit .nil pass0 (pa_cons (pv 0) (pa_cons (pv 2) pa_nil))))) (pss_one (ps_set (i := 5) nd rfl (.inl rfl) (pe_op op_add (pv 5) (pv 3)))) pss_nil)
    (pss_cons (ps_if (pt_not (pt_val (pe_call (ok_square_unit T) (hr.mono (by decide)) (by rfl) T.g_square_unit T.k_square_unit T.b_square_unit .nil pass0 (pa_cons (pv 0) (pa_cons (pv 4) pa_nil))))) (pss_one (ps_set (i := 5) nd rfl (.inl rfl) (pe_op op_add (pv 5) (pv 1)))) pss_nil)
    (pss_one (ps_ret (pe_op op_mod (pv 5) pe_int)))))), ?_⟩
  walk_at "rd"
  refine ⟨p, u, rfl, hp, ?_⟩
  rw [su]
  walk_at "rd"
  rw [Bool.not_not]
  rw [← hx] at q
  cases hu : nr p u with
  | true =>
    rw [hu, if_pos rfl] at q
    walk_at "rd"
    refine ⟨p, w, rfl, hp, ?_⟩
    rw [su]
    walk_at "rd"
    rw [Bool.not_not]
    cases hw : nr p w with
    | true =>
      rw [hw, if_pos rfl] at q
      walk_at "rd"
      exact q
    | false =>
      rw [hw, if_neg (by decide), Int.add_zero] at q
      walk_at "rd"
      exact q
  | false =>
    rw [hu, if_neg (by decide), Int.add_zero] at q
    walk_at "rd"
    refine ⟨p, w, rfl, hp, ?_⟩
    rw [su]
    walk_at "rd"
    rw [Bool.not_not]
    cases hw : nr p w with
    | true =>
      rw [hw, if_pos rfl] at q
      walk_at "rd"
      exact q
    | false =>
      rw [hw, if_neg (by decide), Int.add_zero] at q
      walk_at "rd"
      exact q
def sp_even_sign : Sp := fun vs H Q _ => ∃ (i j : Nat) (u w : Int), vs = [.int i, .int u, .int j, .int w] ∧ i < 1000 ∧ j < 1000 ∧ okA u ∧ okA w ∧ ¬ (2 : Int) ∣ u ∧ ¬ (2 : Int) ∣ w ∧ Q (.int (if sgB 2 i u j w = true then 1 else 0)) H
theorem ok_even_sign (T : Txt P K mg A) : FnOk P w K mg base CX0 1 A.a_even_sign A.d_even_sign ["i", "u", "j", "w"] sp_even_sign := by
  refine T.F_even_sign.ok sc_even_sign (fun vs H Q E h => ?_) (fun cdv Ar outer s H vs Q E hr h => ?_)
  · obtain ⟨_, _, _, _, rfl, _⟩ := h; rfl
  have nd := sc_even_sign.nd
  obtain ⟨i, j, u, w, rfl, hi, hj, ⟨hu1, hu2⟩, ⟨hw1, hw2⟩, hu, hw, q⟩ := h
  rw [← even_exp i j hu hw] at q
  refine ⟨_, (pss_cons (ps_set (i := 4) nd rfl (.inl rfl) (pe_op op_mul (pe_op op_fdiv (pe_op op_sub (pv 1) pe_int) pe_int) (pe_op op_fdiv (pe_op op_sub (pv 3) pe_int) pe_int)))
    (pss_one (ps_ret (pe_op op_mod (pe_op op_add (pe_op op_add (pv 4) (pe_op op_mul (pv 0) (pe_op op_fdiv (pe_op op_sub (pe_op op_mul (pv 3) (pv 3)) pe_int) pe_int))) (pe_op op_mul (pv 2) (pe_op op_fdiv (pe_op op_sub (pe_op op_mul (pv 1) (pv 1)) pe_int) pe_int))) pe_int)))), ?_⟩
  walk_at "rd"
  exact q
def sp_symbol_of : Sp := fun vs H Q _ => ∃ (p : Nat) (a b : Int), vs = [.int p, .int a, .int b] ∧ p ∈ primesN ∧ okA a ∧ okA b ∧ a ≠ 0 ∧ b ≠ 0 ∧ ∀ H2, Evl.Ex H H2 → Q (.int (if sg p a b = true then -1 else 1)) H2
theorem ok_symbol_of (T : Txt P K mg A) : FnOk P w K mg base CX0 4 A.a_symbol_of A.d_symbol_of ["p", "a", "b"] sp_symbol_of := by
  refine T.F_symbol_of.ok sc_symbol_of (fun vs H Q E h => ?_) (fun cdv Ar outer s H vs Q E hr h => ?_)
  · obtain ⟨_, _, _, rfl, _⟩ := h; rfl
  have nd := sc_symbol_of.nd
  obtain ⟨p, a, b, rfl, hp, ha, hb, ha0, hb0, q⟩ := h
  obtain ⟨_, h2, h9⟩ := of_pr hp
  have bnd : ∀ c : Int, okA c → c ≠ 0 → vI p c < 1000 ∧ okA (un p c) := fun c hc hc0 => by
    obtain ⟨c1, c2⟩ := hc
    have h1 := vI_lt h2 hc0 (k := 40) (by have : (2 : Nat) ^ 40 = 1099511627776 := by decide
                                          omega)
    have h3 := un_le h2 hc0
    exact ⟨by omega, by constructor <;> omega⟩
  obtain ⟨a1, a2⟩ := bnd a ha ha0
  obtain ⟨b1, b2⟩ := bnd b hb hb0
  refine ⟨_, (pss_cons (ps_asg (pe_call (ok_parted T) (hr.mono (by decide)) (by rfl) T.g_parted T.k_parted T.b_parted .nil pass0 (pa_cons (pv 0) (pa_cons (pv 1) pa_nil))) (pg_tup rfl (pgs_cons (pg_name (i := 3) nd rfl (Or.inl rfl)) (pgs_cons (pg_name (i := 4) nd rfl (Or.inl rfl)) pgs_nil))))
    (pss_cons (ps_asg (pe_call (ok_parted T) (hr.mono (by decide)) (by rfl) T.g_parted T.k_parted T.b_parted .nil pass0 (pa_cons (pv 0) (pa_cons (pv 2) pa_nil))) (pg_tup rfl (pgs_cons (pg_name (i := 5) nd rfl (Or.inl rfl)) (pgs_cons (pg_name (i := 6) nd rfl (Or.inl rfl)) pgs_nil))))
    (pss_cons (ps_if (pt_cmpR op_eq (pv 0) pe_int (nomark _)) (pss_one (ps_ret (pe_op op_sub pe_int (pe_op op_mul pe_int (pe_call (ok_even_sign T) (hr.mono (by decide)) (by rfl) T.g_even_sign T.k_even_sign T.b_even_sign .nil pass0 (pa_cons (pv 3) (pa_cons (pv 4) (pa_cons (pv 5) (pa_cons (pv 6) pa_nil))))))))) pss_nil)
    (pss_one (ps_ret (pe_op op_sub pe_int (pe_op op_mul pe_int (pe_call (ok_odd_sign T) (hr.mono (by decide)) (by rfl) T.g_odd_sign T.k_odd_sign T.b_odd_sign .nil pass0 (pa_cons (pv 0) (pa_cons (pv 3) (pa_cons (pv 4) (pa_cons (pv 5) (pa_cons (pv 6) pa_nil))))))))))))), ?_⟩
  walk_at "rd"
  refine ⟨p, a, rfl, h2, h9, ha0, fun t ht => ?_⟩
  refine KR.gtup2 (.inl (.inl upd_same)) rfl ?_
  walk_at "rd"
  refine ⟨p, b, rfl, h2, h9, hb0, fun t2 ht2 => ?_⟩
  refine KR.gtup2 (.inl (.inl upd_same)) rfl ?_
  walk_at "rd"
  have nu := (form h2 ha0).2
  have nw := (form h2 hb0).2
  have eH := (Evl.Ex.new (o := .tup [.int (vI p a : Nat), .int (un p a)]) ht).trans (Evl.Ex.new (o := .tup [.int (vI p b : Nat), .int (un p b)]) ht2)
  have q2 := q _ eH
  unfold sg at q2
  refine KR.iteD (fun c => ?_) (fun c => ?_)
  · obtain rfl : p = 2 := by omega
    walk_at "rd"
    refine ⟨vI 2 a, vI 2 b, un 2 a, un 2 b, rfl, a1, b1, a2, b2, nu, nw, ?_⟩
    walk_at "rd"
    cases z : sgB 2 (vI 2 a) (un 2 a) (vI 2 b) (un 2 b) with
    | true => rw [z] at q2; exact q2
    | false => rw [z] at q2; exact q2
  · walk_at "rd"
    refine ⟨p, vI p a, vI p b, un p a, un p b, rfl, hp, by omega, a1, b1, ?_⟩
    walk_at "rd"
    cases z : sgB p (vI p a) (un p a) (vI p b) (un p b) with
    | true => rw [z] at q2; exact q2
    | false => rw [z] at q2; exact q2
def sp_symbol (A : Ad) : Sp := fun vs H Q E => ∃ p a b : Int, vs = [.int p, .int a, .int b] ∧ (p ∉ primesL → errD A.a_PrimeError E H p) ∧ (p ∈ primesL → (¬ okA a → errD A.a_RangeError E H a) ∧ (okA a → (¬ okA b → errD A.a_RangeError E H b) ∧ (okA b →
  ((a = 0 ∨ b = 0) → E (.ref A.a_ZeroError) none H) ∧ (a ≠ 0 → b ≠ 0 → ∀ H2, Evl.Ex H H2 → Q (.int (if sg p.toNat a b = true then -1 else 1)) H2))))
theorem ok_symbol (T : Txt P K mg A) : FnOk P w K mg base (L2N.CX P w) 5 A.a_symbol A.d_symbol ["p", "a", "b"] (sp_symbol A) := by
  refine T.F_symbol.okN sc_symbol (fun vs H Q E h => ?_) (fun cdv Ar outer s H vs Q E hr h => ?_)
  · obtain ⟨_, _, _, rfl, _⟩ := h; rfl
  have nd := sc_symbol.nd
  obtain ⟨p, a, b, rfl, e1, h⟩ := h
  refine ⟨_, (pss_cons (ps_expr (pe_call (ok_look_numbers T) (hr.mono (by decide)) (by rfl) T.g_look_numbers T.k_look_numbers T.b_look_numbers .nil (L2N.passes_call (L2N.takes_of rfl rfl rfl rfl) (fun _ _ _ _ h => h)) (pa_cons (pv 0) (pa_cons (pv 1) (pa_cons (pv 2) pa_nil)))))
    (pss_cons (ps_expr (pe_call (ok_look_zeros T) (hr.mono (by decide)) (by rfl) T.g_look_zeros T.k_look_zeros T.b_look_zeros .nil (L2N.passes_call (L2N.takes_of rfl rfl rfl rfl) (fun _ _ _ _ h => h)) (pa_cons (pv 1) (pa_cons (pv 2) pa_nil))))
    (pss_one (ps_ret (pe_call (ok_symbol_of T) (hr.mono (by decide)) (by rfl) T.g_symbol_of T.k_symbol_of T.b_symbol_of .nil pass0 (pa_cons (pv 0) (pa_cons (pv 1) (pa_cons (pv 2) pa_nil)))))))), ?_⟩
  walk_at "rd"
  refine ⟨p, a, b, rfl, e1, fun hp => ⟨(h hp).1, fun ha => ⟨((h hp).2 ha).1, fun hb => ?_⟩⟩⟩
  obtain ⟨e4, q⟩ := ((h hp).2 ha).2 hb
  walk_at "rd"
  refine ⟨a, b, rfl, e4, fun ha0 hb0 => ?_⟩
  obtain ⟨p', rfl, hp', _, _⟩ := pr_of hp
  walk_at "rd"
  exact ⟨p', a, b, rfl, hp', ha, hb, ha0, hb0, fun H2 e2 => q ha0 hb0 H2 e2⟩
end
end K9
namespace K9
open PySem PySem.Spec PyProof.Rows L2 K7
local macro_rules | `(tactic| walk_at "rc") => `(tactic| first
  | assumption
  | (show (0 : Int) < _; omega)
  | (show (0 : Int) < _ ∧ _ < (1073741824 : Int); exact ⟨by omega, by omega⟩)
  | (show (-(2 ^ 64 : Int) < _ ∧ _ < (2 ^ 64 : Int)) ∨ _; exact .inl ⟨by omega, by omega⟩)
  | (show _ ∨ (-(2 ^ 64 : Int) < _ ∧ _ < (2 ^ 64 : Int)); exact .inr ⟨by omega, by omega⟩)
  | (show (0 : Int) ≤ _ ∧ _ ≤ (1000000 : Int) ∧ _ < 2 ^ 64; exact ⟨by decide, by decide, by decide⟩))
local macro_rules | `(tactic| walk_at "rd") => `(tactic| repeat (first
  | with_reducible apply KR.seq
  | with_reducible apply KR.asg
  | with_reducible apply KR.drop
  | with_reducible apply KR.ret
  | with_reducible apply KR.retN
  | with_reducible apply KR.next
  | with_reducible apply KR.ifs
  | with_reducible refine KR.var rfl ?_
  | with_reducible refine L2.iteT ?_
  | with_reducible refine L2.iteF ?_
  | with_reducible refine KR.iteNF ?_
  | with_reducible refine KR.iteNT ?_
  | with_reducible apply KR.con
  | with_reducible apply KR.op
  | with_reducible apply KR.opI0
  | ((with_reducible refine KR.opI ?rc ?_); (case rc => walk_at "rc"))
  | with_reducible apply KR.un
  | with_reducible apply KR.unI
  | with_reducible apply KR.eqI
  | with_reducible apply KR.neI
  | with_reducible apply KR.test
  | with_reducible apply KR.tb'
  | with_reducible apply KR.exbl
  | with_reducible apply KR.and'
  | with_reducible apply KR.or'
  | with_reducible apply KR.not'
  | with_reducible apply KR.chain
  | with_reducible apply KR.call
  | with_reducible apply KR.callS
  | with_reducible apply KR.make
  | with_reducible apply KR.bm
  | with_reducible apply KR.errF
  | with_reducible apply KR.cons
  | with_reducible apply KR.nil
  | with_reducible apply KR.cb
  | with_reducible apply KR.cInt1
  | with_reducible apply KR.cI1
  | with_reducible apply KR.cI2
  | with_reducible apply KR.isi_ii
  | with_reducible apply KR.isi_ib
  | with_reducible apply KR.bits
  | with_reducible apply KR.exint
  | with_reducible apply KR.ifx
  | with_reducible refine KR.aug rfl ?_
  | with_reducible apply KR.ipI
  | with_reducible apply KR.for'
  | with_reducible apply KR.rng1
  | with_reducible apply KR.rng2
  | with_reducible apply KR.ilist
  | with_reducible apply KR.itup
  | with_reducible apply KR.tup
  | with_reducible apply KR.lst
  | with_reducible apply KR.andV
  | with_reducible apply KR.orV
  | with_reducible apply KR.notV
  | with_reducible apply KR.asgG
  | with_reducible apply KR.sub
  | with_reducible apply KR.fld
  | with_reducible apply KR.prop
  | with_reducible apply KR.meth
  | with_reducible apply KR.par
  | with_reducible apply KR.parN
  | with_reducible apply KR.raise1
  | with_reducible apply KR.raise0
  | with_reducible apply KR.exv
  | with_reducible apply KR.lc
  | with_reducible apply KR.ienT
  | with_reducible apply KR.sfld
  | with_reducible apply KR.sl
  | with_reducible apply KR.part
  | with_reducible apply KR.nopart
  | with_reducible apply KR.isNo
  | with_reducible refine KR.nnT ?_
  | with_reducible refine KR.niF ?_
  | with_reducible refine KR.nrF ?_
  | with_reducible refine KR.mnT ?_
  | with_reducible refine KR.miF ?_
  | with_reducible refine KR.mrF ?_))
def Parts (H : Hp) (L : Addr) (ps : List (Addr × Nat)) : Prop := H L = some (.lst (ps.map fun x => V.ref x.1)) ∧ ∀ x ∈ ps, ∃ e : Int, H x.1 = some (.tup [.int (x.2 : Nat), .int e])
theorem Parts.ex {H H' : Hp} {L : Addr} {ps : List (Addr × Nat)} (h : Parts H L ps) (e : Evl.Ex H H') : Parts H' L ps := ⟨e _ _ h.1, fun x hx => by
  obtain ⟨z, hz⟩ := h.2 x hx
  exact ⟨z, e _ _ hz⟩⟩
theorem Parts.add {H : Hp} {L t : Addr} {ps : List (Addr × Nat)} {q : Nat} {e : Int} (h : Parts H L ps) (ht : H t = none) : Parts (upd (upd H t (.tup [.int (q : Nat), .int e])) L (.lst ((ps.map fun x => V.ref x.1) ++ [.ref t]))) L (ps ++ [(t, q)]) := by
  have htL : t ≠ L := fun z => by rw [z, h.1] at ht; cases ht
  refine ⟨by rw [upd_same, List.map_append]; rfl, fun x hx => ?_⟩
  rcases List.mem_append.mp hx with hx | hx
  · obtain ⟨z, hz⟩ := h.2 x hx
    have h1 : x.1 ≠ L := fun y => by rw [y, h.1] at hz; cases hz
    exact ⟨z, by rw [upd_ne h1, upd_ne (ne_of_none hz ht)]; exact hz⟩
  · rw [List.mem_singleton.mp hx]
    exact ⟨e, by rw [upd_ne htL, upd_same]⟩
section
variable {P : Program} {w : World} {K : PySem.W.Frag} {mg : Str → Option Value} {base : Heap} {A : Ad}
def sp_prime_parts : Sp := fun vs H Q _ => ∃ n : Nat, vs = [.int n] ∧ 1 ≤ n ∧ n ≤ 1000000000 ∧
  ∀ L ps H2, Evl.Ex H H2 → H L = none → Parts H2 L ps → (∀ x ∈ ps, Pr x.2 ∧ x.2 ∣ n) → (∀ q, Pr q → q ∣ n → ∃ x ∈ ps, x.2 = q) → 2 ^ ps.length ≤ n → Q (.ref L) H2
theorem ok_prime_parts (T : Txt P K mg A) : FnOk P w K mg base (L2N.CX P w) 2 A.a_prime_parts A.d_prime_parts ["number"] sp_prime_parts := by
  refine T.F_prime_parts.okN sc_prime_parts (fun vs H Q E h => ?_) (fun cdv Ar outer s H vs Q E hr h => ?_)
  · obtain ⟨_, rfl, _⟩ := h; rfl
  have nd := sc_prime_parts.nd
  obtain ⟨n, rfl, h1, h9, q⟩ := h
  refine ⟨_, (pss_cons (ps_if (pt_not (pt_chain op_le op_le pe_int (pv 0) (KR.pe_gI (by rfl) T.c_MOST_PARTED))) (pss_one (ps_raise1 rfl T.e_RangeError PySem.KX.fld_number hr (L2N.takes_of rfl rfl rfl rfl) (pa_cons (pv 0) pa_nil) (by rfl))) pss_nil)
    (pss_cons (ps_set (i := 1) nd rfl (.inl rfl) (pe_lst pa_nil))
    (pss_cons (ps_set (i := 2) nd rfl (.inl rfl) (pv 0))
    (pss_cons (ps_set (i := 3) nd rfl (.inl rfl) pe_int)
    (pss_cons (ps_while (passes_of rfl) (pt_cmpR op_le (pe_op op_mul (pv 3) (pv 3)) (pv 2) (nomark _)) (pss_cons (ps_set (i := 4) nd rfl (.inl rfl) pe_int)
    (pss_cons (ps_while (passes_of rfl) (pt_cmpR op_eq (pe_op op_mod (pv 2) (pv 3)) pe_int (nomark _)) (pss_cons (ps_set (i := 2) nd rfl (.inl rfl) (pe_op op_fdiv (pv 2) (pv 3)))
    (pss_one (ps_aug (i := 4) nd rfl (.inl rfl) pe_int ip_add))))
    (Evl.pss_cut (ps_if (pt_cmpR op_gt (pv 4) pe_int (nomark _)) (pss_one (ps_expr (pe_bm PySem.F.plainAttrs_list PySem.F.slot_list_append PySem.F.type_list_append mt_append (pv 1) (pa_cons (pe_tup (pa_cons (pv 3) (pa_cons (pv 4) pa_nil))) pa_nil)))) pss_nil)
    (pss_one (ps_aug (i := 3) nd rfl (.inl rfl) (pe_ifExp (pt_cmpR op_eq (pv 3) pe_int (nomark _)) pe_int pe_int) ip_add))))))
    (Evl.pss_cut (ps_if (pt_cmpR op_gt (pv 2) pe_int (nomark _)) (pss_one (ps_expr (pe_bm PySem.F.plainAttrs_list PySem.F.slot_list_append PySem.F.type_list_append mt_append (pv 1) (pa_cons (pe_tup (pa_cons (pv 2) (pa_cons pe_int pa_nil))) pa_nil)))) pss_nil)
    (pss_one (ps_ret (pv 1))))))))), ?_⟩
  walk_at "rd"
  refine KR.iteDT (by omega) ?_
  walk_at "rd"
  refine KR.iteND (fun z => absurd (by omega) z) (fun _ => ?_)
  walk_at "rd"
  refine ⟨Nat.zero_le _, fun L hL => ?_⟩
  walk_at "rd"
  refine KR.whl (fun m σ' H' => ∃ (d r : Nat) (ps : List (Addr × Nat)) (z : Option V), m = n + 3 - d ∧ Evl.Ex H H' ∧ Parts H' L ps ∧ 2 ≤ d ∧ d ≤ 40000 ∧ (d = 2 ∨ d % 2 = 1) ∧ 1 ≤ r ∧ r ∣ n ∧ Low d r ∧ (∀ x ∈ ps, Pr x.2 ∧ x.2 ∣ n) ∧ (∀ q, Pr q → q ∣ n → (∃ x ∈ ps, x.2 = q) ∨ q ∣ r) ∧ 2 ^ ps.length * r ≤ n ∧
      σ' = [some (.int n), some (.ref L), some (.int r), some (.int d), z]) (n + 1)
    ⟨2, n, [], none, rfl, Evl.Ex.new hL, ⟨upd_same, fun x hx => nomatch hx⟩, by decide, by decide, .inl rfl, h1, Nat.dvd_refl n, fun q hq _ => hq.two, (fun x hx => nomatch hx), fun q _ hd => .inr hd, (by show 1 * n ≤ n; omega), rfl⟩ ?_
  rintro m σ' H1 ⟨d, r, ps, z, rfl, e1, hP, hd2, hd4, hodd, hr1, hrn, hlow, hps, hall, hlen, rfl⟩
  have hrn9 : r ≤ n := Nat.le_of_dvd (by omega) hrn
  walk_at "rd"
  refine KR.iteD (fun hdr => KR.turn ?_) (fun hdr => ?_)
  · have hdr' : d * d ≤ r := by
      have : ((d * d : Nat) : Int) ≤ (r : Int) := hdr
      omega
    have hdd : d ≤ 31623 := by
      refine Decidable.by_contra fun c => ?_
      have : 31624 * 31624 ≤ d * d := Nat.mul_le_mul (by omega) (by omega)
      omega
    have hdn : d ≤ n := by
      have : d * 1 ≤ d * d := Nat.mul_le_mul_left d (by omega)
      omega
    walk_at "rd"
    refine KR.whl (fun m σ' H' => ∃ e r' : Nat, m = r' ∧ H' = H1 ∧ r = d ^ e * r' ∧ 1 ≤ r' ∧ σ' = [some (.int n), some (.ref L), some (.int r'), some (.int d), some (.int e)]) r ⟨0, r, rfl, rfl, by rw [Nat.pow_zero, Nat.one_mul], hr1, rfl⟩ ?_
    rintro r' σ' H2 ⟨e, _, rfl, rfl, her, hr1', rfl⟩
    walk_at "rd"
    refine KR.iteD (fun hdv => KR.turn ?_) (fun hdv => ?_)
    · have hdv' : r' % d = 0 := by omega
      have hr2 : r' = d * (r' / d) := (Nat.mul_div_cancel' (Nat.dvd_of_mod_eq_zero hdv')).symm
      have hr3 : 1 ≤ r' / d := by
        rcases Nat.eq_zero_or_pos (r' / d) with z | z
        · rw [z] at hr2; omega
        · exact z
      walk_at "rd"
      exact ⟨r' / d, Nat.div_lt_self (by omega) (by omega), e + 1, r' / d, rfl, rfl, by rw [Nat.pow_succ, Nat.mul_assoc, ← hr2]; exact her, hr3, rfl⟩
    · have hdv' : ¬ d ∣ r' := fun z => hdv (by have := Nat.mod_eq_zero_of_dvd z; omega)
      have hrr : r' ∣ r := ⟨d ^ e, by rw [her, Nat.mul_comm]⟩
      refine KR.cut (Mid := fun σ' H' => ∃ ps' : List (Addr × Nat), Evl.Ex H H' ∧ Parts H' L ps' ∧ (∀ x ∈ ps', Pr x.2 ∧ x.2 ∣ n) ∧ (∀ q, Pr q → q ∣ n → (∃ x ∈ ps', x.2 = q) ∨ q ∣ r') ∧ 2 ^ ps'.length * r' ≤ n ∧
          σ' = [some (.int n), some (.ref L), some (.int r'), some (.int d), some (.int e)]) ?_ ?_
      · walk_at "rd"
        refine KR.iteD (fun he => ?_) (fun he => ?_)
        · have hdr2 : d ∣ r := ⟨d ^ (e - 1) * r', by rw [her, ← Nat.mul_assoc, Nat.mul_comm d, ← Nat.pow_succ]; congr 2; omega⟩
          have hdp := low_pr hd2 hlow hdr2
          have h2e : 2 * r' ≤ r := by
            have h1 : d ^ 1 ≤ d ^ e := Nat.pow_le_pow_right (by omega) (by omega)
            rw [Nat.pow_one] at h1
            have h2 := Nat.mul_le_mul_right r' (show 2 ≤ d ^ e by omega)
            omega
          have hpl : ps.length < 40 := by
            refine Decidable.by_contra fun c => ?_
            have h3 : (2 : Nat) ^ 40 ≤ 2 ^ ps.length := Nat.pow_le_pow_right (by decide) (by omega)
            have h4 : 2 ^ ps.length * 1 ≤ 2 ^ ps.length * r := Nat.mul_le_mul_left _ hr1
            have h5 : (2 : Nat) ^ 40 = 1099511627776 := by decide
            omega
          walk_at "rd"
          refine ⟨.inl ⟨rfl, _, .inl (.inl hP.1)⟩, ?_⟩
          walk_at "rd"
          refine ⟨by show (2 : Nat) ≤ sizeLine; decide, fun t ht => ?_⟩
          walk_at "rd"
          refine ⟨L, _, _, rfl, rfl, Evl.Ex.new ht _ _ hP.1, by rw [List.length_map, sizeLine_eq]; omega, ?_⟩
          have hP2 := hP.add (q := d) (e := (e : Int)) ht
          refine ⟨ps ++ [(t, d)], Evl.Ex.mut (e1.trans (Evl.Ex.new ht)) hL, hP2, fun x hx => ?_, fun q hq hqn => ?_, ?_, rfl⟩
          · rcases List.mem_append.mp hx with hx | hx
            · exact hps x hx
            · rw [List.mem_singleton.mp hx]
              exact ⟨hdp, Nat.dvd_trans hdr2 hrn⟩
          · rcases hall q hq hqn with ⟨x, hx, hxq⟩ | hqr
            · exact .inl ⟨x, List.mem_append_left _ hx, hxq⟩
            · rw [her] at hqr
              rcases hq.mul hqr with z | z
              · have := Pr.eq hq hdp (Pr.dvd_pow hq z)
                exact .inl ⟨(t, d), List.mem_append_right _ List.mem_cons_self, this.symm⟩
              · exact .inr z
          · rw [List.length_append, List.length_singleton, Nat.pow_succ, Nat.mul_assoc]
            have := Nat.mul_le_mul_left (2 ^ ps.length) h2e
            omega
        · walk_at "rd"
          have he0 : e = 0 := by omega
          have hrr' : r = r' := by rw [her, he0, Nat.pow_zero, Nat.one_mul]
          exact ⟨ps, e1, hP, hps, fun q hq hqn => by rw [← hrr']; exact hall q hq hqn, by rw [← hrr']; exact hlen, rfl⟩
      rintro σ' H3 ⟨ps', e3, hP3, hps3, hall3, hlen3, rfl⟩
      have hlow' : Low d r' := fun q hq hqr => hlow q hq (Nat.dvd_trans hqr hrr)
      have hnx := low_next hd2 hodd hlow' hdv'
      walk_at "rd"
      refine KR.iteD (fun c2 => ?_) (fun c2 => ?_)
      · rw [if_pos (show d = 2 by omega)] at hnx
        walk_at "rd"
        exact ⟨n + 3 - (d + 1), by omega, d + 1, r', ps', _, rfl, e3, hP3, by omega, by omega, by omega, hr1', Nat.dvd_trans hrr hrn, hnx, hps3, hall3, hlen3, rfl⟩
      · rw [if_neg (show ¬ d = 2 by omega)] at hnx
        walk_at "rd"
        exact ⟨n + 3 - (d + 2), by omega, d + 2, r', ps', _, rfl, e3, hP3, by omega, by omega, by omega, hr1', Nat.dvd_trans hrr hrn, hnx, hps3, hall3, hlen3, rfl⟩
  · have hdr' : r < d * d := by
      have : ¬ ((d * d : Nat) : Int) ≤ (r : Int) := hdr
      omega
    have hpl : ps.length < 39 := by
      refine Decidable.by_contra fun c => ?_
      have h3 : (2 : Nat) ^ 39 ≤ 2 ^ ps.length := Nat.pow_le_pow_right (by decide) (by omega)
      have h4 : 2 ^ ps.length * 1 ≤ 2 ^ ps.length * r := Nat.mul_le_mul_left _ hr1
      have h5 : (2 : Nat) ^ 39 = 549755813888 := by decide
      omega
    refine KR.cut (Mid := fun σ' H' => ∃ (ps' : List (Addr × Nat)) (z1 z2 z3 : Option V), Evl.Ex H H' ∧ Parts H' L ps' ∧ (∀ x ∈ ps', Pr x.2 ∧ x.2 ∣ n) ∧ (∀ q, Pr q → q ∣ n → (∃ x ∈ ps', x.2 = q)) ∧ 2 ^ ps'.length ≤ n ∧ σ' = [some (.int n), some (.ref L), z1, z2, z3]) ?_ ?_
    · walk_at "rd"
      refine KR.iteD (fun hr => ?_) (fun hr => ?_)
      · have hrp := low_end (by omega) hlow hdr'
        walk_at "rd"
        refine ⟨.inl ⟨rfl, _, .inl (.inl hP.1)⟩, ?_⟩
        walk_at "rd"
        refine ⟨by show (2 : Nat) ≤ sizeLine; decide, fun t ht => ?_⟩
        walk_at "rd"
        refine ⟨L, _, _, rfl, rfl, Evl.Ex.new ht _ _ hP.1, by rw [List.length_map, sizeLine_eq]; omega, ?_⟩
        have hP2 := hP.add (q := r) (e := 1) ht
        refine ⟨ps ++ [(t, r)], _, _, _, Evl.Ex.mut (e1.trans (Evl.Ex.new ht)) hL, hP2, fun x hx => ?_, fun q hq hqn => ?_, ?_, rfl⟩
        · rcases List.mem_append.mp hx with hx | hx
          · exact hps x hx
          · rw [List.mem_singleton.mp hx]
            exact ⟨hrp, hrn⟩
        · rcases hall q hq hqn with ⟨x, hx, hxq⟩ | hqr
          · exact ⟨x, List.mem_append_left _ hx, hxq⟩
          · exact ⟨(t, r), List.mem_append_right _ List.mem_cons_self, (Pr.eq hq hrp hqr).symm⟩
        · rw [List.length_append, List.length_singleton, Nat.pow_succ]
          have := Nat.mul_le_mul_left (2 ^ ps.length) (show 2 ≤ r by omega)
          omega
      · walk_at "rd"
        have hr0 : r = 1 := by omega
        exact ⟨ps, _, _, _, e1, hP, hps, fun q hq hqn => (hall q hq hqn).resolve_right fun z => by
          rw [hr0] at z
          have := Nat.le_of_dvd (by decide) z
          have := hq.two
          omega, by rw [hr0, Nat.mul_one] at hlen; exact hlen, rfl⟩
    rintro σ' H3 ⟨ps', z1, z2, z3, e3, hP3, hps3, hall3, hl3, rfl⟩
    walk_at "rd"
    exact q L ps' H3 e3 hL hP3 hps3 hall3 hl3
end
end K9
namespace K9
open PySem PySem.Spec PyProof.Rows L2 K7
local macro_rules | `(tactic| walk_at "rc") => `(tactic| first
  | assumption
  | (show (0 : Int) < _; omega)
  | (show (0 : Int) < _ ∧ _ < (1073741824 : Int); exact ⟨by omega, by omega⟩)
  | (show (-(2 ^ 64 : Int) < _ ∧ _ < (2 ^ 64 : Int)) ∨ _; exact .inl ⟨by omega, by omega⟩)
  | (show _ ∨ (-(2 ^ 64 : Int) < _ ∧ _ < (2 ^ 64 : Int)); exact .inr ⟨by omega, by omega⟩)
  | (show (0 : Int) ≤ _ ∧ _ ≤ (1000000 : Int) ∧ _ < 2 ^ 64; exact ⟨by decide, by decide, by decide⟩))
local macro_rules | `(tactic| walk_at "rd") => `(tactic| repeat (first
  | with_reducible apply KR.seq
  | with_reducible apply KR.asg
  | with_reducible apply KR.drop
  | with_reducible apply KR.ret
  | with_reducible apply KR.retN
  | with_reducible apply KR.next
  | with_reducible apply KR.ifs
  | with_reducible refine KR.var rfl ?_
  | with_reducible refine L2.iteT ?_
  | with_reducible refine L2.iteF ?_
  | with_reducible refine KR.iteNF ?_
  | with_reducible refine KR.iteNT ?_
  | with_reducible apply KR.con
  | with_reducible apply KR.op
  | with_reducible apply KR.opI0
  | ((with_reducible refine KR.opI ?rc ?_); (case rc => walk_at "rc"))
  | with_reducible apply KR.un
  | with_reducible apply KR.unI
  | with_reducible apply KR.eqI
  | with_reducible apply KR.neI
  | with_reducible apply KR.test
  | with_reducible apply KR.tb'
  | with_reducible apply KR.exbl
  | with_reducible apply KR.and'
  | with_reducible apply KR.or'
  | with_reducible apply KR.not'
  | with_reducible apply KR.chain
  | with_reducible apply KR.call
  | with_reducible apply KR.callS
  | with_reducible apply KR.make
  | with_reducible apply KR.bm
  | with_reducible apply KR.errF
  | with_reducible apply KR.cons
  | with_reducible apply KR.nil
  | with_reducible apply KR.cb
  | with_reducible apply KR.cInt1
  | with_reducible apply KR.cI1
  | with_reducible apply KR.cI2
  | with_reducible apply KR.isi_ii
  | with_reducible apply KR.isi_ib
  | with_reducible apply KR.bits
  | with_reducible apply KR.exint
  | with_reducible apply KR.ifx
  | with_reducible refine KR.aug rfl ?_
  | with_reducible apply KR.ipI
  | with_reducible apply KR.for'
  | with_reducible apply KR.rng1
  | with_reducible apply KR.rng2
  | with_reducible apply KR.ilist
  | with_reducible apply KR.itup
  | with_reducible apply KR.tup
  | with_reducible apply KR.lst
  | with_reducible apply KR.andV
  | with_reducible apply KR.orV
  | with_reducible apply KR.notV
  | with_reducible apply KR.asgG
  | with_reducible apply KR.sub
  | with_reducible apply KR.fld
  | with_reducible apply KR.prop
  | with_reducible apply KR.meth
  | with_reducible apply KR.par
  | with_reducible apply KR.parN
  | with_reducible apply KR.raise1
  | with_reducible apply KR.raise0
  | with_reducible apply KR.exv
  | with_reducible apply KR.lc
  | with_reducible apply KR.ienT
  | with_reducible apply KR.sfld
  | with_reducible apply KR.sl
  | with_reducible apply KR.part
  | with_reducible apply KR.nopart
  | with_reducible apply KR.isNo
  | with_reducible refine KR.nnT ?_
  | with_reducible refine KR.niF ?_
  | with_reducible refine KR.nrF ?_
  | with_reducible refine KR.mnT ?_
  | with_reducible refine KR.miF ?_
  | with_reducible refine KR.mrF ?_))
def okL (n : Int) : Prop := -1000000000 ≤ n ∧ n ≤ 1000000000
def Div2 (a b x : Int) : Prop := ∃ q : Nat, x = q ∧ Pr q ∧ (q ∣ a.natAbs ∨ q ∣ b.natAbs)
def ExB (a : Addr) (H H2 : Hp) : Prop := ∀ b o, b ≠ a → H b = some o → H2 b = some o
theorem ExB.refl (a : Addr) (H : Hp) : ExB a H H := fun _ _ _ e => e
theorem ExB.trans {a : Addr} {H H1 H2 : Hp} (h : ExB a H H1) (k : ExB a H1 H2) : ExB a H H2 := fun b o n e => k b o n (h b o n e)
theorem ExB.of {a : Addr} {H H2 : Hp} (e : Evl.Ex H H2) : ExB a H H2 := fun b o _ q => e b o q
theorem ExB.upd {a : Addr} {H : Hp} {o : HO} : ExB a H (L2.upd H a o) := fun b o' n e => by rw [upd_ne n]; exact e
section
variable {P : Program} {w : World} {K : PySem.W.Frag} {mg : Str → Option Value} {base : Heap} {A : Ad}
def sp_primes_of (A : Ad) (K : PySem.W.Frag) : Sp := fun vs H Q E => ∃ (N : Addr) (a b : Int), vs = [.ref N, .int 97] ∧ H N = some (.lst [.int a, .int b]) ∧ okL a ∧ okL b ∧ ((a = 0 ∨ b = 0) → E (.ref A.a_ZeroError) none H) ∧ (a ≠ 0 → b ≠ 0 →
  (∀ f, Div2 a b f → 97 < f → (∀ g, Div2 a b g → 97 < g → f ≤ g) → ∀ H2, Evl.Ex H H2 → errD A.a_PrimeError E H2 f) ∧
  ((∀ f, Div2 a b f → f ≤ 97) → ∀ (L : Addr) (fs : List Int) H2, Evl.Ex H H2 → H2 L = some (.lst (fs.map V.int)) → fs.Pairwise (· < ·) → (∀ x, x ∈ fs ↔ Div2 a b x) → fs.length < 64 → Q (.ref L) H2))
theorem ok_primes_of (T : Txt P K mg A) : FnOk P w K mg base (L2N.CX P w) 3 A.a_primes_of A.d_primes_of ["numbers", "most"] (sp_primes_of A K) := by
  refine T.F_primes_of.okN sc_primes_of (fun vs H Q E h => ?_) (fun cdv Ar outer s H vs Q E hr h => ?_)
  · obtain ⟨_, _, _, rfl, _⟩ := h; rfl
  have nd := sc_primes_of.nd
  obtain ⟨N, a, b, rfl, hN, ⟨ha1, ha2⟩, ⟨hb1, hb2⟩, e0, h⟩ := h
  refine ⟨_, (pss_cons (ps_if (pt_cmpR op_in_seq pe_int (pv 0) (by rfl)) (pss_one (ps_raise0 rfl T.e_ZeroError hr (L2N.takes_of rfl rfl rfl rfl) (by rfl))) pss_nil)
    (pss_cons (ps_set (i := 2) nd rfl (.inl rfl) (pe_lst pa_nil))
    (pss_cons (ps_for (passes_of rfl) rfl (pi_list (pv 0)) (pg_name (i := 3) nd rfl (Or.inl rfl)) (pss_one (ps_for (passes_of rfl) rfl (pi_list (pe_call (ok_prime_parts T) (hr.mono (by decide)) (by rfl) T.g_prime_parts T.k_prime_parts T.b_prime_parts .nil (L2N.passes_call (L2N.takes_of rfl rfl rfl rfl) (fun _ _ _ _ h => h)) (pa_cons (pe_callB call_abs (by rfl) T.n_abs (by decide +kernel) (pa_cons (pv 3) pa_nil)) pa_nil))) (pg_name (i := 4) nd rfl (Or.inl rfl)) (pss_one (ps_if (pt_cmpR op_notIn_seq (pe_ix ix_tup (pv 4) pe_int (fun _ _ => rfl)) (pv 2) (by rfl)) (pss_one (ps_expr (pe_bm PySem.F.plainAttrs_list PySem.F.slot_list_append PySem.F.type_list_append mt_append (pv 2) (pa_cons (pe_ix ix_tup (pv 4) pe_int (fun _ _ => rfl)) pa_nil)))) pss_nil)))))
    (pss_cons (ps_set (i := 2) nd rfl (.inl rfl) (pe_callB cr_sorted (by rfl) T.n_sorted (by decide +kernel) (pa_cons (pv 2) pa_nil)))
    (pss_cons (ps_for (passes_of rfl) rfl (pi_list (pv 2)) (pg_name (i := 5) nd rfl (Or.inl rfl)) (pss_one (ps_if (pt_cmpR op_gt (pv 5) (pv 1) (nomark _)) (pss_one (ps_raise1 rfl T.e_PrimeError PySem.KX.fld_number hr (L2N.takes_of rfl rfl rfl rfl) (pa_cons (pv 5) pa_nil) (by rfl))) pss_nil)))
    (pss_one (ps_ret (pv 2)))))))), ?_⟩
  walk_at "rd"
  refine ⟨N, ([a, b] : List Int).map V.int, rfl, .inl (.inl (.inl hN)), rfl, flat_ints _, ?_⟩
  rw [inV_int]
  walk_at "rd"
  refine KR.iteD (fun hz => ?_) (fun hz => ?_)
  · walk_at "rd"
    refine e0 ?_
    simp only [List.mem_cons, List.not_mem_nil, or_false] at hz
    exact hz.imp Eq.symm Eq.symm
  have ha0 : a ≠ 0 := fun z => hz (by rw [z]; exact List.mem_cons_self)
  have hb0 : b ≠ 0 := fun z => hz (by rw [z]; exact List.mem_cons_of_mem _ List.mem_cons_self)
  obtain ⟨eP, q⟩ := h ha0 hb0
  walk_at "rd"
  refine ⟨Nat.zero_le _, fun F hF => ?_⟩
  generalize hG : upd H F _ = H1
  have x1 : Evl.Ex H H1 := by rw [← hG]; exact Evl.Ex.new hF
  have lF : H1 F = some (.lst (([] : List Int).map V.int)) := by rw [← hG]; exact upd_same
  have hNF : N ≠ F := ne_of_none hN hF
  clear hG
  walk_at "rd"
  refine KR.ilistN (xs := ([a, b] : List Int).map V.int) (.inl (.inl (x1 _ _ hN))) (KR.fwL (xs := ([a, b] : List Int).map V.int) (fun i σ' H' => ∃ (fs : List Int) (z3 z4 : Option V), H' F = some (.lst (fs.map V.int)) ∧ ExB F H1 H' ∧ fs.Nodup ∧ (∀ x ∈ fs, Div2 a b x) ∧
      (∀ j, j < i → ∀ q : Nat, Pr q → q ∣ (([a, b] : List Int).getD j 1).natAbs → (q : Int) ∈ fs) ∧ fs.length ≤ 30 * i ∧ σ' = [some (.ref N), some (.int 97), some (.ref F), z3, z4, none])
    ⟨[], none, none, lF, ExB.refl _ _, .nil, (fun x hx => nomatch hx), fun j hj => absurd hj (Nat.not_lt_zero _), by decide, rfl⟩ ?_ ?_ ?_)
  · rintro i σ' H' _ ⟨fs, z3, z4, _, ex, _⟩
    exact .inl (.inl (ex _ _ hNF (x1 _ _ hN)))
  · rintro i v σ' H2 hv ⟨fs, z3, z4, lF2, ex2, hnd, hd2, hall, hlen, rfl⟩
    rw [List.getElem?_map] at hv
    obtain ⟨c, hc, rfl⟩ := Option.map_eq_some_iff.mp hv
    have hi2 : i < 2 := (List.getElem?_eq_some_iff.mp hc).1
    have hcd : ([a, b] : List Int).getD i 1 = c := by rw [List.getD_eq_getElem?_getD, hc]; rfl
    have hcab : c = a ∨ c = b := by
      have := List.mem_of_getElem? hc
      simpa using this
    have hc0 : c ≠ 0 := by rcases hcab with rfl | rfl <;> assumption
    have hc9 : c.natAbs ≤ 1000000000 := by rcases hcab with rfl | rfl <;> omega
    walk_at "rd"
    have eabs : (if c < 0 then -c else c) = ((c.natAbs : Nat) : Int) := by split <;> omega
    rw [eabs]
    refine ⟨c.natAbs, rfl, by omega, hc9, fun L ps H3 x3 hL hP hps hpall hpl => ?_⟩
    have hpl30 : ps.length < 30 := by
      refine Decidable.by_contra fun cc => ?_
      have h3 : (2 : Nat) ^ 30 ≤ 2 ^ ps.length := Nat.pow_le_pow_right (by decide) (by omega)
      have h5 : (2 : Nat) ^ 30 = 1073741824 := by decide
      omega
    have hLF : L ≠ F := fun z => by rw [z, lF2] at hL; cases hL
    have ex3 := ex2.trans (ExB.of x3)
    refine ⟨L, rfl, ⟨_, .inl (.inl hP.1)⟩, KR.fwL (xs := ps.map fun x => V.ref x.1) (fun k σ' H' => ∃ (fs' : List Int) (z4 : Option V), H' F = some (.lst (fs'.map V.int)) ∧ ExB F H3 H' ∧ fs'.Nodup ∧ (∀ x ∈ fs', Div2 a b x) ∧ (∀ x ∈ fs, x ∈ fs') ∧
      (∀ j x, j < k → ps[j]? = some x → ((x.2 : Nat) : Int) ∈ fs') ∧ fs'.length ≤ 30 * i + k ∧ σ' = [some (.ref N), some (.int 97), some (.ref F), some (.int c), z4, none])
      ⟨fs, z4, x3 _ _ lF2, ExB.refl _ _, hnd, hd2, fun x hx => hx, fun j x hj => absurd hj (Nat.not_lt_zero _), hlen, rfl⟩ ?_ ?_ ?_⟩
    · rintro k σ' H' _ ⟨fs', z4, _, ex, _⟩
      exact .inl (.inl (ex _ _ hLF hP.1))
    · rintro k v σ' H4 hv4 ⟨fs', z4', lF4, ex4, hnd4, hd4, hsub, hall4, hlen4, rfl⟩
      rw [List.getElem?_map] at hv4
      obtain ⟨x, hx, rfl⟩ := Option.map_eq_some_iff.mp hv4
      have hkp : k < ps.length := (List.getElem?_eq_some_iff.mp hx).1
      obtain ⟨e, he⟩ := hP.2 x (List.mem_of_getElem? hx)
      have hxF : x.1 ≠ F := fun z => by
        have := x3 _ _ lF2
        rw [z, this] at he
        cases he
      obtain ⟨hxp, hxd⟩ := hps x (List.mem_of_getElem? hx)
      have sT : SqT K H4 x.1 [V.int (x.2 : Nat), V.int e] := .inl (.inl (ex4 _ _ hxF he))
      have hdx : Div2 a b ((x.2 : Nat) : Int) := ⟨x.2, rfl, hxp, hcab.imp (fun z : c = a => by rw [← z]; exact hxd) (fun z : c = b => by rw [← z]; exact hxd)⟩
      walk_at "rd"
      refine KR.ixT sT (v := .int (x.2 : Nat)) rfl ?_
      walk_at "rd"
      refine ⟨F, _, rfl, .inl (.inl (.inl lF4)), rfl, flat_ints _, ?_⟩
      rw [inV_int]
      walk_at "rd"
      refine KR.iteND (fun hn => ?_) (fun hy => ?_)
      · walk_at "rd"
        refine ⟨.inl ⟨rfl, _, .inl (.inl lF4)⟩, ?_⟩
        walk_at "rd"
        refine KR.ixT sT (v := .int (x.2 : Nat)) rfl ?_
        walk_at "rd"
        refine ⟨F, _, _, rfl, rfl, lF4, by rw [List.length_map, sizeLine_eq]; omega, ?_⟩
        refine ⟨fs' ++ [((x.2 : Nat) : Int)], _, by rw [upd_same, List.map_append]; rfl, ex4.trans ExB.upd, ?_, fun y hy => ?_, fun y hy => List.mem_append_left _ (hsub y hy), fun j y hj hy => ?_, by rw [List.length_append, List.length_singleton]; omega, rfl⟩
        · rw [List.nodup_append]
          exact ⟨hnd4, by simp, fun y hy z hz => by
            rw [List.mem_singleton.mp hz]
            exact fun w => hn (w ▸ hy)⟩
        · rcases List.mem_append.mp hy with hy | hy
          · exact hd4 y hy
          · rw [List.mem_singleton.mp hy]; exact hdx
        · rcases Nat.lt_or_ge j k with cc | cc
          · exact List.mem_append_left _ (hall4 j y cc hy)
          · have : j = k := by omega
            rw [this, hx] at hy
            rw [← Option.some.inj hy]
            exact List.mem_append_right _ List.mem_cons_self
      · walk_at "rd"
        refine ⟨fs', _, lF4, ex4, hnd4, hd4, hsub, fun j y hj hy2 => ?_, by omega, rfl⟩
        rcases Nat.lt_or_ge j k with cc | cc
        · exact hall4 j y cc hy2
        · have : j = k := by omega
          rw [this, hx] at hy2
          rw [← Option.some.inj hy2]
          exact hy
    · rintro σ' H4 ⟨fs', z4', lF4, ex4, hnd4, hd4, hsub, hall4, hlen4, rfl⟩
      rw [List.length_map] at hall4 hlen4
      refine ⟨fs', _, _, lF4, ex3.trans ex4, hnd4, hd4, fun j hj q hq hqd => ?_, by omega, rfl⟩
      rcases Nat.lt_or_ge j i with cc | cc
      · exact hsub _ (hall j cc q hq hqd)
      · have hji : j = i := by omega
        rw [hji, hcd] at hqd
        obtain ⟨x, hx, rfl⟩ := hpall q hq hqd
        obtain ⟨k, hk, hk2⟩ := List.getElem_of_mem hx
        exact hall4 k x hk (by rw [List.getElem?_eq_getElem hk, hk2])
  rintro σ' H5 ⟨fs, z3, z4, lF5, ex5, hnd, hd5, hall, hlen, rfl⟩
  have hlen2 : fs.length ≤ 60 := hlen
  walk_at "rd"
  refine ⟨F, fs, rfl, .inl (.inl lF5), by omega, fun ns S hperm hsort hS => ?_⟩
  have hasc := asc_of hsort (hperm.nodup_iff.mpr hnd)
  have hmem : ∀ x, x ∈ ns ↔ Div2 a b x := fun x => by
    rw [hperm.mem_iff]
    constructor
    · exact hd5 x
    · rintro ⟨q, rfl, hq, hqd | hqd⟩
      · exact hall 0 (by show 0 < 2; decide) q hq hqd
      · exact hall 1 (by show 1 < 2; decide) q hq hqd
  have hlenS : ns.length < 64 := by rw [hperm.length_eq]; omega
  have xAll : Evl.Ex H (upd H5 S (.lst (ns.map V.int))) := fun y o hy => by
    have h1 := ex5 y o (ne_of_none hy hF) (x1 _ _ hy)
    rw [upd_ne (ne_of_none h1 hS)]
    exact h1
  have lS : (upd H5 S (.lst (ns.map V.int))) S = some (.lst (ns.map V.int)) := upd_same
  generalize upd H5 S (.lst (ns.map V.int)) = H6 at xAll lS ⊢
  walk_at "rd"
  refine KR.ilistN (xs := ns.map V.int) (.inl (.inl lS)) (KR.fwL (xs := ns.map V.int) (fun i σ' H' => H' = H6 ∧ (∀ j f, j < i → ns[j]? = some f → f ≤ 97) ∧ ∃ z, σ' = [some (.ref N), some (.int 97), some (.ref S), z3, z4, z]) ⟨rfl, fun j f hj => absurd hj (Nat.not_lt_zero _), none, rfl⟩ ?_ ?_ ?_)
  · rintro i σ' H' _ ⟨rfl, _⟩
    exact .inl (.inl lS)
  · rintro i v σ' H' hv ⟨rfl, hle, z, rfl⟩
    rw [List.getElem?_map] at hv
    obtain ⟨f, hf, rfl⟩ := Option.map_eq_some_iff.mp hv
    walk_at "rd"
    refine KR.iteD (fun hgt => ?_) (fun hgt => ?_)
    · walk_at "rd"
      intro d hd
      refine eP f ((hmem f).mp (List.mem_of_getElem? hf)) hgt (fun g hg hg97 => ?_) H' xAll d hd
      obtain ⟨j, hj, hj2⟩ := List.getElem_of_mem ((hmem g).mpr hg)
      obtain ⟨hi, hi2⟩ := List.getElem?_eq_some_iff.mp hf
      rcases Nat.lt_trichotomy j i with cc | cc | cc
      · have := hle j g cc (by rw [List.getElem?_eq_getElem hj, hj2])
        omega
      · subst cc
        rw [← hi2, ← hj2]
        exact Int.le_refl _
      · have := List.pairwise_iff_getElem.mp hasc i j hi hj cc
        rw [hi2, hj2] at this
        omega
    · walk_at "rd"
      refine ⟨rfl, fun j g hj hg => ?_, _, rfl⟩
      rcases Nat.lt_or_ge j i with cc | cc
      · exact hle j g cc hg
      · have : j = i := by omega
        rw [this, hf] at hg
        rw [← Option.some.inj hg]
        omega
  rintro σ' H' ⟨rfl, hle, z, rfl⟩
  rw [List.length_map] at hle
  walk_at "rd"
  refine q (fun f hf => ?_) S ns H' xAll lS hasc hmem hlenS
  obtain ⟨j, hj, hj2⟩ := List.getElem_of_mem ((hmem f).mpr hf)
  exact hle j f hj (by rw [List.getElem?_eq_getElem hj, hj2])
end
end K9
namespace K9
open PySem PySem.Spec PyProof.Rows L2 K7
local macro_rules | `(tactic| walk_at "rc") => `(tactic| first
  | assumption
  | (show (0 : Int) < _; omega)
  | (show (0 : Int) < _ ∧ _ < (1073741824 : Int); exact ⟨by omega, by omega⟩)
  | (show (-(2 ^ 64 : Int) < _ ∧ _ < (2 ^ 64 : Int)) ∨ _; exact .inl ⟨by omega, by omega⟩)
  | (show _ ∨ (-(2 ^ 64 : Int) < _ ∧ _ < (2 ^ 64 : Int)); exact .inr ⟨by omega, by omega⟩)
  | (show (0 : Int) ≤ _ ∧ _ ≤ (1000000 : Int) ∧ _ < 2 ^ 64; exact ⟨by decide, by decide, by decide⟩))
local macro_rules | `(tactic| walk_at "rd") => `(tactic| repeat (first
  | with_reducible apply KR.seq
  | with_reducible apply KR.asg
  | with_reducible apply KR.drop
  | with_reducible apply KR.ret
  | with_reducible apply KR.retN
  | with_reducible apply KR.next
  | with_reducible apply KR.ifs
  | with_reducible refine KR.var rfl ?_
  | with_reducible refine L2.iteT ?_
  | with_reducible refine L2.iteF ?_
  | with_reducible refine KR.iteNF ?_
  | with_reducible refine KR.iteNT ?_
  | with_reducible apply KR.con
  | with_reducible apply KR.op
  | with_reducible apply KR.opI0
  | ((with_reducible refine KR.opI ?rc ?_); (case rc => walk_at "rc"))
  | with_reducible apply KR.un
  | with_reducible apply KR.unI
  | with_reducible apply KR.eqI
  | with_reducible apply KR.neI
  | with_reducible apply KR.test
  | with_reducible apply KR.tb'
  | with_reducible apply KR.exbl
  | with_reducible apply KR.and'
  | with_reducible apply KR.or'
  | with_reducible apply KR.not'
  | with_reducible apply KR.chain
  | with_reducible apply KR.call
  | with_reducible apply KR.callS
  | with_reducible apply KR.make
  | with_reducible apply KR.bm
  | with_reducible apply KR.errF
  | with_reducible apply KR.cons
  | with_reducible apply KR.nil
  | with_reducible apply KR.cb
  | with_reducible apply KR.cInt1
  | with_reducible apply KR.cI1
  | with_reducible apply KR.cI2
  | with_reducible apply KR.isi_ii
  | with_reducible apply KR.isi_ib
  | with_reducible apply KR.bits
  | with_reducible apply KR.exint
  | with_reducible apply KR.ifx
  | with_reducible refine KR.aug rfl ?_
  | with_reducible apply KR.ipI
  | with_reducible apply KR.for'
  | with_reducible apply KR.rng1
  | with_reducible apply KR.rng2
  | with_reducible apply KR.ilist
  | with_reducible apply KR.itup
  | with_reducible apply KR.tup
  | with_reducible apply KR.lst
  | with_reducible apply KR.andV
  | with_reducible apply KR.orV
  | with_reducible apply KR.notV
  | with_reducible apply KR.asgG
  | with_reducible apply KR.sub
  | with_reducible apply KR.fld
  | with_reducible apply KR.prop
  | with_reducible apply KR.meth
  | with_reducible apply KR.par
  | with_reducible apply KR.parN
  | with_reducible apply KR.raise1
  | with_reducible apply KR.raise0
  | with_reducible apply KR.exv
  | with_reducible apply KR.lc
  | with_reducible apply KR.ienT
  | with_reducible apply KR.sfld
  | with_reducible apply KR.sl
  | with_reducible apply KR.part
  | with_reducible apply KR.nopart
  | with_reducible apply KR.isNo
  | with_reducible refine KR.nnT ?_
  | with_reducible refine KR.niF ?_
  | with_reducible refine KR.nrF ?_
  | with_reducible refine KR.mnT ?_
  | with_reducible refine KR.miF ?_
  | with_reducible refine KR.mrF ?_))
theorem giv_list (f : Int → Bool) (g : Int → V) (fs : List Int) : ∀ n, n ≤ fs.length → KR.giv (fun k => f (fs.getD k 0)) (fun k => g (fs.getD k 0)) 0 n = ((fs.take n).filter f).map g
  | 0, _ => rfl
  | n + 1, h => by
    unfold KR.giv
    have e : fs.getD n 0 = fs[n] := by rw [List.getD_eq_getElem?_getD, List.getElem?_eq_getElem (by omega)]; rfl
    rw [giv_list f g fs n (by omega), List.take_succ_eq_append_getElem (by omega), List.filter_append, List.map_append, Nat.zero_add, e]
    congr 1
    cases hf : f fs[n] with
    | true => rw [List.filter_cons_of_pos hf]; rfl
    | false => rw [List.filter_cons_of_neg (by rw [hf]; decide)]; rfl
theorem giv_whole (f : Int → Bool) (g : Int → V) (fs : List Int) : KR.giv (fun k => f (fs.getD k 0)) (fun k => g (fs.getD k 0)) 0 fs.length = (fs.filter f).map g := by
  rw [giv_list f g fs _ (Nat.le_refl _), List.take_length]
theorem at_getD {fs : List Int} {k : Nat} {v : V} (h : (fs.map V.int)[k]? = some v) : v = .int (fs.getD k 0) := by
  rw [List.getElem?_map] at h
  obtain ⟨w, hw, rfl⟩ := Option.map_eq_some_iff.mp h
  rw [List.getD_eq_getElem?_getD, hw]
  rfl
theorem small_prime {q : Nat} (hq : Pr q) (h : q ≤ 97) : q ∈ primesN := by
  have tab : ∀ q, q < 98 → 2 ≤ q → q ∈ primesN ∨ (List.range 98).any (fun d => decide (2 ≤ d) && decide (d < q) && decide (q % d = 0)) = true := by decide +kernel
  rcases tab q (by omega) hq.two with z | z
  · exact z
  · rw [List.any_eq_true] at z
    obtain ⟨d, _, hd⟩ := z
    simp only [Bool.and_eq_true, decide_eq_true_iff] at hd
    rcases hq.irr d (Nat.dvd_of_mod_eq_zero hd.2) with e | e <;> omega
theorem small_of {a b : Int} : Small a b ↔ ∀ f, Div2 a b f → f ≤ 97 := by
  constructor
  · rintro h f ⟨q, rfl, hq, hd⟩
    have := (of_pr (h q hq hd)).2.2
    have : ∀ x ∈ primesN, x ≤ 97 := by decide
    have := this q (h q hq hd)
    omega
  · intro h q hq hd
    have := h q ⟨q, rfl, hq, hd⟩
    exact small_prime hq (by omega)
theorem ex_none {H H2 : Hp} {L : Addr} (e : Evl.Ex H H2) (h : H2 L = none) : H L = none := by
  cases h3 : H L with
  | none => rfl
  | some o =>
    have := e _ _ h3
    rw [this] at h
    cases h
section
variable {P : Program} {w : World} {K : PySem.W.Frag} {mg : Str → Option Value} {base : Heap} {A : Ad}
def sp_with_two (K : PySem.W.Frag) : Sp := fun vs H Q _ => ∃ (L : Addr) (fs : List Int), vs = [.ref L] ∧ SqL K H L (fs.map V.int) ∧ fs.length < 64 ∧
  ∀ M H2, Evl.Ex H H2 → H2 M = some (.lst (((2 : Int) :: fs.filter fun x => !decide (x = 2)).map V.int)) → Q (.ref M) H2
theorem ok_with_two (T : Txt P K mg A) : FnOk P w K mg base CX0 1 A.a_with_two A.d_with_two ["primes"] (sp_with_two K) := by
  refine T.F_with_two.ok sc_with_two (fun vs H Q E h => ?_) (fun cdv Ar outer s H vs Q E hr h => ?_)
  · obtain ⟨_, _, rfl, _⟩ := h; rfl
  have nd := sc_with_two.nd
  obtain ⟨L, fs, rfl, hs, hl, q⟩ := h
  refine ⟨_, (pss_one (ps_ret (pe_op op_cat (pe_lst (pa_cons pe_int pa_nil)) (pe_lc (own := [("prime", 1)]) (g := gName 1) rfl nd (pi_list (pv 0)) (blkOk_by (own := [("prime", 1)]) (N := ["primes", "prime"]) (sc := defScope s_with_two) (by decide +kernel)) (fun _ _ _ _ _ => pg_name (i := 1) nd rfl (Or.inl rfl)) (fun _ _ _ _ _ => (pts_one (pt_cmpR op_ne (pv 1) pe_int (nomark _)))) (fun _ _ _ _ _ => (pv 1)))))), ?_⟩
  walk_at "rd"
  refine ⟨by show (1 : Nat) ≤ sizeLine; decide, fun c hc => ?_⟩
  generalize hG : upd H c _ = H1
  have x1 : Evl.Ex H H1 := by rw [← hG]; exact Evl.Ex.new hc
  have lc : H1 c = some (.lst [.int 2]) := by rw [← hG]; exact upd_same
  clear hG
  have hs1 := Evl.ex_l x1 hs
  walk_at "rd"
  refine KR.llistN hs1 (KR.lwL (fun k => !decide (fs.getD k 0 = 2)) (fun k => .int (fs.getD k 0)) hs1 (by rw [List.length_map]; omega) (fun _ => rfl) ?_ ?_ ?_)
  · intro k v H2 e2 hv H3 e3 Q' q'
    rw [at_getD hv]
    walk_at "rd"
    exact q' H3 (Evl.Ex.refl _)
  · intro k v H2 e2 hv hf H3 e3 Q' q'
    rw [at_getD hv]
    walk_at "rd"
    exact q' H3 (Evl.Ex.refl _)
  intro d H2 hd e2 ld
  rw [List.length_map, giv_whole (fun x => !decide (x = 2)) (fun x => V.int x)] at ld
  refine ⟨c, d, _, _, rfl, rfl, e2 _ _ lc, ld, ?_, fun r hr => q r _ ((x1.trans e2).trans (Evl.Ex.new hr)) ?_⟩
  · rw [List.length_map, sizeLine_eq]
    have := List.length_filter_le (fun x => !decide (x = 2)) fs
    show 1 + _ ≤ _
    omega
  · rw [upd_same, List.map_cons]
    rfl
def sp_conic_bars (A : Ad) (K : PySem.W.Frag) : Sp := fun vs H Q E => ∃ a b : Int, vs = [.int a, .int b] ∧ (¬ okL a → errD A.a_RangeError E H a) ∧ (okL a → (¬ okL b → errD A.a_RangeError E H b) ∧ (okL b →
  ((a = 0 ∨ b = 0) → ∀ H2, Evl.Ex H H2 → E (.ref A.a_ZeroError) none H2) ∧ (a ≠ 0 → b ≠ 0 → (∀ f, Div2 a b f → 97 < f → (∀ g, Div2 a b g → 97 < g → f ≤ g) → ∀ H2, Evl.Ex H H2 → errD A.a_PrimeError E H2 f) ∧
  (Small a b → ∀ L H2, H L = none → Evl.Ex H H2 → H2 L = some (.lst ((barsL a b).map V.int)) → Q (.ref L) H2))))
theorem ok_conic_bars (T : Txt P K mg A) : FnOk P w K mg base (L2N.CX P w) 6 A.a_conic_bars A.d_conic_bars ["a", "b"] (sp_conic_bars A K) := by
  refine T.F_conic_bars.okN sc_conic_bars (fun vs H Q E h => ?_) (fun cdv Ar outer s H vs Q E hr h => ?_)
  · obtain ⟨_, _, rfl, _⟩ := h; rfl
  have nd := sc_conic_bars.nd
  obtain ⟨a, b, rfl, e1, h⟩ := h
  refine ⟨_, (pss_cons (ps_expr (pe_call (ok_look_range T) (hr.mono (by decide)) (by rfl) T.g_look_range T.k_look_range T.b_look_range .nil (L2N.passes_call (L2N.takes_of rfl rfl rfl rfl) (fun _ _ _ _ h => h)) (pa_cons (pv 0) (pa_cons (pe_un un_neg (KR.pe_gI (by rfl) T.c_LARGEST)) (pa_cons (KR.pe_gI (by rfl) T.c_LARGEST) pa_nil)))))
    (pss_cons (ps_expr (pe_call (ok_look_range T) (hr.mono (by decide)) (by rfl) T.g_look_range T.k_look_range T.b_look_range .nil (L2N.passes_call (L2N.takes_of rfl rfl rfl rfl) (fun _ _ _ _ h => h)) (pa_cons (pv 1) (pa_cons (pe_un un_neg (KR.pe_gI (by rfl) T.c_LARGEST)) (pa_cons (KR.pe_gI (by rfl) T.c_LARGEST) pa_nil)))))
    (pss_cons (ps_set (i := 2) nd rfl (.inl rfl) (pe_call (ok_with_two T) (hr.mono (by decide)) (by rfl) T.g_with_two T.k_with_two T.b_with_two .nil pass0 (pa_cons (pe_call (ok_primes_of T) (hr.mono (by decide)) (by rfl) T.g_primes_of T.k_primes_of T.b_primes_of .nil (L2N.passes_call (L2N.takes_of rfl rfl rfl rfl) (fun _ _ _ _ h => h)) (pa_cons (pe_lst (pa_cons (pv 0) (pa_cons (pv 1) pa_nil))) (pa_cons (KR.pe_gI (by rfl) T.c_MOST_PRIME) pa_nil))) pa_nil)))
    (Evl.pss_cut (ps_set (i := 3) nd rfl (.inl rfl) (pe_ifExp (PW.pt (pw_and (pt_cmpR op_lt (pv 0) pe_int (nomark _)) (pw_and1 (pt_cmpR op_lt (pv 1) pe_int (nomark _))))) (pe_lst (pa_cons pe_int pa_nil)) (pe_lst pa_nil)))
    (pss_one (ps_ret (pe_op op_cat (pv 3) (pe_lc (own := [("p", 4)]) (g := gName 4) rfl nd (pi_list (pv 2)) (blkOk_by (own := [("p", 4)]) (N := ["a", "b", "told", "bars", "p"]) (sc := defScope s_conic_bars) (by decide +kernel)) (fun _ _ _ _ _ => pg_name (i := 4) nd rfl (Or.inl rfl)) (fun _ _ _ _ _ => (pts_one (pt_cmpR op_eq (pe_call (ok_symbol T) (hr.mono (by decide)) (by rfl) T.g_symbol T.k_symbol T.b_symbol .nil passN (pa_cons (pv 4) (pa_cons (pv 0) (pa_cons (pv 1) pa_nil)))) (pe_un un_neg pe_int) (nomark _)))) (fun _ _ _ _ _ => (pv 4)))))))))), ?_⟩
  walk_at "rd"
  refine ⟨a, _, _, rfl, fun ha => ?_, e1⟩
  obtain ⟨e2, h⟩ := h ha
  walk_at "rd"
  refine ⟨b, _, _, rfl, fun hb => ?_, e2⟩
  obtain ⟨e3, h⟩ := h hb
  walk_at "rd"
  refine ⟨by show (2 : Nat) ≤ sizeLine; decide, fun N hN => ?_⟩
  walk_at "rd"
  have x1 : Evl.Ex H (upd H N (.lst [.int a, .int b])) := Evl.Ex.new hN
  refine ⟨N, a, b, rfl, upd_same, ha, hb, fun hz => e3 hz _ x1, fun ha0 hb0 => ⟨fun f hf hf97 hmin H2 x2 => (h ha0 hb0).1 f hf hf97 hmin H2 (x1.trans x2), fun hle L fs H2 x2 lL hasc hmem hlen => ?_⟩⟩
  have hsm := small_of.mpr hle
  have q := (h ha0 hb0).2 hsm
  have x12 := x1.trans x2
  walk_at "rd"
  refine ⟨L, fs, rfl, .inl (.inl lL), hlen, fun M H3 x3 lM => ?_⟩
  have x13 := x12.trans x3
  have hbt := bars_told hsm hasc hmem
  generalize hte : ((2 : Int) :: fs.filter fun x => !decide (x = 2)) = te at *
  have hte_len : te.length ≤ 64 := by
    rw [← hte, List.length_cons]
    have := List.length_filter_le (fun x => !decide (x = 2)) fs
    omega
  have hte_mem : ∀ x ∈ te, x ∈ primesL := fun x hx => by
    rw [← hte] at hx
    rcases List.mem_cons.mp hx with rfl | hx
    · decide
    · obtain ⟨q', rfl, hq', hd'⟩ := (hmem x).mp (List.mem_filter.mp hx).1
      exact (of_pr (hsm q' hq' hd')).1
  walk_at "rd"
  refine KR.cut (Mid := fun σ' H' => ∃ (pre : List Int) (B : Addr), σ' = [some (.int a), some (.int b), some (.ref M), some (.ref B), none] ∧ Evl.Ex H3 H' ∧ H' B = some (.lst (pre.map V.int)) ∧ pre.length ≤ 1 ∧ pre = (if a < 0 ∧ b < 0 then [0] else [])) ?_ ?_
  · walk_at "rd"
    refine KR.iteD (fun c1 => ?_) (fun c1 => ?_)
    · walk_at "rd"
      refine KR.iteD (fun c2 => ?_) (fun c2 => ?_)
      · walk_at "rd"
        exact ⟨by show (1 : Nat) ≤ sizeLine; decide, fun B hB => ⟨[0], B, rfl, Evl.Ex.new hB, upd_same, by decide, by rw [if_pos ⟨c1, c2⟩]⟩⟩
      · walk_at "rd"
        exact ⟨Nat.zero_le _, fun B hB => ⟨[], B, rfl, Evl.Ex.new hB, upd_same, by decide, by rw [if_neg (fun z => c2 z.2)]⟩⟩
    · walk_at "rd"
      exact ⟨Nat.zero_le _, fun B hB => ⟨[], B, rfl, Evl.Ex.new hB, upd_same, by decide, by rw [if_neg (fun z => c1 z.1)]⟩⟩
  rintro σ' H4 ⟨pre, B, rfl, x4, lB, hpl, hpre⟩
  have sM : SqL K H4 M (te.map V.int) := .inl (.inl (x4 _ _ lM))
  walk_at "rd"
  refine KR.llistN sM (KR.lwL (fun k => sg (te.getD k 0).toNat a b) (fun k => .int (te.getD k 0)) sM (by rw [List.length_map]; omega) (fun _ => rfl) ?_ ?_ ?_)
  · intro k v H5 x5 hv H6 x6 Q' q'
    have hkm : te.getD k 0 ∈ te := by
      rw [List.getElem?_map] at hv
      obtain ⟨w, hw, _⟩ := Option.map_eq_some_iff.mp hv
      rw [List.getD_eq_getElem?_getD, hw]
      exact List.mem_of_getElem? hw
    rw [at_getD hv]
    have hp := hte_mem _ hkm
    walk_at "rd"
    refine ⟨te.getD k 0, a, b, rfl, fun z => absurd hp z, fun _ => ⟨fun z => absurd (⟨by have := ha.1; omega, by have := ha.2; omega⟩ : okA a) z, fun _ => ⟨fun z => absurd (⟨by have := hb.1; omega, by have := hb.2; omega⟩ : okA b) z, fun _ => ⟨fun z => absurd z (fun z => z.elim ha0 hb0), fun _ _ H7 x7 => ?_⟩⟩⟩⟩
    walk_at "rd"
    cases hsg : sg (te.getD k 0).toNat a b with
    | true =>
      rw [hsg] at q'
      exact q' H7 x7
    | false =>
      rw [hsg] at q'
      exact q' H7 x7
  · intro k v H5 x5 hv hf H6 x6 Q' q'
    rw [at_getD hv]
    walk_at "rd"
    exact q' H6 (Evl.Ex.refl _)
  intro d H5 hd x5 ld
  rw [List.length_map, giv_whole (fun x => sg x.toNat a b) (fun x => V.int x)] at ld
  refine ⟨B, d, _, _, rfl, rfl, x5 _ _ lB, ld, ?_, fun r hr => q r _ (ex_none ((x13.trans x4).trans x5) hr) (((x13.trans x4).trans x5).trans (Evl.Ex.new hr)) ?_⟩
  · rw [List.length_map, List.length_map, sizeLine_eq]
    have := List.length_filter_le (fun x => sg x.toNat a b) te
    omega
  · rw [upd_same, ← List.map_append, hbt, hpre]
    rfl
end
end K9
namespace K9
open PySem PySem.Spec PyProof.Rows L2 K7
local macro_rules | `(tactic| walk_at "rc") => `(tactic| first
  | assumption
  | (show (0 : Int) < _; omega)
  | (show (0 : Int) < _ ∧ _ < (1073741824 : Int); exact ⟨by omega, by omega⟩)
  | (show (-(2 ^ 64 : Int) < _ ∧ _ < (2 ^ 64 : Int)) ∨ _; exact .inl ⟨by omega, by omega⟩)
  | (show _ ∨ (-(2 ^ 64 : Int) < _ ∧ _ < (2 ^ 64 : Int)); exact .inr ⟨by omega, by omega⟩)
  | (show (0 : Int) ≤ _ ∧ _ ≤ (1000000 : Int) ∧ _ < 2 ^ 64; exact ⟨by decide, by decide, by decide⟩))
local macro_rules | `(tactic| walk_at "rd") => `(tactic| repeat (first
  | with_reducible apply KR.seq
  | with_reducible apply KR.asg
  | with_reducible apply KR.drop
  | with_reducible apply KR.ret
  | with_reducible apply KR.retN
  | with_reducible apply KR.next
  | with_reducible apply KR.ifs
  | with_reducible refine KR.var rfl ?_
  | with_reducible refine L2.iteT ?_
  | with_reducible refine L2.iteF ?_
  | with_reducible refine KR.iteNF ?_
  | with_reducible refine KR.iteNT ?_
  | with_reducible apply KR.con
  | with_reducible apply KR.op
  | with_reducible apply KR.opI0
  | ((with_reducible refine KR.opI ?rc ?_); (case rc => walk_at "rc"))
  | with_reducible apply KR.un
  | with_reducible apply KR.unI
  | with_reducible apply KR.eqI
  | with_reducible apply KR.neI
  | with_reducible apply KR.test
  | with_reducible apply KR.tb'
  | with_reducible apply KR.exbl
  | with_reducible apply KR.and'
  | with_reducible apply KR.or'
  | with_reducible apply KR.not'
  | with_reducible apply KR.chain
  | with_reducible apply KR.call
  | with_reducible apply KR.callS
  | with_reducible apply KR.make
  | with_reducible apply KR.bm
  | with_reducible apply KR.errF
  | with_reducible apply KR.cons
  | with_reducible apply KR.nil
  | with_reducible apply KR.cb
  | with_reducible apply KR.cInt1
  | with_reducible apply KR.cI1
  | with_reducible apply KR.cI2
  | with_reducible apply KR.isi_ii
  | with_reducible apply KR.isi_ib
  | with_reducible apply KR.bits
  | with_reducible apply KR.exint
  | with_reducible apply KR.ifx
  | with_reducible refine KR.aug rfl ?_
  | with_reducible apply KR.ipI
  | with_reducible apply KR.for'
  | with_reducible apply KR.rng1
  | with_reducible apply KR.rng2
  | with_reducible apply KR.ilist
  | with_reducible apply KR.itup
  | with_reducible apply KR.tup
  | with_reducible apply KR.lst
  | with_reducible apply KR.andV
  | with_reducible apply KR.orV
  | with_reducible apply KR.notV
  | with_reducible apply KR.asgG
  | with_reducible apply KR.sub
  | with_reducible apply KR.fld
  | with_reducible apply KR.prop
  | with_reducible apply KR.meth
  | with_reducible apply KR.par
  | with_reducible apply KR.parN
  | with_reducible apply KR.raise1
  | with_reducible apply KR.raise0
  | with_reducible apply KR.exv
  | with_reducible apply KR.lc
  | with_reducible apply KR.ienT
  | with_reducible apply KR.sfld
  | with_reducible apply KR.sl
  | with_reducible apply KR.part
  | with_reducible apply KR.nopart
  | with_reducible apply KR.isNo
  | with_reducible refine KR.nnT ?_
  | with_reducible refine KR.niF ?_
  | with_reducible refine KR.nrF ?_
  | with_reducible refine KR.mnT ?_
  | with_reducible refine KR.miF ?_
  | with_reducible refine KR.mrF ?_))
def Pool (H : Hp) (a : Addr) : Prop := ∃ cs : List Int, (1 ≤ cs.length ∧ cs.length ≤ 64) ∧ H a = some (.lst (cs.map V.int))
theorem Pool.ex {a : Addr} {H H2 : Hp} (h : Pool H a) (e : Evl.Ex H H2) : Pool H2 a := by
  obtain ⟨cs, h1, h2⟩ := h
  exact ⟨cs, h1, e _ _ h2⟩
theorem sm_1e9 : Sm 1000000000 := by
  have e : (1000000000 : Int) = 2 * (2 * (2 * (2 * (2 * (2 * (2 * (2 * (2 * (5 * (5 * (5 * (5 * (5 * (5 * (5 * (5 * (5 * 1))))))))))))))))) := by decide
  have g2 : (2 : Int) ∈ gens := by decide
  have g5 : (5 : Int) ∈ gens := by decide
  rw [e]
  exact .mul g2 (.mul g2 (.mul g2 (.mul g2 (.mul g2 (.mul g2 (.mul g2 (.mul g2 (.mul g2 (.mul g5 (.mul g5 (.mul g5 (.mul g5 (.mul g5 (.mul g5 (.mul g5 (.mul g5 (.mul g5 .one)))))))))))))))))
theorem sm_neg {a : Int} (h : Sm a) : Sm (-a) := by
  have e : -a = -1 * a := by omega
  rw [e]
  exact .mul (by decide) h
theorem sm_pr {a p : Int} (h : Sm a) (hp : p ∈ primesL) : Sm (a * p) := by
  rw [Int.mul_comm]
  have : ∀ x ∈ primesL, x ∈ gens := by decide
  exact .mul (this p hp) h
theorem ifQ {g : Bool} {x y : Int} {σ : L2.St} {H : Hp} {Q : VK} (h : Q (.int (if g = true then x else y)) H) : if g = true then tC (.int x) σ H Q else tC (.int y) σ H Q := by
  cases g <;> exact h
section
variable {P : Program} {w : World} {K : PySem.W.Frag} {mg : Str → Option Value} {base : Heap} {A : Ad}
def sp_law_draw : Sp := fun vs H Q _ => ∃ (a : Addr) (b : Int), vs = [.ref a, .int b] ∧ Pool H a ∧ 0 < b ∧ b < 1000000 ∧ ∀ v H2, 0 ≤ v → v < b → ExB a H H2 → Pool H2 a → Q (.int v) H2
theorem ok_law_draw (T : Txt P K mg A) : FnOk P w K mg base CX0 1 A.a_law_draw A.d_law_draw ["pool", "many"] sp_law_draw := by
  refine T.F_law_draw.ok sc_law_draw (fun vs H Q E h => ?_) (fun cdv Ar outer s H vs Q E hr h => ?_)
  · obtain ⟨_, _, rfl, _⟩ := h; rfl
  have nd := sc_law_draw.nd
  obtain ⟨a, b, rfl, ⟨cs, ⟨h1, h2⟩, hp⟩, hb, hb2, q⟩ := h
  have hs : SqL K H a (cs.map V.int) := .inl (.inl hp)
  obtain ⟨c0, e0⟩ : ∃ c0, cs[0]? = some c0 := ⟨cs[0], List.getElem?_eq_getElem (by omega)⟩
  refine ⟨_, (pss_cons (ps_set (i := 2) nd rfl (.inl rfl) (pe_callTy call_int1 (by rfl) T.n_int (by decide +kernel) (pa_cons (pe_ix ix_list (pv 0) pe_int (fun _ _ => rfl)) pa_nil)))
    (pss_cons (ps_asg (pe_op op_add (pv 2) pe_int) (pg_sub (pv 0) pe_int set_list))
    (pss_cons (ps_if (pt_cmpR op_eq (pe_callB call_len_seq (by rfl) T.n_len PySem.boot_len (pa_cons (pv 0) pa_nil)) pe_int (nomark _)) (pss_one (ps_ret (pe_op op_mod (pv 2) (pv 1)))) pss_nil)
    (pss_cons (ps_set (i := 3) nd rfl (.inl rfl) (pe_op op_add pe_int (pe_op op_mod (pv 2) (pe_op op_sub (pe_callB call_len_seq (by rfl) T.n_len PySem.boot_len (pa_cons (pv 0) pa_nil)) pe_int))))
    (pss_cons (ps_set (i := 4) nd rfl (.inl rfl) (pe_op op_mod (pe_callTy call_int1 (by rfl) T.n_int (by decide +kernel) (pa_cons (pe_op op_add (pe_ix ix_list (pv 0) (pv 3) (fun _ _ => rfl)) (pv 2)) pa_nil)) (pv 1)))
    (pss_cons (ps_asg (pe_op op_fdiv (pe_ix ix_list (pv 0) (pv 3) (fun _ _ => rfl)) (pv 1)) (pg_sub (pv 0) (pv 3) set_list))
    (pss_one (ps_ret (pv 4))))))))), ?_⟩
  walk_at "rd"
  refine KR.ixL hs (atI_nat (j := 0) (v := V.int c0) (by rw [List.getElem?_map, e0]; rfl)) ?_
  walk_at "rd"
  refine KR.setL (j := 0) hp (by rw [List.length_map]; omega) ?_
  walk_at "rd"
  have lp : (upd H a (.lst ((cs.map V.int).set 0 (.int (c0 + 1))))) a = some (.lst (((cs.set 0 (c0 + 1))).map V.int)) := by rw [upd_same, List.map_set]
  have ex1 : ExB a H (upd H a (.lst ((cs.map V.int).set 0 (.int (c0 + 1))))) := ExB.upd
  have hl1 : (cs.set 0 (c0 + 1)).length = cs.length := List.length_set
  generalize upd H a (.lst ((cs.map V.int).set 0 (.int (c0 + 1)))) = H1 at lp ex1 ⊢
  generalize cs.set 0 (c0 + 1) = ds at lp hl1
  have hs1 : SqL K H1 a (ds.map V.int) := .inl (.inl lp)
  refine ⟨a, _, rfl, .inl hs1, ?_⟩
  rw [List.length_map, hl1]
  walk_at "rd"
  refine KR.iteD (fun c => ?_) (fun c => ?_)
  · walk_at "rd"
    exact q _ H1 (Int.emod_nonneg _ (by omega)) (Int.emod_lt_of_pos _ hb) ex1 ⟨ds, ⟨by omega, by omega⟩, lp⟩
  · walk_at "rd"
    refine ⟨a, _, rfl, .inl hs1, ?_⟩
    rw [List.length_map, hl1]
    walk_at "rd"
    obtain ⟨j, ej, hj⟩ : ∃ j : Nat, 1 + c0 % ((cs.length : Int) - 1) = (j : Int) ∧ j < cs.length := by
      have z1 := Int.emod_nonneg c0 (show (cs.length : Int) - 1 ≠ 0 by omega)
      have z2 := Int.emod_lt_of_pos c0 (show (0 : Int) < (cs.length : Int) - 1 by omega)
      exact ⟨(1 + c0 % ((cs.length : Int) - 1)).toNat, by omega, by omega⟩
    rw [ej]
    obtain ⟨cj, e1⟩ : ∃ cj, ds[j]? = some cj := ⟨ds[j], List.getElem?_eq_getElem (by omega)⟩
    have hx : atI (ds.map V.int) (j : Int) = some (V.int cj) := atI_nat (j := j) (v := V.int cj) (by rw [List.getElem?_map, e1]; rfl)
    refine KR.ixL hs1 hx ?_
    walk_at "rd"
    refine KR.ixL hs1 hx ?_
    walk_at "rd"
    refine KR.setL (j := j) lp (by rw [List.length_map]; omega) ?_
    walk_at "rd"
    refine q _ _ (Int.emod_nonneg _ (by omega)) (Int.emod_lt_of_pos _ hb) (ex1.trans ExB.upd) ⟨ds.set j (cj / b), ⟨by rw [List.length_set]; omega, by rw [List.length_set]; omega⟩, ?_⟩
    rw [upd_same, List.map_set]
def sp_law_cells (K : PySem.W.Frag) : Sp := fun vs H Q _ => ∃ (a : Addr) (ns : List Int), vs = [.ref a] ∧ SqL K H a (ns.map V.int) ∧ ∀ b H2, Pool H2 b → Q (.ref b) H2
theorem ok_law_cells (T : Txt P K mg A) : FnOk P w K mg base CX0 1 A.a_law_cells A.d_law_cells ["script"] (sp_law_cells K) := by
  refine T.F_law_cells.ok sc_law_cells (fun vs H Q E h => ?_) (fun cdv Ar outer s H vs Q E hr h => ?_)
  · obtain ⟨_, _, rfl, _⟩ := h; rfl
  have nd := sc_law_cells.nd
  obtain ⟨a, ns, rfl, hs, q⟩ := h
  refine ⟨_, (pss_one (ps_ret (pe_op op_cat (pe_lst (pa_cons pe_int pa_nil)) (pe_lc (own := [("cell", 1)]) (g := gName 1) (tt := tYes) rfl nd (pi_list (pe_slice sl_list (pv 0) po_none (po_some pe_int))) (blkOk_by (own := [("cell", 1)]) (N := ["script", "cell"]) (sc := defScope s_law_cells) (by decide +kernel)) (fun _ _ _ _ _ => pg_name (i := 1) nd rfl (Or.inl rfl)) (fun _ _ _ _ _ => pts_nil) (fun _ _ _ _ _ => (pe_op op_mod (pe_callTy call_int1 (by rfl) T.n_int (by decide +kernel) (pa_cons (pv 1) pa_nil)) (pe_op op_mulW (pe_op op_pow pe_int pe_int) (pe_op op_pow pe_int pe_int)))))))), ?_⟩
  walk_at "rd"
  refine ⟨by show (1 : Nat) ≤ sizeLine; decide, fun p hp => ?_⟩
  walk_at "rd"
  have hs1 : SqL K (upd H p (.lst [.int 0])) a (ns.map V.int) := Evl.ex_l (Evl.Ex.new hp) hs
  refine KR.slL hs1 fun c hc => ?_
  have ecut : cutV (ns.map V.int) none (some 63) = (ns.take 63).map V.int := by
    unfold cutV
    rw [show (63 : Int) = ((63 : Nat) : Int) from rfl, HT.sIx_none, HT.sIx_nat, Nat.sub_zero, List.drop_zero, List.map_take, List.length_map]
    rcases Nat.le_total 63 ns.length with z | z
    · rw [Nat.min_eq_left z]
    · rw [Nat.min_eq_right z, List.take_of_length_le (by rw [List.length_map]; omega), List.take_of_length_le (by rw [List.length_map]; omega)]
  rw [ecut]
  generalize hms : ns.take 63 = ms
  have hml : ms.length ≤ 63 := by rw [← hms, List.length_take]; omega
  have hc1 : CMulW (10 ^ Int.toNat 50) (10 ^ Int.toNat 50) := mulW (k := 5000) (by decide) (by decide +kernel) (by decide +kernel)
  refine KR.llistN (xs := ms.map V.int) (.inl (.inl upd_same)) (KR.lwL (fun _ => true) (fun k => .int (ms.getD k 0 % (10 ^ Int.toNat 50 * 10 ^ Int.toNat 50))) (.inl (.inl upd_same)) (by rw [List.length_map]; omega) (fun _ => rfl) (fun _ _ _ _ _ => KR.etYes) ?_ ?_)
  · intro k x H1 _ hx _ H3 e3 Q' q'
    rw [at_getD hx]
    walk_at "rd"
    have hpos : (0 : Int) < 10 ^ Int.toNat 50 * 10 ^ Int.toNat 50 := by decide
    refine KR.opI hpos ?_
    exact q' H3 (Evl.Ex.refl H3)
  · intro d H2 hd e2 hv
    rw [KR.giv_all _ (fun _ => rfl), List.length_map] at hv
    have hp2 : H2 p = some (.lst [.int 0]) := e2 _ _ (Evl.Ex.new hc _ _ upd_same)
    have ev : ([V.int 0] ++ (List.range ms.length).map fun k => V.int (ms.getD k 0 % (10 ^ Int.toNat 50 * 10 ^ Int.toNat 50))) = ((0 :: (List.range ms.length).map fun k => ms.getD k 0 % (10 ^ Int.toNat 50 * 10 ^ Int.toNat 50)) : List Int).map V.int := by
      rw [List.map_cons, List.map_map]
      rfl
    refine ⟨p, d, _, _, rfl, rfl, hp2, hv, ?_, fun y hy => q y _ ⟨_, ⟨?_, ?_⟩, by rw [upd_same, ev]⟩⟩
    · rw [List.length_map, List.length_range]
      show 1 + _ ≤ sizeLine
      rw [sizeLine_eq]
      omega
    · rw [List.length_cons]; omega
    · rw [List.length_cons, List.length_map, List.length_range]; omega
def sp_law_is_integer : Sp := fun vs H Q _ => ∃ a : Int, vs = [.int a] ∧ Q (.bl true) H
theorem ok_law_is_integer (T : Txt P K mg A) : FnOk P w K mg base CX0 1 A.a_law_is_integer A.d_law_is_integer ["x"] sp_law_is_integer := by
  refine T.F_law_is_integer.ok sc_law_is_integer (fun vs H Q E h => ?_) (fun cdv Ar outer s H vs Q E hr h => ?_)
  · obtain ⟨_, rfl, _⟩ := h; rfl
  have nd := sc_law_is_integer.nd
  obtain ⟨a, rfl, q⟩ := h
  refine ⟨_, (pss_one (ps_ret (pe_and (pe_callB call_isi (by rfl) T.n_isinstance (by decide +kernel) (pa_cons (pv 0) (pa_cons (pe_bltn (v := .ty "int") (by rfl) T.n_int (by decide +kernel) rfl) pa_nil))) (pe_one (pe_not (pe_callB call_isi (by rfl) T.n_isinstance (by decide +kernel) (pa_cons (pv 0) (pa_cons (pe_bltn (v := .ty "bool") (by rfl) T.n_bool (by decide +kernel) rfl) pa_nil)))))))), ?_⟩
  walk_at "rd"
  exact q
theorem ok_law_is_integerH (T : Txt P K mg A) : L2H.FnH P w K mg base CX0 1 A.a_law_is_integer A.d_law_is_integer ["x"] sp_law_is_integer := by
  refine T.F_law_is_integer.okH sc_law_is_integer (fun vs H Q E h => ?_) (fun cdv Ar outer s H vs Q E p hot hr h => ?_)
  · obtain ⟨_, rfl, _⟩ := h; rfl
  have nd := sc_law_is_integer.nd
  obtain ⟨a, rfl, q⟩ := h
  refine ⟨_, (pss_one (ps_ret (pe_and (pe_callB call_isi (by rfl) T.n_isinstance (by decide +kernel) (pa_cons (pv 0) (pa_cons (pe_bltn (v := .ty "int") (by rfl) T.n_int (by decide +kernel) rfl) pa_nil))) (pe_one (pe_not (pe_callB call_isi (by rfl) T.n_isinstance (by decide +kernel) (pa_cons (pv 0) (pa_cons (pe_bltn (v := .ty "bool") (by rfl) T.n_bool (by decide +kernel) rfl) pa_nil)))))))), ?_⟩
  walk_at "rd"
  exact q
def sp_law_power : Sp := fun vs H Q _ => ∃ (b : Int) (n : Nat), vs = [.int b, .int n] ∧ b.natAbs < 1000000 ∧ n < 1000000 ∧ Q (.int (b ^ n)) H
theorem ok_law_power (T : Txt P K mg A) : FnOk P w K mg base CX0 1 A.a_law_power A.d_law_power ["base", "exponent"] sp_law_power := by
  refine T.F_law_power.ok sc_law_power (fun vs H Q E h => ?_) (fun cdv Ar outer s H vs Q E hr h => ?_)
  · obtain ⟨_, _, rfl, _⟩ := h; rfl
  have nd := sc_law_power.nd
  obtain ⟨b, n, rfl, hb, hn, q⟩ := h
  refine ⟨_, (pss_cons (ps_set (i := 2) nd rfl (.inl rfl) pe_int)
    (pss_cons (ps_for PassesOwn.never rfl (pi_range1 (by rfl) T.n_range (pa_cons (pv 1) pa_nil)) (pg_name (i := 3) nd rfl (Or.inl rfl)) (pss_one (ps_set (i := 2) nd rfl (.inl rfl) (pe_op op_mul (pv 2) (pv 0)))))
    (pss_one (ps_ret (pv 2))))), ?_⟩
  walk_at "rd"
  refine KR.rngI n rfl (by omega) (KR.fwR (fun k σ' H' => H' = H ∧ ∃ z, σ' = [some (.int b), some (.int n), some (.int (b ^ k)), z]) ⟨rfl, none, by rw [Int.pow_zero]; rfl⟩ ?_ ?_)
  · rintro k σ' H' hk ⟨rfl, z, rfl⟩
    walk_at "rd"
    exact ⟨rfl, _, by rw [Int.pow_succ]; rfl⟩
  · rintro σ' H' ⟨rfl, z, rfl⟩
    walk_at "rd"
    exact q
def sp_law_primes : Sp := fun vs H Q _ => ∃ _u : Unit, vs = [] ∧ ∀ L, H L = none → Q (.ref L) (upd H L (.lst (primesL.map V.int)))
theorem ok_law_primes (T : Txt P K mg A) : FnOk P w K mg base CX0 1 A.a_law_primes A.d_law_primes [] sp_law_primes := by
  refine T.F_law_primes.ok sc_law_primes (fun vs H Q E h => ?_) (fun cdv Ar outer s H vs Q E hr h => ?_)
  · obtain ⟨_, rfl, _⟩ := h; rfl
  have nd := sc_law_primes.nd
  obtain ⟨_, rfl, q⟩ := h
  refine ⟨_, (pss_one (ps_ret (pe_lst (pa_cons pe_int (pa_cons pe_int (pa_cons pe_int (pa_cons pe_int (pa_cons pe_int (pa_cons pe_int (pa_cons pe_int (pa_cons pe_int (pa_cons pe_int (pa_cons pe_int (pa_cons pe_int (pa_cons pe_int (pa_cons pe_int (pa_cons pe_int (pa_cons pe_int (pa_cons pe_int (pa_cons pe_int (pa_cons pe_int (pa_cons pe_int (pa_cons pe_int (pa_cons pe_int (pa_cons pe_int (pa_cons pe_int (pa_cons pe_int (pa_cons pe_int pa_nil)))))))))))))))))))))))))))), ?_⟩
  walk_at "rd"
  exact ⟨by show (25 : Nat) ≤ sizeLine; decide, fun L hL => q L hL⟩
theorem prime_get {k : Nat} (h : k < 25) : ∃ p, (primesL.map V.int)[k]? = some (V.int p) ∧ p ∈ primesL ∧ 2 ≤ p ∧ p < 100 := by
  have hl : k < primesL.length := h
  have hm := List.getElem_mem hl
  obtain ⟨q, e, _, h2, h9⟩ := pr_of hm
  exact ⟨primesL[k], by rw [List.getElem?_map, List.getElem?_eq_getElem hl]; rfl, hm, by omega, by omega⟩
def sp_law_number : Sp := fun vs H Q _ => ∃ (a : Addr) (g : Bool), vs = [.ref a, .bl g] ∧ Pool H a ∧ ∀ n H2, Sm n → okL n → ExB a H H2 → Pool H2 a → Q (.int n) H2
theorem ok_law_number (T : Txt P K mg A) : FnOk P w K mg base CX0 2 A.a_law_number A.d_law_number ["pool", "great"] sp_law_number := by
  refine T.F_law_number.ok sc_law_number (fun vs H Q E h => ?_) (fun cdv Ar outer s H vs Q E hr h => ?_)
  · obtain ⟨_, _, rfl, _⟩ := h; rfl
  have nd := sc_law_number.nd
  obtain ⟨a, g, rfl, hp, q⟩ := h
  refine ⟨_, (pss_cons (ps_set (i := 2) nd rfl (.inl rfl) (pe_call (ok_law_draw T) (hr.mono (by decide)) (by rfl) T.g_law_draw T.k_law_draw T.b_law_draw .nil pass0 (pa_cons (pv 0) (pa_cons pe_int pa_nil))))
    (Evl.pss_cut (ps_if (PW.pt (pw_and (pt_val (pv 1)) (pw_and1 (pt_cmpR op_eq (pv 2) pe_int (nomark _))))) (pss_one (ps_ret (pe_op op_mul (pe_op op_pow pe_int pe_int) (pe_op op_sub pe_int (pe_op op_mul pe_int (pe_call (ok_law_draw T) (hr.mono (by decide)) (by rfl) T.g_law_draw T.k_law_draw T.b_law_draw .nil pass0 (pa_cons (pv 0) (pa_cons pe_int pa_nil)))))))) pss_nil)
    (pss_cons (ps_set (i := 3) nd rfl (.inl rfl) (pe_op op_sub pe_int (pe_op op_mul pe_int (pe_call (ok_law_draw T) (hr.mono (by decide)) (by rfl) T.g_law_draw T.k_law_draw T.b_law_draw .nil pass0 (pa_cons (pv 0) (pa_cons pe_int pa_nil))))))
    (Evl.pss_cut (ps_set (i := 4) nd rfl (.inl rfl) (pe_ifExp (pt_cmpR op_lt (pv 2) pe_int (nomark _)) pe_int pe_int))
    (pss_cons (ps_for PassesOwn.never rfl (pi_range1 (by rfl) T.n_range (pa_cons (pe_ifExp (pt_val (pv 1)) pe_int pe_int) pa_nil)) (pg_name (i := 5) nd rfl (Or.inl rfl)) (pss_cons (ps_set (i := 6) nd rfl (.inl rfl) (pe_ix ix_list (pe_call0 (ok_law_primes T) (hr.mono (by decide)) (by rfl) T.g_law_primes T.k_law_primes T.b_law_primes .nil pass0) (pe_call (ok_law_draw T) (hr.mono (by decide)) (by rfl) T.g_law_draw T.k_law_draw T.b_law_draw .nil pass0 (pa_cons (pv 0) (pa_cons (pv 4) pa_nil))) (fun _ _ => rfl)))
    (pss_one (ps_for PassesOwn.never rfl (pi_range1 (by rfl) T.n_range (pa_cons (pe_call (ok_law_draw T) (hr.mono (by decide)) (by rfl) T.g_law_draw T.k_law_draw T.b_law_draw .nil pass0 (pa_cons (pv 0) (pa_cons pe_int pa_nil))) pa_nil)) (pg_name (i := 7) nd rfl (Or.inl rfl)) (pss_one (ps_if (PW.pt (pw_and (pt_cmpR op_le (pe_op op_mul (pv 3) (pv 6)) (pe_op op_pow pe_int pe_int) (nomark _)) (pw_and1 (pt_cmpR op_ge (pe_op op_mul (pv 3) (pv 6)) (pe_un un_neg (pe_op op_pow pe_int pe_int)) (nomark _))))) (pss_one (ps_set (i := 3) nd rfl (.inl rfl) (pe_op op_mul (pv 3) (pv 6)))) pss_nil))))))
    (pss_one (ps_ret (pv 3)))))))), ?_⟩
  have e9 : (10 : Int) ^ Int.toNat 9 = 1000000000 := by decide
  walk_at "rd"
  refine ⟨a, 8, rfl, hp, by decide, by decide, fun kind H1 hk0 hk1 x1 p1 => ?_⟩
  walk_at "rd"
  refine KR.cut (Mid := fun σ' H' => σ' = [some (.ref a), some (.bl g), some (.int kind), none, none, none, none, none] ∧ H' = H1) ?_ ?_
  · cases g with
    | false =>
      walk_at "rd"
      exact ⟨rfl, rfl⟩
    | true =>
      walk_at "rd"
      refine KR.iteD (fun _ => ?_) (fun _ => ?_)
      · walk_at "rd"
        refine ⟨a, 2, rfl, p1, by decide, by decide, fun s H2 hs0 hs1 x2 p2 => ?_⟩
        walk_at "rd"
        rw [e9]
        refine q _ H2 ?_ ?_ (x1.trans x2) p2
        · rcases (show s = 0 ∨ s = 1 by omega) with rfl | rfl
          · exact sm_1e9
          · exact sm_neg sm_1e9
        · constructor <;> omega
      · walk_at "rd"
        exact ⟨rfl, rfl⟩
  rintro σ' H1' ⟨rfl, rfl⟩
  walk_at "rd"
  refine ⟨a, 2, rfl, p1, by decide, by decide, fun s H2 hs0 hs1 x2 p2 => ?_⟩
  have hsm : Sm (1 - 2 * s) := by
    rcases (show s = 0 ∨ s = 1 by omega) with rfl | rfl
    · exact .one
    · exact sm_neg .one
  have hbd : -1000000000 ≤ 1 - 2 * s ∧ 1 - 2 * s ≤ 1000000000 := by omega
  have x12 := x1.trans x2
  walk_at "rd"
  generalize 1 - 2 * s = n0 at hsm hbd
  refine KR.cut (Mid := fun σ' H' => ∃ size : Int, (size = 5 ∨ size = 25) ∧ σ' = [some (.ref a), some (.bl g), some (.int kind), some (.int n0), some (.int size), none, none, none] ∧ H' = H2) ?_ ?_
  · walk_at "rd"
    refine KR.iteD (fun _ => ?_) (fun _ => ?_)
    · walk_at "rd"
      exact ⟨5, .inl rfl, rfl, rfl⟩
    · walk_at "rd"
      exact ⟨25, .inr rfl, rfl, rfl⟩
  rintro σ' H3 ⟨size, hsz, rfl, rfl⟩
  walk_at "rd"
  obtain ⟨cnt, ecnt, hcnt⟩ : ∃ cnt : Nat, (if g = true then (9 : Int) else 4) = (cnt : Int) ∧ cnt ≤ 9 := by
    cases g with
    | true => exact ⟨9, rfl, by decide⟩
    | false => exact ⟨4, rfl, by decide⟩
  refine ifQ ?_
  rw [ecnt]
  walk_at "rd"
  refine KR.rngI cnt rfl (by omega) (KR.fwR (fun i σ' H' => ∃ (n : Int) (z1 z2 z3 : Option V), Sm n ∧ okL n ∧ ExB a H3 H' ∧ Pool H' a ∧ σ' = [some (.ref a), some (.bl g), some (.int kind), some (.int n), some (.int size), z1, z2, z3]) ⟨n0, none, none, none, hsm, hbd, ExB.refl _ _, p2, rfl⟩ ?_ ?_)
  · rintro i σ' H4 hi ⟨n, z1, z2, z3, hn, hn2, x4, p4, rfl⟩
    walk_at "rd"
    refine ⟨(), rfl, fun L hL => ?_⟩
    walk_at "rd"
    have hLa : L ≠ a := by
      obtain ⟨cs, _, ha⟩ := p4
      intro z
      rw [z, ha] at hL
      cases hL
    refine ⟨a, size, rfl, p4.ex (Evl.Ex.new hL), by omega, by omega, fun v H5 hv0 hv1 x5 p5 => ?_⟩
    obtain ⟨j, rfl⟩ := Int.eq_ofNat_of_zero_le hv0
    obtain ⟨p, hp1, hp2, hp3, hp4⟩ := prime_get (k := j) (by omega)
    refine KR.ixL (.inl (.inl (x5 _ _ hLa upd_same))) (atI_nat hp1) ?_
    have x45 := (ExB.of (Evl.Ex.new (o := .lst (primesL.map V.int)) hL)).trans x5
    walk_at "rd"
    refine ⟨a, 3, rfl, p5, by decide, by decide, fun w' H6 hw0 hw1 x6 p6 => ?_⟩
    obtain ⟨c, rfl⟩ := Int.eq_ofNat_of_zero_le hw0
    walk_at "rd"
    refine KR.rngI c rfl (by omega) (KR.fwR (fun k σ' H' => H' = H6 ∧ ∃ (n : Int) (z3 : Option V), Sm n ∧ okL n ∧ σ' = [some (.ref a), some (.bl g), some (.int kind), some (.int n), some (.int size), some (.int i), some (.int p), z3]) ⟨rfl, n, z3, hn, hn2, rfl⟩ ?_ ?_)
    · rintro k σ' H7 hk ⟨rfl, n, z3, hn, ⟨hn3, hn4⟩, rfl⟩
      walk_at "rd"
      refine KR.iteD (fun c1 => ?_) (fun c1 => ?_)
      · walk_at "rd"
        refine KR.iteD (fun c2 => ?_) (fun c2 => ?_)
        · walk_at "rd"
          rw [e9] at c1 c2
          exact ⟨rfl, n * p, _, sm_pr hn hp2, ⟨c2, c1⟩, rfl⟩
        · walk_at "rd"
          exact ⟨rfl, n, _, hn, ⟨hn3, hn4⟩, rfl⟩
      · walk_at "rd"
        exact ⟨rfl, n, _, hn, ⟨hn3, hn4⟩, rfl⟩
    · rintro σ' H7 ⟨rfl, n, z3, hn, hn2, rfl⟩
      exact ⟨n, _, _, _, hn, hn2, (x4.trans x45).trans x6, p6, rfl⟩
  · rintro σ' H4 ⟨n, z1, z2, z3, hn, hn2, x4, p4, rfl⟩
    walk_at "rd"
    exact q n H4 hn hn2 (x12.trans x4) p4
end
end K9
namespace K9
open PySem PySem.Spec PyProof.Rows L2 K7
local macro_rules | `(tactic| walk_at "rc") => `(tactic| first
  | assumption
  | (show (0 : Int) < _; omega)
  | (show (0 : Int) < _ ∧ _ < (1073741824 : Int); exact ⟨by omega, by omega⟩)
  | (show (-(2 ^ 64 : Int) < _ ∧ _ < (2 ^ 64 : Int)) ∨ _; exact .inl ⟨by omega, by omega⟩)
  | (show _ ∨ (-(2 ^ 64 : Int) < _ ∧ _ < (2 ^ 64 : Int)); exact .inr ⟨by omega, by omega⟩)
  | (show (0 : Int) ≤ _ ∧ _ ≤ (1000000 : Int) ∧ _ < 2 ^ 64; exact ⟨by decide, by decide, by decide⟩))
local macro_rules | `(tactic| walk_at "rd") => `(tactic| repeat (first
  | with_reducible apply KR.seq
  | with_reducible apply KR.asg
  | with_reducible apply KR.drop
  | with_reducible apply KR.ret
  | with_reducible apply KR.retN
  | with_reducible apply KR.next
  | with_reducible apply KR.ifs
  | with_reducible refine KR.var rfl ?_
  | with_reducible refine L2.iteT ?_
  | with_reducible refine L2.iteF ?_
  | with_reducible refine KR.iteNF ?_
  | with_reducible refine KR.iteNT ?_
  | with_reducible apply KR.con
  | with_reducible apply KR.op
  | with_reducible apply KR.opI0
  | ((with_reducible refine KR.opI ?rc ?_); (case rc => walk_at "rc"))
  | with_reducible apply KR.un
  | with_reducible apply KR.unI
  | with_reducible apply KR.eqI
  | with_reducible apply KR.neI
  | with_reducible apply KR.test
  | with_reducible apply KR.tb'
  | with_reducible apply KR.exbl
  | with_reducible apply KR.and'
  | with_reducible apply KR.or'
  | with_reducible apply KR.not'
  | with_reducible apply KR.chain
  | with_reducible apply KR.call
  | with_reducible apply KR.callS
  | with_reducible apply KR.make
  | with_reducible apply KR.bm
  | with_reducible apply KR.errF
  | with_reducible apply KR.cons
  | with_reducible apply KR.nil
  | with_reducible apply KR.cb
  | with_reducible apply KR.cInt1
  | with_reducible apply KR.cI1
  | with_reducible apply KR.cI2
  | with_reducible apply KR.isi_ii
  | with_reducible apply KR.isi_ib
  | with_reducible apply KR.bits
  | with_reducible apply KR.exint
  | with_reducible apply KR.ifx
  | with_reducible refine KR.aug rfl ?_
  | with_reducible apply KR.ipI
  | with_reducible apply KR.for'
  | with_reducible apply KR.rng1
  | with_reducible apply KR.rng2
  | with_reducible apply KR.ilist
  | with_reducible apply KR.itup
  | with_reducible apply KR.tup
  | with_reducible apply KR.lst
  | with_reducible apply KR.andV
  | with_reducible apply KR.orV
  | with_reducible apply KR.notV
  | with_reducible apply KR.asgG
  | with_reducible apply KR.sub
  | with_reducible apply KR.fld
  | with_reducible apply KR.prop
  | with_reducible apply KR.meth
  | with_reducible apply KR.par
  | with_reducible apply KR.parN
  | with_reducible apply KR.raise1
  | with_reducible apply KR.raise0
  | with_reducible apply KR.exv
  | with_reducible apply KR.lc
  | with_reducible apply KR.ienT
  | with_reducible apply KR.sfld
  | with_reducible apply KR.sl
  | with_reducible apply KR.part
  | with_reducible apply KR.nopart
  | with_reducible apply KR.isNo
  | with_reducible refine KR.nnT ?_
  | with_reducible refine KR.niF ?_
  | with_reducible refine KR.nrF ?_
  | with_reducible refine KR.mnT ?_
  | with_reducible refine KR.miF ?_
  | with_reducible refine KR.mrF ?_))
theorem wlk_iff {a b : Int} : wlk a b = true ↔ ∃ x ∈ sqs, ∃ y ∈ sqs, ∃ z ∈ sqs, x.2 + y.2 + z.2 > 0 ∧ (a * x.1 + b * y.1 - z.1) % 16 = 0 := by
  unfold wlk
  simp only [List.any_eq_true, Bool.and_eq_true, decide_eq_true_iff]
section
variable {P : Program} {w : World} {K : PySem.W.Frag} {mg : Str → Option Value} {base : Heap} {A : Ad}
def sp_law_is_square : Sp := fun vs H Q _ => ∃ (p : Nat) (u : Int), vs = [.int p, .int u] ∧ p ∈ oddP ∧ ¬ (p : Int) ∣ u ∧ ∀ H2, Evl.Ex H H2 → Q (.bl (!nr p u)) H2
theorem ok_law_is_square (T : Txt P K mg A) : FnOk P w K mg base CX0 1 A.a_law_is_square A.d_law_is_square ["p", "u"] sp_law_is_square := by
  refine T.F_law_is_square.ok sc_law_is_square (fun vs H Q E h => ?_) (fun cdv Ar outer s H vs Q E hr h => ?_)
  · obtain ⟨_, _, rfl, _⟩ := h; rfl
  have nd := sc_law_is_square.nd
  obtain ⟨p, u, rfl, hp, hu, q⟩ := h
  obtain ⟨_, _, h3, h98, _⟩ := odd_mem hp
  refine ⟨_, (pss_one (ps_ret (pe_cmpR op_in_seq (pe_op op_mod (pe_callTy call_int1 (by rfl) T.n_int (by decide +kernel) (pa_cons (pv 1) pa_nil)) (pv 0)) (pe_lc (own := [("t", 2)]) (g := gName 2) (tt := tYes) rfl nd (pi_range2 (by rfl) T.n_range (pa_cons pe_int (pa_cons (pv 0) pa_nil))) (blkOk_by (own := [("t", 2)]) (N := ["p", "u", "t"]) (sc := defScope s_law_is_square) (by decide +kernel)) (fun _ _ _ _ _ => pg_name (i := 2) nd rfl (Or.inl rfl)) (fun _ _ _ _ _ => pts_nil) (fun _ _ _ _ _ => (pe_op op_mod (pe_callTy call_int1 (by rfl) T.n_int (by decide +kernel) (pa_cons (pe_op op_mul (pv 2) (pv 2)) pa_nil)) (pv 0)))) (by rfl)))), ?_⟩
  walk_at "rd"
  refine KR.lrngNN 1 p rfl rfl (by decide) (by omega) (KR.lwR (fun _ => true) (fun k => .int ((k : Int) * k % p)) (by omega) (fun _ => rfl) (fun _ _ _ _ _ => KR.etYes) ?_ ?_)
  · intro k H1 e1 hk1 hk _ H3 e3 Q' q'
    walk_at "rd"
    exact q' H3 (Evl.Ex.refl _)
  intro L H2 hL e2 hv
  rw [KR.giv_allA _ _ (fun _ => rfl)] at hv
  have hl : (List.range (p - 1)).map (fun k => V.int (((1 + k : Nat) : Int) * ((1 + k : Nat) : Int) % p)) = ((List.range (p - 1)).map fun k : Nat => (((k : Int) + 1) * ((k : Int) + 1)) % (p : Int)).map V.int := by
    rw [List.map_map]
    refine List.map_congr_left fun k _ => ?_
    have e : ((1 + k : Nat) : Int) = (k : Int) + 1 := by omega
    show V.int (((1 + k : Nat) : Int) * ((1 + k : Nat) : Int) % p) = V.int (((k : Int) + 1) * ((k : Int) + 1) % p)
    rw [e]
  rw [hl] at hv
  walk_at "rd"
  refine ⟨L, _, rfl, .inl (.inl (.inl hv)), rfl, flat_ints _, ?_⟩
  rw [inV_int]
  have hd : decide (u % (p : Int) ∈ (List.range (p - 1)).map fun k : Nat => (((k : Int) + 1) * ((k : Int) + 1)) % (p : Int)) = !nr p u := by
    have := sq_list hp hu
    cases hn : nr p u with
    | true => exact decide_eq_false fun z => by rw [this.mp z] at hn; cases hn
    | false => exact decide_eq_true (this.mpr hn)
  rw [hd]
  exact q H2 e2
def sp_law_walked : Sp := fun vs H Q _ => ∃ a b : Int, vs = [.int a, .int b] ∧ okA a ∧ okA b ∧ ∀ H2, Evl.Ex H H2 → Q (.int (if wlk a b = true then 1 else -1)) H2
theorem ok_law_walked (T : Txt P K mg A) : FnOk P w K mg base CX0 1 A.a_law_walked A.d_law_walked ["a", "b"] sp_law_walked := by
  refine T.F_law_walked.ok sc_law_walked (fun vs H Q E h => ?_) (fun cdv Ar outer s H vs Q E hr h => ?_)
  · obtain ⟨_, _, rfl, _⟩ := h; rfl
  have nd := sc_law_walked.nd
  obtain ⟨a, b, rfl, ⟨ha1, ha2⟩, ⟨hb1, hb2⟩, q⟩ := h
  refine ⟨_, (pss_cons (ps_set (i := 2) nd rfl (.inl rfl) (pe_lst (pa_cons (pe_tup (pa_cons pe_int (pa_cons pe_int pa_nil))) (pa_cons (pe_tup (pa_cons pe_int (pa_cons pe_int pa_nil))) (pa_cons (pe_tup (pa_cons pe_int (pa_cons pe_int pa_nil))) (pa_cons (pe_tup (pa_cons pe_int (pa_cons pe_int pa_nil))) pa_nil))))))
    (pss_cons (ps_for PassesOwn.never rfl (pi_list (pv 2)) (pg_tup rfl (pgs_cons (pg_name (i := 3) nd rfl (Or.inl rfl)) (pgs_cons (pg_name (i := 4) nd rfl (Or.inl rfl)) pgs_nil))) (pss_one (ps_for PassesOwn.never rfl (pi_list (pv 2)) (pg_tup rfl (pgs_cons (pg_name (i := 5) nd rfl (Or.inl rfl)) (pgs_cons (pg_name (i := 6) nd rfl (Or.inl rfl)) pgs_nil))) (pss_one (ps_for PassesOwn.never rfl (pi_list (pv 2)) (pg_tup rfl (pgs_cons (pg_name (i := 7) nd rfl (Or.inl rfl)) (pgs_cons (pg_name (i := 8) nd rfl (Or.inl rfl)) pgs_nil))) (pss_one (ps_if (PW.pt (pw_and (pt_cmpR op_gt (pe_op op_add (pe_op op_add (pv 4) (pv 6)) (pv 8)) pe_int (nomark _)) (pw_and1 (pt_cmpR op_eq (pe_op op_mod (pe_callTy call_int1 (by rfl) T.n_int (by decide +kernel) (pa_cons (pe_op op_sub (pe_op op_add (pe_op op_mul (pv 0) (pv 3)) (pe_op op_mul (pv 1) (pv 5))) (pv 7)) pa_nil)) pe_int) pe_int (nomark _))))) (pss_one (ps_ret pe_int)) pss_nil)))))))
    (pss_one (ps_ret (pe_un un_neg pe_int))))), ?_⟩
  walk_at "rd"
  have sz2 : (2 : Nat) ≤ sizeLine := by decide
  refine ⟨sz2, fun t1 h1 => ?_⟩
  walk_at "rd"
  refine ⟨sz2, fun t2 h2' => ?_⟩
  walk_at "rd"
  refine ⟨sz2, fun t3 h3 => ?_⟩
  walk_at "rd"
  refine ⟨sz2, fun t4 h4 => ?_⟩
  walk_at "rd"
  refine ⟨by show (4 : Nat) ≤ sizeLine; decide, fun L hL => ?_⟩
  have g4 := Evl.Ex.new (o := .tup [.int 9, .int 1]) h4
  have g3 := (Evl.Ex.new (o := .tup [.int 1, .int 1]) h3).trans g4
  have g2 := (Evl.Ex.new (o := .tup [.int 4, .int 0]) h2').trans g3
  have g1 := (Evl.Ex.new (o := .tup [.int 0, .int 0]) h1).trans g2
  have r1 := g2 t1 _ upd_same
  have r2 := g3 t2 _ upd_same
  have r3 := g4 t3 _ upd_same
  have r4 : (upd (upd (upd (upd H t1 (.tup [.int 0, .int 0])) t2 (.tup [.int 4, .int 0])) t3 (.tup [.int 1, .int 1])) t4 (.tup [.int 9, .int 1])) t4 = some (.tup [.int 9, .int 1]) := upd_same
  generalize hG4 : upd (upd (upd (upd H t1 _) t2 _) t3 _) t4 _ = G4 at g1 g2 g3 g4 r1 r2 r3 r4 hL ⊢
  generalize hG : upd G4 L _ = H1
  have e1 : Evl.Ex G4 H1 := by rw [← hG]; exact Evl.Ex.new hL
  have lL : H1 L = some (.lst (([t1, t2, t3, t4] : List Addr).map V.ref)) := by rw [← hG]; exact upd_same
  have hat : ∀ (k : Nat) (r : Addr), ([t1, t2, t3, t4] : List Addr)[k]? = some r → ∃ x, sqs[k]? = some x ∧ H1 r = some (.tup [.int (x.1 : Nat), .int (x.2 : Nat)]) := by
    intro k r hk
    match k with
    | 0 => have : t1 = r := Option.some.inj hk; rw [← this]; exact ⟨(0, 0), rfl, e1 _ _ r1⟩
    | 1 => have : t2 = r := Option.some.inj hk; rw [← this]; exact ⟨(4, 0), rfl, e1 _ _ r2⟩
    | 2 => have : t3 = r := Option.some.inj hk; rw [← this]; exact ⟨(1, 1), rfl, e1 _ _ r3⟩
    | 3 => have : t4 = r := Option.some.inj hk; rw [← this]; exact ⟨(9, 1), rfl, e1 _ _ r4⟩
    | k + 4 => simp at hk
  have hlen : ([t1, t2, t3, t4] : List Addr).length = sqs.length := rfl
  have xAll := g1.trans e1
  generalize ([t1, t2, t3, t4] : List Addr) = rs at lL hat hlen
  clear hG hG4 g1 g2 g3 g4 r1 r2 r3 r4 h1 h2' h3 h4 hL e1
  have sL : SqL K H1 L (rs.map V.ref) := .inl (.inl lL)
  have getx : ∀ (k : Nat) (v : V), (rs.map V.ref)[k]? = some v → ∃ r x, v = .ref r ∧ sqs[k]? = some x ∧ x ∈ sqs ∧ x.1 ≤ 9 ∧ x.2 ≤ 1 ∧ SqT K H1 r [V.int (x.1 : Nat), V.int (x.2 : Nat)] := by
    intro k v hv
    rw [List.getElem?_map] at hv
    obtain ⟨r, hr, rfl⟩ := Option.map_eq_some_iff.mp hv
    obtain ⟨x, hx, hh⟩ := hat k r hr
    have hm := List.mem_of_getElem? hx
    have tab : ∀ x ∈ sqs, x.1 ≤ 9 ∧ x.2 ≤ 1 := by decide
    exact ⟨r, x, rfl, hx, hm, (tab x hm).1, (tab x hm).2, .inl (.inl hh)⟩
  walk_at "rd"
  refine KR.ilistN sL (KR.fwLg (xs := rs.map V.ref) (fun kx σ' H' => H' = H1 ∧ (∀ j, j < kx → ∀ x, sqs[j]? = some x → ∀ y ∈ sqs, ∀ z ∈ sqs, ¬ (x.2 + y.2 + z.2 > 0 ∧ (a * x.1 + b * y.1 - z.1) % 16 = 0)) ∧ ∃ z1 z2 z3 z4 z5 z6, σ' = [some (.int a), some (.int b), some (.ref L), z1, z2, z3, z4, z5, z6])
    ⟨rfl, fun j hj => absurd hj (Nat.not_lt_zero _), none, none, none, none, none, none, rfl⟩ ?_ ?_ ?_)
  · rintro k σ' H' _ ⟨rfl, _⟩; exact sL
  · rintro kx v σ' H' hv ⟨rfl, hx0, z1, z2, z3, z4, z5, z6, rfl⟩
    obtain ⟨rx, x, rfl, hx, hxm, hx9, hx1, sx⟩ := getx kx v hv
    refine KR.gtup2 sx rfl ?_
    walk_at "rd"
    refine KR.ilistN sL (KR.fwLg (xs := rs.map V.ref) (fun ky σ' H'' => H'' = H' ∧ (∀ j, j < ky → ∀ y, sqs[j]? = some y → ∀ z ∈ sqs, ¬ (x.2 + y.2 + z.2 > 0 ∧ (a * x.1 + b * y.1 - z.1) % 16 = 0)) ∧ ∃ z3 z4 z5 z6, σ' = [some (.int a), some (.int b), some (.ref L), some (.int (x.1 : Nat)), some (.int (x.2 : Nat)), z3, z4, z5, z6])
      ⟨rfl, fun j hj => absurd hj (Nat.not_lt_zero _), z3, z4, z5, z6, rfl⟩ ?_ ?_ ?_)
    · rintro k σ' H' _ ⟨rfl, _⟩; exact sL
    · rintro ky v σ' H'' hv ⟨rfl, hy0, z3, z4, z5, z6, rfl⟩
      obtain ⟨ry, y, rfl, hy, hym, hy9, hy1, sy⟩ := getx ky v hv
      refine KR.gtup2 sy rfl ?_
      walk_at "rd"
      refine KR.ilistN sL (KR.fwLg (xs := rs.map V.ref) (fun kz σ' H3 => H3 = H'' ∧ (∀ j, j < kz → ∀ z, sqs[j]? = some z → ¬ (x.2 + y.2 + z.2 > 0 ∧ (a * x.1 + b * y.1 - z.1) % 16 = 0)) ∧ ∃ z5 z6, σ' = [some (.int a), some (.int b), some (.ref L), some (.int (x.1 : Nat)), some (.int (x.2 : Nat)), some (.int (y.1 : Nat)), some (.int (y.2 : Nat)), z5, z6])
        ⟨rfl, fun j hj => absurd hj (Nat.not_lt_zero _), z5, z6, rfl⟩ ?_ ?_ ?_)
      · rintro k σ' H' _ ⟨rfl, _⟩; exact sL
      · rintro kz v σ' H3 hv ⟨rfl, hz0, z5, z6, rfl⟩
        obtain ⟨rz, z, rfl, hz, hzm, hz9, hz1, sz⟩ := getx kz v hv
        refine KR.gtup2 sz rfl ?_
        walk_at "rd"
        refine KR.iteD (fun c1 => ?_) (fun c1 => ?_)
        · walk_at "rd"
          refine KR.iteD (fun c2 => ?_) (fun c2 => ?_)
          · walk_at "rd"
            have : wlk a b = true := wlk_iff.mpr ⟨x, hxm, y, hym, z, hzm, by omega, c2⟩
            have q' := q H3 xAll
            rw [if_pos this] at q'
            exact q'
          · walk_at "rd"
            refine ⟨rfl, fun j hj z' hz' => ?_, _, _, rfl⟩
            rcases Nat.lt_or_ge j kz with cc | cc
            · exact hz0 j cc z' hz'
            · have : j = kz := by omega
              rw [this, hz] at hz'
              rw [← Option.some.inj hz']
              exact fun w => c2 w.2
        · walk_at "rd"
          refine ⟨rfl, fun j hj z' hz' => ?_, _, _, rfl⟩
          rcases Nat.lt_or_ge j kz with cc | cc
          · exact hz0 j cc z' hz'
          · have : j = kz := by omega
            rw [this, hz] at hz'
            rw [← Option.some.inj hz']
            exact fun w => c1 (by have := w.1; omega)
      · rintro σ' H3 ⟨rfl, hz0, z5, z6, rfl⟩
        rw [List.length_map, hlen] at hz0
        refine ⟨rfl, fun j hj y' hy' z' hzm' => ?_, _, _, _, _, rfl⟩
        rcases Nat.lt_or_ge j ky with cc | cc
        · exact hy0 j cc y' hy' z' hzm'
        · have : j = ky := by omega
          rw [this, hy] at hy'
          rw [← Option.some.inj hy']
          obtain ⟨i, hi, hi2⟩ := List.getElem_of_mem hzm'
          exact hz0 i hi z' (by rw [List.getElem?_eq_getElem hi, hi2])
    · rintro σ' H'' ⟨rfl, hy0, z3, z4, z5, z6, rfl⟩
      rw [List.length_map, hlen] at hy0
      refine ⟨rfl, fun j hj x' hx' y' hym' z' hzm' => ?_, _, _, _, _, _, _, rfl⟩
      rcases Nat.lt_or_ge j kx with cc | cc
      · exact hx0 j cc x' hx' y' hym' z' hzm'
      · have : j = kx := by omega
        rw [this, hx] at hx'
        rw [← Option.some.inj hx']
        obtain ⟨i, hi, hi2⟩ := List.getElem_of_mem hym'
        exact hy0 i hi y' (by rw [List.getElem?_eq_getElem hi, hi2]) z' hzm'
  · rintro σ' H' ⟨rfl, hx0, z1, z2, z3, z4, z5, z6, rfl⟩
    rw [List.length_map, hlen] at hx0
    walk_at "rd"
    have hw : ¬ wlk a b = true := fun z => by
      obtain ⟨x, hxm, y, hym, z, hzm, hh⟩ := wlk_iff.mp z
      obtain ⟨i, hi, hi2⟩ := List.getElem_of_mem hxm
      exact hx0 i hi x (by rw [List.getElem?_eq_getElem hi, hi2]) y hym z hzm hh
    have q' := q H' xAll
    rw [if_neg hw] at q'
    exact q'
end
end K9
namespace K9
open PySem PySem.Spec PyProof.Rows L2 K7
local macro_rules | `(tactic| walk_at "rc") => `(tactic| first
  | assumption
  | (show (0 : Int) < _; omega)
  | (show (0 : Int) < _ ∧ _ < (1073741824 : Int); exact ⟨by omega, by omega⟩)
  | (show (-(2 ^ 64 : Int) < _ ∧ _ < (2 ^ 64 : Int)) ∨ _; exact .inl ⟨by omega, by omega⟩)
  | (show _ ∨ (-(2 ^ 64 : Int) < _ ∧ _ < (2 ^ 64 : Int)); exact .inr ⟨by omega, by omega⟩)
  | (show (0 : Int) ≤ _ ∧ _ ≤ (1000000 : Int) ∧ _ < 2 ^ 64; exact ⟨by decide, by decide, by decide⟩))
local macro_rules | `(tactic| walk_at "rd") => `(tactic| repeat (first
  | with_reducible apply KR.seq
  | with_reducible apply KR.asg
  | with_reducible apply KR.drop
  | with_reducible apply KR.ret
  | with_reducible apply KR.retN
  | with_reducible apply KR.next
  | with_reducible apply KR.ifs
  | with_reducible refine KR.var rfl ?_
  | with_reducible refine L2.iteT ?_
  | with_reducible refine L2.iteF ?_
  | with_reducible refine KR.iteNF ?_
  | with_reducible refine KR.iteNT ?_
  | with_reducible apply KR.con
  | with_reducible apply KR.op
  | with_reducible apply KR.opI0
  | ((with_reducible refine KR.opI ?rc ?_); (case rc => walk_at "rc"))
  | with_reducible apply KR.un
  | with_reducible apply KR.unI
  | with_reducible apply KR.eqI
  | with_reducible apply KR.neI
  | with_reducible apply KR.test
  | with_reducible apply KR.tb'
  | with_reducible apply KR.exbl
  | with_reducible apply KR.and'
  | with_reducible apply KR.or'
  | with_reducible apply KR.not'
  | with_reducible apply KR.chain
  | with_reducible apply KR.call
  | with_reducible apply KR.callS
  | with_reducible apply KR.make
  | with_reducible apply KR.bm
  | with_reducible apply KR.errF
  | with_reducible apply KR.cons
  | with_reducible apply KR.nil
  | with_reducible apply KR.cb
  | with_reducible apply KR.cInt1
  | with_reducible apply KR.cI1
  | with_reducible apply KR.cI2
  | with_reducible apply KR.isi_ii
  | with_reducible apply KR.isi_ib
  | with_reducible apply KR.bits
  | with_reducible apply KR.exint
  | with_reducible apply KR.ifx
  | with_reducible refine KR.aug rfl ?_
  | with_reducible apply KR.ipI
  | with_reducible apply KR.for'
  | with_reducible apply KR.rng1
  | with_reducible apply KR.rng2
  | with_reducible apply KR.ilist
  | with_reducible apply KR.itup
  | with_reducible apply KR.tup
  | with_reducible apply KR.lst
  | with_reducible apply KR.andV
  | with_reducible apply KR.orV
  | with_reducible apply KR.notV
  | with_reducible apply KR.asgG
  | with_reducible apply KR.sub
  | with_reducible apply KR.fld
  | with_reducible apply KR.prop
  | with_reducible apply KR.meth
  | with_reducible apply KR.par
  | with_reducible apply KR.parN
  | with_reducible apply KR.raise1
  | with_reducible apply KR.raise0
  | with_reducible apply KR.exv
  | with_reducible apply KR.lc
  | with_reducible apply KR.ienT
  | with_reducible apply KR.sfld
  | with_reducible apply KR.sl
  | with_reducible apply KR.part
  | with_reducible apply KR.nopart
  | with_reducible apply KR.isNo
  | with_reducible refine KR.nnT ?_
  | with_reducible refine KR.niF ?_
  | with_reducible refine KR.nrF ?_
  | with_reducible refine KR.mnT ?_
  | with_reducible refine KR.miF ?_
  | with_reducible refine KR.mrF ?_))
theorem sgB_od {p i j i' j' : Nat} {u w : Int} (hi : od i = od i') (hj : od j = od j') : sgB p i u j w = sgB p i' u j' w := by
  unfold sgB
  rw [hi, hj]
theorem sq_dvd {p : Nat} (hp : 2 ≤ p) {u : Int} (hu : ¬ (p : Int) ∣ u) (i : Nat) : ((p : Int) ^ i * u) % ((p : Int) * p) = 0 ↔ 2 ≤ i := by
  have hp0 : (0 : Int) < p := by omega
  constructor
  · intro h
    have hd := Int.dvd_of_emod_eq_zero h
    refine Decidable.by_contra fun c => ?_
    have hi : i = 0 ∨ i = 1 := by omega
    rcases hi with rfl | rfl
    · rw [Int.pow_zero, Int.one_mul] at hd
      exact hu (Int.dvd_trans (Int.dvd_mul_right _ _) hd)
    · rw [Int.pow_succ, Int.pow_zero, Int.one_mul] at hd
      obtain ⟨c', hc⟩ := hd
      rw [Int.mul_assoc] at hc
      exact hu ⟨c', Int.eq_of_mul_eq_mul_left (by omega) hc⟩
  · intro h
    refine Int.emod_eq_zero_of_dvd (Int.dvd_mul_of_dvd_left ?_)
    exact ⟨(p : Int) ^ (i - 2), by
      have e : (p : Int) * p = (p : Int) ^ 2 := by rw [Int.pow_succ, Int.pow_succ, Int.pow_zero, Int.one_mul]
      rw [e, ← Int.pow_add]
      congr 1
      omega⟩
theorem sq_div {p : Nat} (hp : 2 ≤ p) {u : Int} {i : Nat} (hi : 2 ≤ i) : ((p : Int) ^ i * u) / ((p : Int) * p) = (p : Int) ^ (i - 2) * u := by
  have hp0 : (0 : Int) < (p : Int) * p := Int.mul_pos (by omega) (by omega)
  have e : (p : Int) ^ i * u = ((p : Int) * p) * ((p : Int) ^ (i - 2) * u) := by
    have e : (p : Int) * p = (p : Int) ^ 2 := by rw [Int.pow_succ, Int.pow_succ, Int.pow_zero, Int.one_mul]
    rw [e, ← Int.mul_assoc, ← Int.pow_add]
    congr 2
    omega
  rw [e]
  exact Int.mul_ediv_cancel_left _ (by omega)
theorem low_bd {p : Nat} (hp : 2 ≤ p) {a : Int} {i : Nat} (h0 : a ≠ 0) (hi : i ≤ vI p a) (ha : okL a) : okL ((p : Int) ^ i * un p a) := by
  obtain ⟨e, n⟩ := form hp h0
  have h1 : a = (p : Int) ^ (vI p a - i) * ((p : Int) ^ i * un p a) := by
    rw [← Int.mul_assoc, ← Int.pow_add, show vI p a - i + i = vI p a by omega]
    exact e
  have h2 := congrArg Int.natAbs h1
  rw [Int.natAbs_mul] at h2
  have h3 : 1 ≤ ((p : Int) ^ (vI p a - i)).natAbs := by
    have : (0 : Int) < (p : Int) ^ (vI p a - i) := Int.pow_pos (by omega)
    omega
  have h4 := Nat.mul_le_mul_right ((p : Int) ^ i * un p a).natAbs h3
  obtain ⟨h5, h6⟩ := ha
  constructor <;> omega
section
variable {P : Program} {w : World} {K : PySem.W.Frag} {mg : Str → Option Value} {base : Heap} {A : Ad}
def sp_law_symbol : Sp := fun vs H Q _ => ∃ (p : Nat) (a b : Int), vs = [.int p, .int a, .int b] ∧ p ∈ primesN ∧ okL a ∧ okL b ∧ a ≠ 0 ∧ b ≠ 0 ∧ ∀ H2, Evl.Ex H H2 → Q (.int (if sg p a b = true then -1 else 1)) H2
theorem ok_law_symbol (T : Txt P K mg A) : FnOk P w K mg base CX0 2 A.a_law_symbol A.d_law_symbol ["p", "a", "b"] sp_law_symbol := by
  refine T.F_law_symbol.ok sc_law_symbol (fun vs H Q E h => ?_) (fun cdv Ar outer s H vs Q E hr h => ?_)
  · obtain ⟨_, _, _, rfl, _⟩ := h; rfl
  have nd := sc_law_symbol.nd
  obtain ⟨p, a, b, rfl, hp, ha, hb, ha0, hb0, q⟩ := h
  obtain ⟨_, h2, h9⟩ := of_pr hp
  have hpp : (0 : Int) < (p : Int) * p ∧ (p : Int) * p < 10000 := ⟨Int.mul_pos (by omega) (by omega), by
    have h1 : p * p ≤ 99 * 99 := Nat.mul_le_mul (by omega) (by omega)
    have h2 : ((p * p : Nat) : Int) = (p : Int) * p := Int.natCast_mul _ _
    omega⟩
  have bv : ∀ c : Int, okL c → c ≠ 0 → vI p c < 30 := fun c hc hc0 => by
    obtain ⟨c1, c2⟩ := hc
    exact vI_lt h2 hc0 (by have : (2 : Nat) ^ 30 = 1073741824 := by decide
                           omega)
  have va := bv a ha ha0
  have vb := bv b hb hb0
  obtain ⟨ea, na⟩ := form h2 ha0
  obtain ⟨eb, nb⟩ := form h2 hb0
  have lowA : ∀ i, i ≤ vI p a → okL ((p : Int) ^ i * un p a) := fun i hi => low_bd h2 ha0 hi ha
  have lowB : ∀ i, i ≤ vI p b → okL ((p : Int) ^ i * un p b) := fun i hi => low_bd h2 hb0 hi hb
  unfold sg at q
  generalize vI p a = i0 at *
  generalize un p a = u at *
  generalize vI p b = j0 at *
  generalize un p b = w' at *
  have hcd : (0 : Int) < (p : Int) * p ∧ (p : Int) * p < 1073741824 := ⟨hpp.1, by omega⟩
  have hp0 := hpp.1
  refine ⟨_, (pss_cons (ps_for PassesOwn.never rfl (pi_range1 (by rfl) T.n_range (pa_cons pe_int pa_nil)) (pg_name (i := 3) nd rfl (Or.inl rfl)) (Evl.pss_cut (ps_if (pt_cmpR op_eq (pe_op op_mod (pe_callTy call_int1 (by rfl) T.n_int (by decide +kernel) (pa_cons (pv 1) pa_nil)) (pe_op op_mul (pv 0) (pv 0))) pe_int (nomark _)) (pss_one (ps_set (i := 1) nd rfl (.inl rfl) (pe_op op_fdiv (pv 1) (pe_op op_mul (pv 0) (pv 0))))) pss_nil)
    (pss_one (ps_if (pt_cmpR op_eq (pe_op op_mod (pe_callTy call_int1 (by rfl) T.n_int (by decide +kernel) (pa_cons (pv 2) pa_nil)) (pe_op op_mul (pv 0) (pv 0))) pe_int (nomark _)) (pss_one (ps_set (i := 2) nd rfl (.inl rfl) (pe_op op_fdiv (pv 2) (pe_op op_mul (pv 0) (pv 0))))) pss_nil))))
    (pss_cons (ps_if (pt_cmpR op_eq (pv 0) pe_int (nomark _)) (pss_one (ps_ret (pe_call (ok_law_walked T) (hr.mono (by decide)) (by rfl) T.g_law_walked T.k_law_walked T.b_law_walked .nil pass0 (pa_cons (pv 1) (pa_cons (pv 2) pa_nil))))) pss_nil)
    (pss_cons (ps_set (i := 4) nd rfl (.inl rfl) pe_int)
    (Evl.pss_cut (ps_if (PW.pt (pw_and (pt_cmpR op_eq (pe_op op_mod (pe_callTy call_int1 (by rfl) T.n_int (by decide +kernel) (pa_cons (pv 1) pa_nil)) (pv 0)) pe_int (nomark _)) (pw_and1 (pt_cmpR op_eq (pe_op op_mod (pe_callTy call_int1 (by rfl) T.n_int (by decide +kernel) (pa_cons (pv 2) pa_nil)) (pv 0)) pe_int (nomark _))))) (pss_one (ps_set (i := 4) nd rfl (.inl rfl) (pe_op op_mul (pe_un un_neg (pe_op op_fdiv (pv 1) (pv 0))) (pe_op op_fdiv (pv 2) (pv 0))))) (pss_one (ps_if (pt_cmpR op_eq (pe_op op_mod (pe_callTy call_int1 (by rfl) T.n_int (by decide +kernel) (pa_cons (pv 1) pa_nil)) (pv 0)) pe_int (nomark _)) (pss_one (ps_set (i := 4) nd rfl (.inl rfl) (pv 2))) (pss_one (ps_if (pt_cmpR op_eq (pe_op op_mod (pe_callTy call_int1 (by rfl) T.n_int (by decide +kernel) (pa_cons (pv 2) pa_nil)) (pv 0)) pe_int (nomark _)) (pss_one (ps_set (i := 4) nd rfl (.inl rfl) (pv 1))) pss_nil)))))
    (pss_one (ps_ret (pe_ifExp (pt_val (pe_call (ok_law_is_square T) (hr.mono (by decide)) (by rfl) T.g_law_is_square T.k_law_is_square T.b_law_is_square .nil pass0 (pa_cons (pv 0) (pa_cons (pv 4) pa_nil)))) pe_int (pe_un un_neg pe_int)))))))), ?_⟩
  walk_at "rd"
  refine KR.rngI 30 rfl (by decide) (KR.fwR (fun s σ' H' => H' = H ∧ ∃ z z2, σ' = [some (.int p), some (.int ((p : Int) ^ (i0 - 2 * min s (i0 / 2)) * u)), some (.int ((p : Int) ^ (j0 - 2 * min s (j0 / 2)) * w')), z, z2]) ⟨rfl, none, none, by rw [Nat.zero_min, Nat.zero_min, Nat.mul_zero, Nat.sub_zero, Nat.sub_zero, ← ea, ← eb]; rfl⟩ ?_ ?_)
  · rintro s σ' H' hs ⟨rfl, z, z2, rfl⟩
    refine KR.cut (Mid := fun σ' H'' => H'' = H' ∧ σ' = [some (.int p), some (.int ((p : Int) ^ (i0 - 2 * min (s + 1) (i0 / 2)) * u)), some (.int ((p : Int) ^ (j0 - 2 * min s (j0 / 2)) * w')), some (.int s), z2]) ?_ ?_
    · walk_at "rd"
      refine KR.iteD (fun c => ?_) (fun c => ?_)
      · have hi := (sq_dvd h2 na _).mp c
        walk_at "rd"
        refine ⟨rfl, ?_⟩
        rw [sq_div h2 hi, show i0 - 2 * min s (i0 / 2) - 2 = i0 - 2 * min (s + 1) (i0 / 2) by omega]
        rfl
      · have hi : ¬ 2 ≤ i0 - 2 * min s (i0 / 2) := fun z => c ((sq_dvd h2 na _).mpr z)
        walk_at "rd"
        refine ⟨rfl, ?_⟩
        rw [show i0 - 2 * min s (i0 / 2) = i0 - 2 * min (s + 1) (i0 / 2) by omega]
        rfl
    rintro σ' H'' ⟨rfl, rfl⟩
    walk_at "rd"
    refine KR.iteD (fun c => ?_) (fun c => ?_)
    · have hi := (sq_dvd h2 nb _).mp c
      walk_at "rd"
      refine ⟨rfl, some (.int s), z2, ?_⟩
      rw [sq_div h2 hi, show j0 - 2 * min s (j0 / 2) - 2 = j0 - 2 * min (s + 1) (j0 / 2) by omega]
      rfl
    · have hi : ¬ 2 ≤ j0 - 2 * min s (j0 / 2) := fun z => c ((sq_dvd h2 nb _).mpr z)
      walk_at "rd"
      refine ⟨rfl, some (.int s), z2, ?_⟩
      rw [show j0 - 2 * min s (j0 / 2) = j0 - 2 * min (s + 1) (j0 / 2) by omega]
  rintro σ' H' ⟨rfl, z, z2, rfl⟩
  rw [show i0 - 2 * min 30 (i0 / 2) = i0 % 2 by omega, show j0 - 2 * min 30 (j0 / 2) = j0 % 2 by omega]
  have hA := lowA (i0 % 2) (by omega)
  have hB := lowB (j0 % 2) (by omega)
  have hod : ∀ i, od i = od (i % 2) := fun i => by unfold od; rw [Nat.mod_mod]
  rw [sgB_od (hod i0) (hod j0)] at q
  have hi2 : i0 % 2 < 2 := Nat.mod_lt _ (by decide)
  have hj2 : j0 % 2 < 2 := Nat.mod_lt _ (by decide)
  generalize i0 % 2 = i at *
  generalize j0 % 2 = j at *
  walk_at "rd"
  refine KR.iteD (fun c => ?_) (fun c => ?_)
  · obtain rfl : p = 2 := by omega
    walk_at "rd"
    obtain ⟨hA1, hA2⟩ := hA
    obtain ⟨hB1, hB2⟩ := hB
    refine ⟨_, _, rfl, ⟨by omega, by omega⟩, ⟨by omega, by omega⟩, fun H2 x2 => ?_⟩
    have hw := wlk_sg hi2 hj2 na nb
    have hw2 : wlk (((2 : Nat) : Int) ^ i * u) (((2 : Nat) : Int) ^ j * w') = !sgB 2 i u j w' := hw
    rw [hw2]
    have q2 := q H2 x2
    cases hs : sgB 2 i u j w' with
    | true => rw [hs] at q2; exact q2
    | false => rw [hs] at q2; exact q2
  · have ho := (mem_cases hp).resolve_left (by omega)
    obtain ⟨hA1, hA2⟩ := hA
    obtain ⟨hB1, hB2⟩ := hB
    walk_at "rd"
    have modp : ∀ (i : Nat) (u : Int), i < 2 → ¬ (p : Int) ∣ u → (((p : Int) ^ i * u) % (p : Int) = 0 ↔ i = 1) := fun i u hi hu => by
      constructor
      · intro h
        refine Decidable.by_contra fun cc => ?_
        have : i = 0 := by omega
        rw [this, Int.pow_zero, Int.one_mul] at h
        exact hu (Int.dvd_of_emod_eq_zero h)
      · intro h
        rw [h, Int.pow_succ, Int.pow_zero, Int.one_mul]
        exact Int.mul_emod_right _ _
    have divp : ∀ u : Int, ((p : Int) ^ 1 * u) / (p : Int) = u := fun u => by
      rw [Int.pow_succ, Int.pow_zero, Int.one_mul]
      exact Int.mul_ediv_cancel_left _ (by omega)
    have pw0 : ∀ u : Int, (p : Int) ^ 0 * u = u := fun u => by rw [Int.pow_zero, Int.one_mul]
    refine KR.cut (Mid := fun σ' H'' => H'' = H' ∧ σ' = [some (.int p), some (.int ((p : Int) ^ i * u)), some (.int ((p : Int) ^ j * w')), z, some (.int (tst p i j u w'))]) ?_ ?_
    · walk_at "rd"
      refine KR.iteD (fun c1 => ?_) (fun c1 => ?_)
      · have hi1 := (modp i u hi2 na).mp c1
        walk_at "rd"
        refine KR.iteD (fun c2 => ?_) (fun c2 => ?_)
        · have hj1 := (modp j w' hj2 nb).mp c2
          subst hi1 hj1
          have bu := lowA
          walk_at "rd"
          rw [divp, divp]
          have hub : -1000000000 ≤ u ∧ u ≤ 1000000000 := by
            have := lowA 0 (Nat.zero_le _)
            rw [pw0] at this
            exact this
          have hcm : CMul (-u) w' := .inl ⟨by omega, by omega⟩
          refine KR.opI hcm ?_
          exact ⟨rfl, rfl⟩
        · have hj0 : j = 0 := by
            have hne : ¬ j = 1 := fun z => c2 ((modp j w' hj2 nb).mpr z)
            omega
          subst hi1 hj0
          walk_at "rd"
          refine KR.iteDT c1 ?_
          walk_at "rd"
          refine ⟨rfl, ?_⟩
          show _ = [some (.int p), some (.int ((p : Int) ^ 1 * u)), some (.int ((p : Int) ^ 0 * w')), z, some (.int w')]
          rw [pw0]
          rfl
      · have hi0 : i = 0 := by
          have hne : ¬ i = 1 := fun z => c1 ((modp i u hi2 na).mpr z)
          omega
        subst hi0
        walk_at "rd"
        refine KR.iteDF c1 ?_
        walk_at "rd"
        refine KR.iteD (fun c2 => ?_) (fun c2 => ?_)
        · have hj1 := (modp j w' hj2 nb).mp c2
          subst hj1
          walk_at "rd"
          refine ⟨rfl, ?_⟩
          show _ = [some (.int p), some (.int ((p : Int) ^ 0 * u)), some (.int ((p : Int) ^ 1 * w')), z, some (.int u)]
          rw [pw0]
          rfl
        · have hj0 : j = 0 := by
            have hne : ¬ j = 1 := fun z => c2 ((modp j w' hj2 nb).mpr z)
            omega
          subst hj0
          walk_at "rd"
          exact ⟨rfl, rfl⟩
    rintro σ' H'' ⟨rfl, rfl⟩
    walk_at "rd"
    have htn : ¬ (p : Int) ∣ tst p i j u w' := by
      unfold tst
      split
      · have e : -u * w' = -(u * w') := Int.neg_mul _ _
        rw [e]
        exact fun zz => int_pr (pr_mem hp) na nb (Int.dvd_neg.mp zz)
      · split
        · exact nb
        · split
          · exact na
          · exact one_nd h2
    refine ⟨p, _, rfl, ho, htn, fun H2 x2 => ?_⟩
    rw [tst_sg ho hi2 hj2 na nb]
    have q2 := q H2 x2
    walk_at "rd"
    cases hs : sgB p i u j w' with
    | true =>
      rw [hs] at q2
      walk_at "rd"
      exact q2
    | false =>
      rw [hs] at q2
      walk_at "rd"
      exact q2
end
end K9
namespace K9
open PySem PySem.Spec PyProof.Rows L2 K7
local macro_rules | `(tactic| walk_at "rc") => `(tactic| first
  | assumption
  | (show (0 : Int) < _; omega)
  | (show (0 : Int) < _ ∧ _ < (1073741824 : Int); exact ⟨by omega, by omega⟩)
  | (show (-(2 ^ 64 : Int) < _ ∧ _ < (2 ^ 64 : Int)) ∨ _; exact .inl ⟨by omega, by omega⟩)
  | (show _ ∨ (-(2 ^ 64 : Int) < _ ∧ _ < (2 ^ 64 : Int)); exact .inr ⟨by omega, by omega⟩)
  | (show (0 : Int) ≤ _ ∧ _ ≤ (1000000 : Int) ∧ _ < 2 ^ 64; exact ⟨by decide, by decide, by decide⟩))
local macro_rules | `(tactic| walk_at "rd") => `(tactic| repeat (first
  | with_reducible apply KR.seq
  | with_reducible apply KR.asg
  | with_reducible apply KR.drop
  | with_reducible apply KR.ret
  | with_reducible apply KR.retN
  | with_reducible apply KR.next
  | with_reducible apply KR.ifs
  | with_reducible refine KR.var rfl ?_
  | with_reducible refine L2.iteT ?_
  | with_reducible refine L2.iteF ?_
  | with_reducible refine KR.iteNF ?_
  | with_reducible refine KR.iteNT ?_
  | with_reducible apply KR.con
  | with_reducible apply KR.op
  | with_reducible apply KR.opI0
  | ((with_reducible refine KR.opI ?rc ?_); (case rc => walk_at "rc"))
  | with_reducible apply KR.un
  | with_reducible apply KR.unI
  | with_reducible apply KR.eqI
  | with_reducible apply KR.neI
  | with_reducible apply KR.test
  | with_reducible apply KR.tb'
  | with_reducible apply KR.exbl
  | with_reducible apply KR.and'
  | with_reducible apply KR.or'
  | with_reducible apply KR.not'
  | with_reducible apply KR.chain
  | with_reducible apply KR.call
  | with_reducible apply KR.callS
  | with_reducible apply KR.make
  | with_reducible apply KR.bm
  | with_reducible apply KR.errF
  | with_reducible apply KR.cons
  | with_reducible apply KR.nil
  | with_reducible apply KR.cb
  | with_reducible apply KR.cInt1
  | with_reducible apply KR.cI1
  | with_reducible apply KR.cI2
  | with_reducible apply KR.isi_ii
  | with_reducible apply KR.isi_ib
  | with_reducible apply KR.bits
  | with_reducible apply KR.exint
  | with_reducible apply KR.ifx
  | with_reducible refine KR.aug rfl ?_
  | with_reducible apply KR.ipI
  | with_reducible apply KR.for'
  | with_reducible apply KR.rng1
  | with_reducible apply KR.rng2
  | with_reducible apply KR.ilist
  | with_reducible apply KR.itup
  | with_reducible apply KR.tup
  | with_reducible apply KR.lst
  | with_reducible apply KR.andV
  | with_reducible apply KR.orV
  | with_reducible apply KR.notV
  | with_reducible apply KR.asgG
  | with_reducible apply KR.sub
  | with_reducible apply KR.fld
  | with_reducible apply KR.prop
  | with_reducible apply KR.meth
  | with_reducible apply KR.par
  | with_reducible apply KR.parN
  | with_reducible apply KR.raise1
  | with_reducible apply KR.raise0
  | with_reducible apply KR.exv
  | with_reducible apply KR.lc
  | with_reducible apply KR.ienT
  | with_reducible apply KR.sfld
  | with_reducible apply KR.sl
  | with_reducible apply KR.part
  | with_reducible apply KR.nopart
  | with_reducible apply KR.isNo
  | with_reducible refine KR.nnT ?_
  | with_reducible refine KR.niF ?_
  | with_reducible refine KR.nrF ?_
  | with_reducible refine KR.mnT ?_
  | with_reducible refine KR.miF ?_
  | with_reducible refine KR.mrF ?_))
theorem primesL_I : primesL = primesI := by decide
section
variable {P : Program} {w : World} {K : PySem.W.Frag} {mg : Str → Option Value} {base : Heap} {A : Ad}
def sp_law_bars (K : PySem.W.Frag) : Sp := fun vs H Q _ => ∃ a b : Int, vs = [.int a, .int b] ∧ okL a ∧ okL b ∧ a ≠ 0 ∧ b ≠ 0 ∧ ∀ L H2, H L = none → Evl.Ex H H2 → H2 L = some (.lst ((barsL a b).map V.int)) → Q (.ref L) H2
theorem ok_law_bars (T : Txt P K mg A) : FnOk P w K mg base CX0 3 A.a_law_bars A.d_law_bars ["a", "b"] (sp_law_bars K) := by
  refine T.F_law_bars.ok sc_law_bars (fun vs H Q E h => ?_) (fun cdv Ar outer s H vs Q E hr h => ?_)
  · obtain ⟨_, _, rfl, _⟩ := h; rfl
  have nd := sc_law_bars.nd
  obtain ⟨a, b, rfl, ha, hb, ha0, hb0, q⟩ := h
  obtain ⟨ha1, ha2⟩ := id ha
  obtain ⟨hb1, hb2⟩ := id hb
  refine ⟨_, (pss_cons (ps_setLc (i := 2) (own := [("p", 4)]) (g := gName 4) rfl nd rfl rfl (sw_true rfl rfl rfl (by decide +kernel)) (pi_list (pe_call0 (ok_law_primes T) (hr.mono (by decide)) (by rfl) T.g_law_primes T.k_law_primes T.b_law_primes .nil pass0)) (blkOk_by (own := [("p", 4)]) (N := ["a", "b", "told", "bars", "p"]) (sc := defScope s_law_bars) (by decide +kernel)) (fun _ _ _ _ _ => pg_name (i := 4) nd rfl (Or.inl rfl)) (fun _ _ _ _ _ => (pts_one (PW.pt (pw_or (pt_cmpR op_eq (pv 4) pe_int (nomark _)) (pw_or1 (pt_cmpR op_eq (pe_op op_mod (pe_callTy call_int1 (by rfl) T.n_int (by decide +kernel) (pa_cons (pe_op op_mul (pv 0) (pv 1)) pa_nil)) (pv 4)) pe_int (nomark _))))))) (fun _ _ _ _ _ => (pv 4)))
    (pss_cons (ps_setLc (i := 3) (own := [("p", 4)]) (g := gName 4) rfl nd rfl rfl (sw_true rfl rfl rfl (by decide +kernel)) (pi_list (pv 2)) (blkOk_by (own := [("p", 4)]) (N := ["a", "b", "told", "bars", "p"]) (sc := defScope s_law_bars) (by decide +kernel)) (fun _ _ _ _ _ => pg_name (i := 4) nd rfl (Or.inl rfl)) (fun _ _ _ _ _ => (pts_one (pt_cmpR op_eq (pe_call (ok_law_symbol T) (hr.mono (by decide)) (by rfl) T.g_law_symbol T.k_law_symbol T.b_law_symbol .nil pass0 (pa_cons (pv 4) (pa_cons (pv 0) (pa_cons (pv 1) pa_nil)))) (pe_un un_neg pe_int) (nomark _)))) (fun _ _ _ _ _ => (pv 4)))
    (pss_cons (ps_if (PW.pt (pw_and (pt_cmpR op_lt (pv 0) pe_int (nomark _)) (pw_and1 (pt_cmpR op_lt (pv 1) pe_int (nomark _))))) (pss_one (ps_ret (pe_op op_cat (pe_lst (pa_cons pe_int pa_nil)) (pv 3)))) pss_nil)
    (pss_one (ps_ret (pv 3)))))), ?_⟩
  walk_at "rd"
  refine ⟨(), rfl, fun P0 hP0 => ?_⟩
  generalize hG : upd H P0 _ = H1
  have x1 : Evl.Ex H H1 := by rw [← hG]; exact Evl.Ex.new hP0
  have l0 : H1 P0 = some (.lst (primesI.map V.int)) := by rw [← hG, primesL_I]; exact upd_same
  clear hG
  have hlen : primesI.length = 25 := by decide
  have hpI : ∀ x ∈ primesI, 2 ≤ x ∧ x < 100 ∧ x.toNat ∈ primesN := by decide
  refine ⟨P0, rfl, ⟨_, .inl (.inl l0)⟩, KR.lwL (xs := primesI.map V.int) (fun k => decide (primesI.getD k 0 = 2) || decide (a * b % primesI.getD k 0 = 0)) (fun k => .int (primesI.getD k 0)) (.inl (.inl l0)) (by rw [List.length_map, hlen]; decide) (fun _ => rfl) ?_ ?_ ?_⟩
  · intro k v H2 e2 hv H3 e3 Q' q'
    have hm : primesI.getD k 0 ∈ primesI := by
      rw [List.getElem?_map] at hv
      obtain ⟨w, hw, _⟩ := Option.map_eq_some_iff.mp hv
      rw [List.getD_eq_getElem?_getD, hw]
      exact List.mem_of_getElem? hw
    rw [at_getD hv]
    have hpos := (hpI _ hm).1
    generalize primesI.getD k 0 = p at *
    walk_at "rd"
    refine KR.iteD (fun c => ?_) (fun c => ?_)
    · rw [decide_eq_true c, Bool.true_or] at q'
      exact q' H3 (Evl.Ex.refl _)
    · rw [decide_eq_false c, Bool.false_or] at q'
      walk_at "rd"
      exact q' H3 (Evl.Ex.refl _)
  · intro k v H2 e2 hv hf H3 e3 Q' q'
    rw [at_getD hv]
    walk_at "rd"
    exact q' H3 (Evl.Ex.refl _)
  intro T1 H2 hT1 e2 lT
  rw [List.length_map, giv_whole (fun x => decide (x = 2) || decide (a * b % x = 0)) (fun x => V.int x)] at lT
  generalize hte : primesI.filter (fun x => decide (x = 2) || decide (a * b % x = 0)) = te at lT
  have hte_len : te.length ≤ 25 := by
    rw [← hte, ← hlen]
    exact List.length_filter_le _ _
  have hte_mem : ∀ x ∈ te, x ∈ primesI := fun x hx => by
    rw [← hte] at hx
    exact (List.mem_filter.mp hx).1
  have sT : SqL K H2 T1 (te.map V.int) := .inl (.inl lT)
  walk_at "rd"
  refine KR.llistN sT (KR.lwL (fun k => sg (te.getD k 0).toNat a b) (fun k => .int (te.getD k 0)) sT (by rw [List.length_map]; omega) (fun _ => rfl) ?_ ?_ ?_)
  · intro k v H3 e3 hv H4 e4 Q' q'
    have hm : te.getD k 0 ∈ te := by
      rw [List.getElem?_map] at hv
      obtain ⟨w, hw, _⟩ := Option.map_eq_some_iff.mp hv
      rw [List.getD_eq_getElem?_getD, hw]
      exact List.mem_of_getElem? hw
    rw [at_getD hv]
    obtain ⟨p1, p2, p3⟩ := hpI _ (hte_mem _ hm)
    generalize te.getD k 0 = p at *
    obtain ⟨p', rfl⟩ := Int.eq_ofNat_of_zero_le (show 0 ≤ p by omega)
    rw [Int.toNat_natCast] at q' p3
    walk_at "rd"
    refine ⟨p', a, b, rfl, p3, ha, hb, ha0, hb0, fun H5 e5 => ?_⟩
    walk_at "rd"
    cases hsg : sg p' a b with
    | true =>
      rw [hsg] at q'
      exact q' H5 e5
    | false =>
      rw [hsg] at q'
      exact q' H5 e5
  · intro k v H3 e3 hv hf H4 e4 Q' q'
    rw [at_getD hv]
    walk_at "rd"
    exact q' H4 (Evl.Ex.refl _)
  intro B1 H3 hB1 e3 lB
  rw [List.length_map, giv_whole (fun x => sg x.toNat a b) (fun x => V.int x)] at lB
  have hbad : te.filter (fun x => sg x.toNat a b) = primesI.filter (bad a b) := by
    rw [← hte, List.filter_filter]
    congr 1
    funext x
    unfold bad
    rw [Bool.and_comm]
  rw [hbad] at lB
  have x13 := (x1.trans e2).trans e3
  walk_at "rd"
  have hfl : (primesI.filter (bad a b)).length ≤ 25 := by
    rw [← hlen]
    exact List.length_filter_le _ _
  have no : ¬ (a < 0 ∧ b < 0) → Q (.ref B1) H3 := fun hn => by
    refine q B1 H3 (ex_none (x1.trans e2) hB1) x13 ?_
    rw [lB]
    unfold barsL
    rw [if_neg hn]
    rfl
  refine KR.iteD (fun c1 => ?_) (fun c1 => ?_)
  · walk_at "rd"
    refine KR.iteD (fun c2 => ?_) (fun c2 => ?_)
    · walk_at "rd"
      refine ⟨by show (1 : Nat) ≤ sizeLine; decide, fun z hz => ?_⟩
      walk_at "rd"
      refine ⟨z, B1, _, _, rfl, rfl, upd_same, Evl.Ex.new hz _ _ lB, by rw [List.length_map, sizeLine_eq]; show 1 + _ ≤ _; omega, fun r hr => ?_⟩
      refine q r _ (ex_none (x13.trans (Evl.Ex.new hz)) hr) ((x13.trans (Evl.Ex.new hz)).trans (Evl.Ex.new hr)) ?_
      rw [upd_same]
      unfold barsL
      rw [if_pos ⟨c1, c2⟩]
      rfl
    · walk_at "rd"
      exact no (fun z => c2 z.2)
  · walk_at "rd"
    exact no (fun z => c1 z.1)
end
end K9
namespace K9
open PySem PySem.Spec PyProof.Rows L2 K7
local macro_rules | `(tactic| walk_at "rc") => `(tactic| first
  | assumption
  | (show (0 : Int) < _; omega)
  | (show (0 : Int) < _ ∧ _ < (1073741824 : Int); exact ⟨by omega, by omega⟩)
  | (show (-(2 ^ 64 : Int) < _ ∧ _ < (2 ^ 64 : Int)) ∨ _; exact .inl ⟨by omega, by omega⟩)
  | (show _ ∨ (-(2 ^ 64 : Int) < _ ∧ _ < (2 ^ 64 : Int)); exact .inr ⟨by omega, by omega⟩)
  | (show (0 : Int) ≤ _ ∧ _ ≤ (1000000 : Int) ∧ _ < 2 ^ 64; exact ⟨by decide, by decide, by decide⟩))
local macro_rules | `(tactic| walk_at "rd") => `(tactic| repeat (first
  | with_reducible apply KR.seq
  | with_reducible apply KR.asg
  | with_reducible apply KR.drop
  | with_reducible apply KR.ret
  | with_reducible apply KR.retN
  | with_reducible apply KR.next
  | with_reducible apply KR.ifs
  | with_reducible refine KR.var rfl ?_
  | with_reducible refine L2.iteT ?_
  | with_reducible refine L2.iteF ?_
  | with_reducible refine KR.iteNF ?_
  | with_reducible refine KR.iteNT ?_
  | with_reducible apply KR.con
  | with_reducible apply KR.op
  | with_reducible apply KR.opI0
  | ((with_reducible refine KR.opI ?rc ?_); (case rc => walk_at "rc"))
  | with_reducible apply KR.un
  | with_reducible apply KR.unI
  | with_reducible apply KR.eqI
  | with_reducible apply KR.neI
  | with_reducible apply KR.test
  | with_reducible apply KR.tb'
  | with_reducible apply KR.exbl
  | with_reducible apply KR.and'
  | with_reducible apply KR.or'
  | with_reducible apply KR.not'
  | with_reducible apply KR.chain
  | with_reducible apply KR.call
  | with_reducible apply KR.callS
  | with_reducible apply KR.make
  | with_reducible apply KR.bm
  | with_reducible apply KR.errF
  | with_reducible apply KR.cons
  | with_reducible apply KR.nil
  | with_reducible apply KR.cb
  | with_reducible apply KR.cInt1
  | with_reducible apply KR.cI1
  | with_reducible apply KR.cI2
  | with_reducible apply KR.isi_ii
  | with_reducible apply KR.isi_ib
  | with_reducible apply KR.bits
  | with_reducible apply KR.exint
  | with_reducible apply KR.ifx
  | with_reducible refine KR.aug rfl ?_
  | with_reducible apply KR.ipI
  | with_reducible apply KR.for'
  | with_reducible apply KR.rng1
  | with_reducible apply KR.rng2
  | with_reducible apply KR.ilist
  | with_reducible apply KR.itup
  | with_reducible apply KR.tup
  | with_reducible apply KR.lst
  | with_reducible apply KR.andV
  | with_reducible apply KR.orV
  | with_reducible apply KR.notV
  | with_reducible apply KR.asgG
  | with_reducible apply KR.sub
  | with_reducible apply KR.fld
  | with_reducible apply KR.prop
  | with_reducible apply KR.meth
  | with_reducible apply KR.par
  | with_reducible apply KR.parN
  | with_reducible apply KR.raise1
  | with_reducible apply KR.raise0
  | with_reducible apply KR.exv
  | with_reducible apply KR.lc
  | with_reducible apply KR.ienT
  | with_reducible apply KR.sfld
  | with_reducible apply KR.sl
  | with_reducible apply KR.part
  | with_reducible apply KR.nopart
  | with_reducible apply KR.isNo
  | with_reducible refine KR.nnT ?_
  | with_reducible refine KR.niF ?_
  | with_reducible refine KR.nrF ?_
  | with_reducible refine KR.mnT ?_
  | with_reducible refine KR.miF ?_
  | with_reducible refine KR.mrF ?_))
theorem lay_ints : ∀ xs : List Int, PyData.canLayAll0 (xs.map PyData.int) = true
  | [] => by simp [PyData.canLayAll0]
  | x :: xs => by simp [PyData.canLayAll0, PyData.canLay0, lay_ints xs]
theorem depth_ints : ∀ xs : List Int, PyData.depthAll (xs.map PyData.int) ≤ 1
  | [] => by simp [PyData.depthAll]
  | x :: xs => by
    have := depth_ints xs
    simp [PyData.depthAll, PyData.depth]
    try omega
theorem eqv_ints : ∀ xs : List Int, PyData.eqvAll (xs.map PyData.int) (xs.map PyData.int) = true
  | [] => by simp [PyData.eqvAll]
  | x :: xs => by simp [PyData.eqvAll, PyData.eqv, eqv_ints xs]
theorem shaped_ints (xs : List Int) : SeqAt.shaped (.list (xs.map PyData.int)) = true := by
  have h1 := lay_ints xs
  have h2 := depth_ints xs
  simp [SeqAt.shaped, PyData.canLay0, PyData.depth, h1]
  omega
theorem dp_ints {K : PySem.W.Frag} {H : Hp} : ∀ xs : List Int, DpAll K H (xs.map V.int) (xs.map PyData.int)
  | [] => .nil
  | x :: xs => .cons (.int x) (dp_ints xs)
theorem eqv_lists (xs : List Int) : PyData.eqv (.list (xs.map PyData.int)) (.list (xs.map PyData.int)) = true := by
  simp [PyData.eqv, eqv_ints xs]
section
variable {P : Program} {w : World} {K : PySem.W.Frag} {mg : Str → Option Value} {base : Heap} {A : Ad}
def sp_law_same_list (K : PySem.W.Frag) : Sp := fun vs H Q _ => ∃ (T D : Addr) (xs : List Int), vs = [.ref T, .ref D] ∧ H T = some (.lst (xs.map V.int)) ∧ H D = some (.lst (xs.map V.int)) ∧ Q (.bl true) H
theorem ok_law_same_list (T : Txt P K mg A) : FnOk P w K mg base CX0 2 A.a_law_same_list A.d_law_same_list ["told", "due"] (sp_law_same_list K) := by
  refine T.F_law_same_list.ok sc_law_same_list (fun vs H Q E h => ?_) (fun cdv Ar outer s H vs Q E hr h => ?_)
  · obtain ⟨_, _, _, rfl, _⟩ := h; rfl
  have nd := sc_law_same_list.nd
  obtain ⟨L, D, xs, rfl, hT, hD, q⟩ := h
  refine ⟨_, (pss_cons (ps_if (PW.pt (pw_or (pt_not (pt_val (pe_callB call_isi (by rfl) T.n_isinstance (by decide +kernel) (pa_cons (pv 0) (pa_cons (pe_bltn (v := .ty "list") (by rfl) T.n_list (by decide +kernel) rfl) pa_nil))))) (pw_or1 (pt_cmpR (op_neD hr.units) (pv 0) (pv 1) (nomark _))))) (pss_one (ps_ret pe_bl)) pss_nil)
    (pss_cons (ps_for PassesOwn.never rfl (pi_list (pv 0)) (pg_name (i := 2) nd rfl (Or.inl rfl)) (pss_one (ps_if (pt_not (pt_val (pe_call (ok_law_is_integer T) (hr.mono (by decide)) (by rfl) T.g_law_is_integer T.k_law_is_integer T.b_law_is_integer .nil pass0 (pa_cons (pv 2) pa_nil)))) (pss_one (ps_ret pe_bl)) pss_nil)))
    (pss_one (ps_ret pe_bl)))), ?_⟩
  walk_at "rd"
  refine KR.isi_ll hT ?_
  walk_at "rd"
  refine ⟨_, _, .lst (.inl (.inl hT)) (dp_ints xs), .lst (.inl (.inl hD)) (dp_ints xs), shaped_ints xs, shaped_ints xs, ?_⟩
  rw [eqv_lists]
  walk_at "rd"
  refine KR.ilistN (.inl (.inl hT)) (KR.fwL (xs := xs.map V.int) (fun k σ' H' => H' = H ∧ ∃ z, σ' = [some (.ref L), some (.ref D), z]) ⟨rfl, none, rfl⟩ ?_ ?_ ?_)
  · rintro k σ' H' _ ⟨rfl, _⟩
    exact .inl (.inl hT)
  · rintro k v σ' H' hv ⟨rfl, z, rfl⟩
    rw [at_getD hv]
    walk_at "rd"
    refine ⟨_, rfl, ?_⟩
    walk_at "rd"
    exact ⟨rfl, _, rfl⟩
  · rintro σ' H' ⟨rfl, z, rfl⟩
    walk_at "rd"
    exact q
end
end K9
namespace K9
open PySem PySem.Spec PyProof.Rows L2 K7
local macro_rules | `(tactic| walk_at "rc") => `(tactic| first
  | assumption
  | (show (0 : Int) < _; omega)
  | (show (0 : Int) < _ ∧ _ < (1073741824 : Int); exact ⟨by omega, by omega⟩)
  | (show (-(2 ^ 64 : Int) < _ ∧ _ < (2 ^ 64 : Int)) ∨ _; exact .inl ⟨by omega, by omega⟩)
  | (show _ ∨ (-(2 ^ 64 : Int) < _ ∧ _ < (2 ^ 64 : Int)); exact .inr ⟨by omega, by omega⟩)
  | (show (0 : Int) ≤ _ ∧ _ ≤ (1000000 : Int) ∧ _ < 2 ^ 64; exact ⟨by decide, by decide, by decide⟩))
local macro_rules | `(tactic| walk_at "rd") => `(tactic| repeat (first
  | with_reducible apply KR.seq
  | with_reducible apply KR.asg
  | with_reducible apply KR.drop
  | with_reducible apply KR.ret
  | with_reducible apply KR.retN
  | with_reducible apply KR.next
  | with_reducible apply KR.ifs
  | with_reducible refine KR.var rfl ?_
  | with_reducible refine L2.iteT ?_
  | with_reducible refine L2.iteF ?_
  | with_reducible refine KR.iteNF ?_
  | with_reducible refine KR.iteNT ?_
  | with_reducible apply KR.con
  | with_reducible apply KR.op
  | with_reducible apply KR.opI0
  | ((with_reducible refine KR.opI ?rc ?_); (case rc => walk_at "rc"))
  | with_reducible apply KR.un
  | with_reducible apply KR.unI
  | with_reducible apply KR.eqI
  | with_reducible apply KR.neI
  | with_reducible apply KR.test
  | with_reducible apply KR.tb'
  | with_reducible apply KR.exbl
  | with_reducible apply KR.and'
  | with_reducible apply KR.or'
  | with_reducible apply KR.not'
  | with_reducible apply KR.chain
  | with_reducible apply KR.call
  | with_reducible apply KR.callS
  | with_reducible apply KR.make
  | with_reducible apply KR.bm
  | with_reducible apply KR.errF
  | with_reducible apply KR.cons
  | with_reducible apply KR.nil
  | with_reducible apply KR.cb
  | with_reducible apply KR.cInt1
  | with_reducible apply KR.cI1
  | with_reducible apply KR.cI2
  | with_reducible apply KR.isi_ii
  | with_reducible apply KR.isi_ib
  | with_reducible apply KR.bits
  | with_reducible apply KR.exint
  | with_reducible apply KR.ifx
  | with_reducible refine KR.aug rfl ?_
  | with_reducible apply KR.ipI
  | with_reducible apply KR.for'
  | with_reducible apply KR.rng1
  | with_reducible apply KR.rng2
  | with_reducible apply KR.ilist
  | with_reducible apply KR.itup
  | with_reducible apply KR.tup
  | with_reducible apply KR.lst
  | with_reducible apply KR.andV
  | with_reducible apply KR.orV
  | with_reducible apply KR.notV
  | with_reducible apply KR.asgG
  | with_reducible apply KR.sub
  | with_reducible apply KR.fld
  | with_reducible apply KR.prop
  | with_reducible apply KR.meth
  | with_reducible apply KR.par
  | with_reducible apply KR.parN
  | with_reducible apply KR.raise1
  | with_reducible apply KR.raise0
  | with_reducible apply KR.exv
  | with_reducible apply KR.lc
  | with_reducible apply KR.ienT
  | with_reducible apply KR.sfld
  | with_reducible apply KR.sl
  | with_reducible apply KR.part
  | with_reducible apply KR.nopart
  | with_reducible apply KR.isNo
  | with_reducible refine KR.nnT ?_
  | with_reducible refine KR.niF ?_
  | with_reducible refine KR.nrF ?_
  | with_reducible refine KR.mnT ?_
  | with_reducible refine KR.miF ?_
  | with_reducible refine KR.mrF ?_))
theorem s2_lt (n : Int) : ∀ k, 0 < s2 n k ∧ s2 n k < 2 ^ (k + 2)
  | 0 => ⟨(by decide : (0 : Int) < 1), (by decide : (1 : Int) < 2 ^ (0 + 2))⟩
  | k + 1 => by
    obtain ⟨h1, h2⟩ := s2_lt n k
    have h3 : (2 : Int) ^ (k + 1 + 2) = 2 ^ (k + 2) * 2 := Int.pow_succ ..
    have h4 : (0 : Int) < 2 ^ (k + 2) := Int.pow_pos (by decide)
    unfold s2
    split <;> constructor <;> omega
theorem nat_lt_of_int {x : Int} {k : Nat} (h0 : 0 ≤ x) (h : x < (2 : Int) ^ k) : x.natAbs < 2 ^ k := by
  have : ((x.natAbs : Nat) : Int) < ((2 ^ k : Nat) : Int) := by
    rw [Int.natCast_pow]
    show _ < (2 : Int) ^ k
    omega
  exact Int.ofNat_lt.mp this
theorem root_two {n : Int} {M : Nat} (hn : sqU 2 n = true) (hM : 1 ≤ M) : IsRoot 2 n M (s2 n (M - 2) % 2 ^ M) := by
  have h8 : n % 8 = 1 := by
    unfold sqU at hn
    rw [if_pos rfl] at hn
    exact of_decide_eq_true hn
  have hp : (0 : Int) < 2 ^ M := Int.pow_pos (by decide)
  refine ⟨Int.emod_nonneg _ (by omega), Int.emod_lt_of_pos _ hp, ?_, by unfold Tie; rw [if_pos rfl]⟩
  show (2 : Int) ^ M ∣ _
  have d1 : (2 : Int) ^ M ∣ s2 n (M - 2) * s2 n (M - 2) - n := Int.dvd_trans (pw_dvd (p := 2) (by omega)) (s2_root h8 (M - 2)).1
  have d2 : (2 : Int) ^ M ∣ s2 n (M - 2) - s2 n (M - 2) % 2 ^ M := Int.dvd_self_sub_emod
  generalize s2 n (M - 2) = r at *
  generalize r % 2 ^ M = R at *
  have e : R * R - n = (r * r - n) - (r - R) * (r + R) := by
    rw [Int.sub_mul, Int.mul_add, Int.mul_add, Int.mul_comm R r]
    omega
  rw [e]
  exact Int.dvd_sub d1 (Int.dvd_mul_of_dvd_left d2)
theorem pw_lt {p M : Nat} (hp : p < 128) {R : Int} (h0 : 0 ≤ R) (h : R < (p : Int) ^ M) {k : Nat} (hk : 7 * M < k) : R.natAbs < 2 ^ k := by
  have h1 := pow_lt7 hp hk
  have h2 : ((R.natAbs : Nat) : Int) < ((p ^ M : Nat) : Int) := by
    rw [Int.natCast_pow]
    omega
  have := Int.ofNat_lt.mp h2
  omega
section
variable {P : Program} {w : World} {K : PySem.W.Frag} {mg : Str → Option Value} {base : Heap} {A : Ad}
def sp_unit_root : Sp := fun vs H Q _ => ∃ (p M : Nat) (n : Int), vs = [.int p, .int n, .int M] ∧ p ∈ primesN ∧ sqU p n = true ∧ 1 ≤ M ∧ M ≤ 200 ∧ n.natAbs < 2 ^ 200 ∧ ∀ R, IsRoot p n M R → Q (.int R) H
theorem ok_unit_root (T : Txt P K mg A) : FnOk P w K mg base CX0 2 A.a_unit_root A.d_unit_root ["p", "number", "m"] sp_unit_root := by
  refine T.F_unit_root.ok sc_unit_root (fun vs H Q E h => ?_) (fun cdv Ar outer s H vs Q E hr h => ?_)
  · obtain ⟨_, _, _, rfl, _⟩ := h; rfl
  have nd := sc_unit_root.nd
  obtain ⟨p, M, n, rfl, hp, hn, hM, hM2, hnb, q⟩ := h
  obtain ⟨_, h2, h9⟩ := of_pr hp
  refine ⟨_, (pss_cons (ps_set (i := 3) nd rfl (.inl rfl) pe_int)
    (pss_cons (ps_if (pt_cmpR op_eq (pv 0) pe_int (nomark _)) (pss_cons (ps_for PassesOwn.never rfl (pi_range2 (by rfl) T.n_range (pa_cons pe_int (pa_cons (pv 2) pa_nil))) (pg_name (i := 4) nd rfl (Or.inl rfl)) (pss_one (ps_if (pt_cmpR op_ne (pe_op op_mod (pe_op op_sub (pe_op op_mulW (pv 3) (pv 3)) (pv 1)) (pe_call (ok_power T) (hr.mono (by decide)) (by rfl) T.g_power T.k_power T.b_power .nil pass0 (pa_cons pe_int (pa_cons (pe_op op_add (pv 4) pe_int) pa_nil)))) pe_int (nomark _)) (pss_one (ps_set (i := 3) nd rfl (.inl rfl) (pe_op op_add (pv 3) (pe_call (ok_power T) (hr.mono (by decide)) (by rfl) T.g_power T.k_power T.b_power .nil pass0 (pa_cons pe_int (pa_cons (pv 4) pa_nil)))))) pss_nil)))
    (pss_one (ps_ret (pe_op op_mod (pv 3) (pe_call (ok_power T) (hr.mono (by decide)) (by rfl) T.g_power T.k_power T.b_power .nil pass0 (pa_cons pe_int (pa_cons (pv 2) pa_nil))))))) pss_nil)
    (pss_cons (ps_while PassesOwn.never (pt_cmpR op_ne (pe_op op_mod (pe_op op_sub (pe_op op_mulW (pv 3) (pv 3)) (pv 1)) (pv 0)) pe_int (nomark _)) (pss_one (ps_aug (i := 3) nd rfl (.inl rfl) pe_int ip_add)))
    (pss_cons (ps_set (i := 5) nd rfl (.inl rfl) pe_int)
    (pss_cons (ps_while PassesOwn.never (pt_cmpR op_lt (pv 5) (pv 2) (nomark _)) (pss_cons (ps_set (i := 5) nd rfl (.inl rfl) (pe_callB (call_min2 rfl) (by rfl) T.n_min (by decide +kernel) (pa_cons (pe_op op_mul pe_int (pv 5)) (pa_cons (pv 2) pa_nil))))
    (pss_cons (ps_set (i := 6) nd rfl (.inl rfl) (pe_call (ok_power T) (hr.mono (by decide)) (by rfl) T.g_power T.k_power T.b_power .nil pass0 (pa_cons (pv 0) (pa_cons (pv 5) pa_nil))))
    (pss_one (ps_set (i := 3) nd rfl (.inl rfl) (pe_op op_mod (pe_op op_sub (pv 3) (pe_op op_mulW (pe_op op_sub (pe_op op_mulW (pv 3) (pv 3)) (pv 1)) (pe_call (ok_inverse_mod T) (hr.mono (by decide)) (by rfl) T.g_inverse_mod T.k_inverse_mod T.b_inverse_mod .nil pass0 (pa_cons (pe_op op_mul pe_int (pv 3)) (pa_cons (pv 6) pa_nil))))) (pv 6)))))))
    (pss_one (ps_ret (pv 3)))))))), ?_⟩
  walk_at "rd"
  refine KR.iteD (fun c => ?_) (fun c => ?_)
  · obtain rfl : p = 2 := by omega
    walk_at "rd"
    refine KR.rngNN 2 M rfl rfl (by decide) (by omega) ?_
    rw [show M - 2 = max M 2 - 2 by omega]
    refine KR.fwRa (fun k σ' H' => H' = H ∧ ∃ z w, σ' = [some (.int (2 : Nat)), some (.int n), some (.int M), some (.int (s2 n (k - 2))), z, w, none]) ⟨rfl, none, none, rfl⟩ (by omega) ?_ ?_
    · rintro k σ' H' hk2 hkM ⟨rfl, z, w, rfl⟩
      obtain ⟨j, rfl⟩ : ∃ j, k = j + 2 := ⟨k - 2, by omega⟩
      rw [show j + 2 - 2 = j by omega, show j + 2 + 1 - 2 = j + 1 by omega]
      obtain ⟨b1, b2⟩ := s2_lt n j
      have hb : (s2 n j).natAbs < 2 ^ 5000 := Nat.lt_of_lt_of_le (nat_lt_of_int (by omega) b2) (Nat.pow_le_pow_right (by decide) (by omega))
      walk_at "rd"
      refine KR.opI (mulW (by decide) hb hb) ?_
      walk_at "rd"
      refine ⟨2, j + 4, rfl, by decide, by decide, by omega, ?_⟩
      have hpos : (0 : Int) < ((2 : Nat) : Int) ^ (j + 4) := Int.pow_pos (by decide)
      refine KR.opI hpos ?_
      walk_at "rd"
      have es : s2 n (j + 1) = if (s2 n j * s2 n j - n) % 2 ^ (j + 4) ≠ 0 then s2 n j + 2 ^ (j + 2) else s2 n j := rfl
      refine KR.iteND (fun hne => ?_) (fun heq => ?_)
      · have hne2 : (s2 n j * s2 n j - n) % 2 ^ (j + 4) ≠ 0 := hne
        rw [if_pos hne2] at es
        walk_at "rd"
        refine ⟨2, j + 2, rfl, by decide, by decide, by omega, ?_⟩
        walk_at "rd"
        rw [es]
        exact ⟨rfl, _, _, rfl⟩
      · have heq2 : (s2 n j * s2 n j - n) % 2 ^ (j + 4) = 0 := heq
        rw [if_neg (fun z => z heq2)] at es
        walk_at "rd"
        rw [es]
        exact ⟨rfl, _, _, rfl⟩
    · rintro σ' H' ⟨rfl, z, w, rfl⟩
      walk_at "rd"
      refine ⟨2, M, rfl, by decide, by decide, by omega, ?_⟩
      have hpos : (0 : Int) < ((2 : Nat) : Int) ^ M := Int.pow_pos (by decide)
      refine KR.opI hpos ?_
      rw [show max M 2 - 2 = M - 2 by omega]
      exact q _ (root_two hn hM)
  · have ho := (mem_cases hp).resolve_left (by omega)
    obtain ⟨_, hp2, h3, h98, _⟩ := odd_mem ho
    have hnd := sqU_nd hp hn
    have hnr : nr p n = false := by
      unfold sqU at hn
      rw [if_neg hp2] at hn
      cases hh : nr p n with
      | false => rfl
      | true => rw [hh] at hn; cases hn
    obtain ⟨t0, ht1, ht2, ht3⟩ : ∃ t0 : Nat, 1 ≤ t0 ∧ t0 < p ∧ (p : Int) ∣ (t0 : Int) * t0 - n := by
      obtain ⟨k, hk, e⟩ := List.mem_map.mp ((sq_list ho hnd).mpr hnr)
      have hk' := List.mem_range.mp hk
      refine ⟨k + 1, by omega, by omega, ?_⟩
      have := Int.emod_emod_of_dvd n (Int.dvd_refl (p : Int))
      have e2 : ((((k : Int) + 1) * ((k : Int) + 1)) - n) % p = 0 := Int.emod_eq_emod_iff_emod_sub_eq_zero.mp e
      exact Int.dvd_of_emod_eq_zero e2
    walk_at "rd"
    refine KR.whl (fun m σ' H' => ∃ t : Nat, m = t0 - t ∧ H' = H ∧ 1 ≤ t ∧ t ≤ t0 ∧ (∀ s : Nat, 1 ≤ s → s < t → ¬ (p : Int) ∣ (s : Int) * s - n) ∧ σ' = [some (.int p), some (.int n), some (.int M), some (.int t), none, none, none]) (t0 - 1) ⟨1, rfl, rfl, Nat.le_refl _, ht1, fun s h1 h2 => by omega, rfl⟩ ?_
    rintro m σ' H' ⟨t, rfl, rfl, hl1, hl2, hmin, rfl⟩
    walk_at "rd"
    refine KR.opI (mulW (k := 5000) (by decide) (by show t < _; exact Nat.lt_of_lt_of_le (show t < 2 ^ 7 by omega) (Nat.pow_le_pow_right (by decide) (by decide))) (by show t < _; exact Nat.lt_of_lt_of_le (show t < 2 ^ 7 by omega) (Nat.pow_le_pow_right (by decide) (by decide)))) ?_
    walk_at "rd"
    refine KR.iteND (fun hne => KR.turn ?_) (fun heq => ?_)
    · walk_at "rd"
      have htt : t ≠ t0 := fun z => hne (by rw [z]; exact Int.emod_eq_zero_of_dvd ht3)
      exact ⟨t0 - (t + 1), by omega, t + 1, rfl, rfl, by omega, by omega, fun s h1 h2 => by
        rcases Nat.lt_or_ge s t with cc | cc
        · exact hmin s h1 cc
        · rw [show s = t by omega]
          exact fun z => hne (Int.emod_eq_zero_of_dvd z), rfl⟩
    · have hroot : (p : Int) ∣ (t : Int) * t - n := Int.dvd_of_emod_eq_zero heq
      have ep1 : (p : Int) ^ 1 = p := by rw [Int.pow_succ, Int.pow_zero, Int.one_mul]
      walk_at "rd"
      refine KR.whl (fun m σ' H'' => ∃ (κ : Nat) (R : Int) (z : Option V), m = M - κ ∧ H'' = H' ∧ 1 ≤ κ ∧ κ ≤ M ∧ 0 ≤ R ∧ R < (p : Int) ^ κ ∧ (p : Int) ^ κ ∣ R * R - n ∧ (p : Int) ∣ R - t ∧ σ' = [some (.int p), some (.int n), some (.int M), some (.int R), none, some (.int κ), z]) (M - 1)
        ⟨1, t, none, rfl, rfl, Nat.le_refl _, hM, Int.natCast_nonneg _, by rw [ep1]; exact Int.ofNat_lt.mpr (by omega), by rw [ep1]; exact hroot, by rw [Int.sub_self]; exact Int.dvd_zero _, rfl⟩ ?_
      rintro m σ' H'' ⟨κ, R, z, rfl, rfl, hk1, hkM, hR0, hR1, hR2, hR3, rfl⟩
      walk_at "rd"
      refine KR.iteD (fun hlt => KR.turn ?_) (fun hge => ?_)
      · walk_at "rd"
        obtain ⟨κ', hk', hmin2⟩ : ∃ κ' : Nat, (if (M : Int) < 2 * (κ : Int) then (M : Int) else 2 * (κ : Int)) = (κ' : Int) ∧ κ < κ' ∧ κ' ≤ 2 * κ ∧ κ' ≤ M := by
          by_cases cc : (M : Int) < 2 * (κ : Int)
          · rw [if_pos cc]; exact ⟨M, rfl, by omega, by omega, by omega⟩
          · rw [if_neg cc]; exact ⟨2 * κ, by omega, by omega, by omega, by omega⟩
        obtain ⟨hm1, hm2, hm3⟩ := hmin2
        rw [hk']
        refine ⟨p, κ', rfl, by omega, by omega, by omega, ?_⟩
        have hRb : R.natAbs < 2 ^ 2000 := pw_lt (by omega) hR0 hR1 (by omega)
        have hb5 : (2 : Nat) ^ 2000 ≤ 2 ^ 5000 := Nat.pow_le_pow_right (by decide) (by decide)
        walk_at "rd"
        refine KR.opI (mulW (k := 5000) (by decide) (by omega) (by omega)) ?_
        walk_at "rd"
        have hRp : ¬ (p : Int) ∣ R := fun z => by
          have z2 : (p : Int) ∣ t := by
            have e : (t : Int) = R - (R - t) := by omega
            rw [e]
            exact Int.dvd_sub z hR3
          have z3 : (p : Int) ∣ n := by
            have e : n = (t : Int) * t - ((t : Int) * t - n) := by omega
            rw [e]
            exact Int.dvd_sub (Int.dvd_mul_of_dvd_left z2) hroot
          exact hnd z3
        have h2p : ¬ (p : Int) ∣ 2 := fun z => by
          have := Int.le_of_dvd (by decide) z
          omega
        have h2R := int_pr (pr_mem hp) h2p hRp
        have epk : (p : Int) ^ κ' = ((p ^ κ' : Nat) : Int) := (Int.natCast_pow _ _).symm
        have hppos : 0 < p ^ κ' := Nat.pow_pos (by omega)
        have hpk2 : 2 ≤ p ^ κ' := by
          have : p ^ 1 ≤ p ^ κ' := Nat.pow_le_pow_right (by omega) (by omega)
          rw [Nat.pow_one] at this
          omega
        have hgcd : Nat.gcd (p ^ κ') ((2 * R % ((p ^ κ' : Nat) : Int)).toNat) = 1 := by
          refine (pr_mem hp).copPow (fun z => h2R ?_) κ'
          have z2 : (p : Int) ∣ 2 * R % ((p ^ κ' : Nat) : Int) := by
            have := Int.natCast_dvd_natCast.mpr z
            rw [Int.toNat_of_nonneg (Int.emod_nonneg _ (by omega))] at this
            exact this
          have z3 : (p : Int) ∣ 2 * R - 2 * R % ((p ^ κ' : Nat) : Int) := Int.dvd_trans (by rw [← epk]; exact ⟨(p : Int) ^ (κ' - 1), by rw [Int.mul_comm, ← Int.pow_succ]; congr 1; omega⟩) Int.dvd_self_sub_emod
          have e : 2 * R = (2 * R - 2 * R % ((p ^ κ' : Nat) : Int)) + 2 * R % ((p ^ κ' : Nat) : Int) := by omega
          rw [e]
          exact Int.dvd_add z3 z2
        have hlt5 : p ^ κ' < 2 ^ 5000 := Nat.lt_of_lt_of_le (pow_lt7 (b := p) (r := κ') (k := 2000) (by omega) (by omega)) hb5
        rw [epk]
        refine ⟨2 * R, p ^ κ', rfl, hpk2, hlt5, hgcd, fun v hv0 hv1 hv2 => ?_⟩
        have hvb : v.natAbs < 2 ^ 5000 := by omega
        have hEb : (R * R - n).natAbs < 2 ^ 5000 := by
          have h1 : (R * R - n).natAbs ≤ R.natAbs * R.natAbs + n.natAbs := by
            have := Int.natAbs_sub_le (R * R) n
            rw [Int.natAbs_mul] at this
            exact this
          have h2 : R.natAbs * R.natAbs < 2 ^ 4000 := by
            have h3 : R.natAbs * R.natAbs < 2 ^ 2000 * 2 ^ 2000 := Nat.mul_lt_mul'' hRb hRb
            rw [← Nat.pow_add] at h3
            exact h3
          have h4 : (2 : Nat) ^ 200 ≤ 2 ^ 4000 := Nat.pow_le_pow_right (by decide) (by decide)
          have h5 : (2 : Nat) ^ 4000 + 2 ^ 4000 = 2 ^ 4001 := by rw [Nat.pow_succ 2 4000, Nat.mul_two]
          have h6 : (2 : Nat) ^ 4001 ≤ 2 ^ 5000 := Nat.pow_le_pow_right (by decide) (by decide)
          omega
        refine KR.opI (mulW (k := 5000) (by decide) hEb hvb) ?_
        walk_at "rd"
        have hposI : (0 : Int) < ((p ^ κ' : Nat) : Int) := Int.ofNat_lt.mpr hppos
        have dT : ((p ^ κ' : Nat) : Int) ∣ (R - (R * R - n) * v) * (R - (R * R - n) * v) - n := by
          obtain ⟨c, hc⟩ := hR2
          obtain ⟨d, hd⟩ := hv2
          have hE2 : ((p ^ κ' : Nat) : Int) ∣ (R * R - n) * (R * R - n) := by
            rw [← epk, hc]
            have : (p : Int) ^ κ' ∣ (p : Int) ^ κ * (p : Int) ^ κ := by
              rw [← Int.pow_add]
              exact pw_dvd (by omega)
            have e : (p : Int) ^ κ * c * ((p : Int) ^ κ * c) = (p : Int) ^ κ * (p : Int) ^ κ * (c * c) := by simp only [Int.mul_assoc, Int.mul_left_comm]
            rw [e]
            exact Int.dvd_mul_of_dvd_left this
          have e : (R - (R * R - n) * v) * (R - (R * R - n) * v) - n = -((R * R - n) * (2 * R * v - 1)) + (R * R - n) * (R * R - n) * (v * v) := by
            generalize hE : R * R - n = E at *
            have hn' : n = R * R - E := by omega
            rw [hn']
            simp only [Int.sub_mul, Int.mul_sub, Int.mul_one]
            have a1 : E * v * R = R * (E * v) := Int.mul_comm _ _
            have a2 : E * (2 * R * v) = 2 * (R * (E * v)) := by
              have : E * (2 * R * v) = 2 * R * (E * v) := Int.mul_left_comm _ _ _
              rw [this, Int.mul_assoc]
            have a3 : E * v * (E * v) = E * E * (v * v) := by simp only [Int.mul_assoc, Int.mul_left_comm]
            omega
          rw [e, hd]
          exact Int.dvd_add (Int.dvd_neg.mpr (Int.dvd_mul_of_dvd_right (Int.dvd_mul_right _ _))) (Int.dvd_mul_of_dvd_left hE2)
        have dm : ((p ^ κ' : Nat) : Int) ∣ (R - (R * R - n) * v) - (R - (R * R - n) * v) % ((p ^ κ' : Nat) : Int) := Int.dvd_self_sub_emod
        have dp : (p : Int) ∣ (R - (R * R - n) * v) - t := by
          have h1 : (p : Int) ∣ R * R - n := Int.dvd_trans ⟨(p : Int) ^ (κ - 1), by rw [Int.mul_comm, ← Int.pow_succ]; congr 1; omega⟩ hR2
          have e : (R - (R * R - n) * v) - t = (R - t) - (R * R - n) * v := by omega
          rw [e]
          exact Int.dvd_sub hR3 (Int.dvd_mul_of_dvd_left h1)
        have n0 := Int.emod_nonneg (R - (R * R - n) * v) (show ((p ^ κ' : Nat) : Int) ≠ 0 by omega)
        have n1 := Int.emod_lt_of_pos (R - (R * R - n) * v) hposI
        generalize R - (R * R - n) * v = Tt at *
        generalize Tt % ((p ^ κ' : Nat) : Int) = R' at *
        refine ⟨M - κ', by omega, κ', R', _, rfl, rfl, by omega, hm3, n0, by rw [epk]; exact n1, ?_, ?_, rfl⟩
        · rw [epk]
          have e : R' * R' - n = (Tt * Tt - n) - (Tt - R') * (Tt + R') := by
            rw [Int.sub_mul, Int.mul_add, Int.mul_add, Int.mul_comm R' Tt]
            omega
          rw [e]
          exact Int.dvd_sub dT (Int.dvd_mul_of_dvd_left dm)
        · have h1 : (p : Int) ∣ Tt - R' := Int.dvd_trans (by rw [← epk]; exact ⟨(p : Int) ^ (κ' - 1), by rw [Int.mul_comm, ← Int.pow_succ]; congr 1; omega⟩) dm
          have e : R' - t = (Tt - t) - (Tt - R') := by omega
          rw [e]
          exact Int.dvd_sub dp h1
      · walk_at "rd"
        have hkk : κ = M := by omega
        subst hkk
        refine q R ⟨hR0, hR1, hR2, ?_⟩
        unfold Tie
        rw [if_neg hp2]
        exact ⟨t, hl1, hroot, hmin, hR3⟩
end
end K9
namespace K9
open PySem PySem.Spec PyProof.Rows L2 K7
local macro_rules | `(tactic| walk_at "rc") => `(tactic| first
  | assumption
  | (show (0 : Int) < _; omega)
  | (show (0 : Int) < _ ∧ _ < (1073741824 : Int); exact ⟨by omega, by omega⟩)
  | (show (-(2 ^ 64 : Int) < _ ∧ _ < (2 ^ 64 : Int)) ∨ _; exact .inl ⟨by omega, by omega⟩)
  | (show _ ∨ (-(2 ^ 64 : Int) < _ ∧ _ < (2 ^ 64 : Int)); exact .inr ⟨by omega, by omega⟩)
  | (show (0 : Int) ≤ _ ∧ _ ≤ (1000000 : Int) ∧ _ < 2 ^ 64; exact ⟨by decide, by decide, by decide⟩))
local macro_rules | `(tactic| walk_at "rd") => `(tactic| repeat (first
  | with_reducible apply KR.seq
  | with_reducible apply KR.asg
  | with_reducible apply KR.drop
  | with_reducible apply KR.ret
  | with_reducible apply KR.retN
  | with_reducible apply KR.next
  | with_reducible apply KR.ifs
  | with_reducible refine KR.var rfl ?_
  | with_reducible refine L2.iteT ?_
  | with_reducible refine L2.iteF ?_
  | with_reducible refine KR.iteNF ?_
  | with_reducible refine KR.iteNT ?_
  | with_reducible apply KR.con
  | with_reducible apply KR.op
  | with_reducible apply KR.opI0
  | ((with_reducible refine KR.opI ?rc ?_); (case rc => walk_at "rc"))
  | with_reducible apply KR.un
  | with_reducible apply KR.unI
  | with_reducible apply KR.eqI
  | with_reducible apply KR.neI
  | with_reducible apply KR.test
  | with_reducible apply KR.tb'
  | with_reducible apply KR.exbl
  | with_reducible apply KR.and'
  | with_reducible apply KR.or'
  | with_reducible apply KR.not'
  | with_reducible apply KR.chain
  | with_reducible apply KR.call
  | with_reducible apply KR.callS
  | with_reducible apply KR.make
  | with_reducible apply KR.bm
  | with_reducible apply KR.errF
  | with_reducible apply KR.cons
  | with_reducible apply KR.nil
  | with_reducible apply KR.cb
  | with_reducible apply KR.cInt1
  | with_reducible apply KR.cI1
  | with_reducible apply KR.cI2
  | with_reducible apply KR.isi_ii
  | with_reducible apply KR.isi_ib
  | with_reducible apply KR.bits
  | with_reducible apply KR.exint
  | with_reducible apply KR.ifx
  | with_reducible refine KR.aug rfl ?_
  | with_reducible apply KR.ipI
  | with_reducible apply KR.for'
  | with_reducible apply KR.rng1
  | with_reducible apply KR.rng2
  | with_reducible apply KR.ilist
  | with_reducible apply KR.itup
  | with_reducible apply KR.tup
  | with_reducible apply KR.lst
  | with_reducible apply KR.andV
  | with_reducible apply KR.orV
  | with_reducible apply KR.notV
  | with_reducible apply KR.asgG
  | with_reducible apply KR.sub
  | with_reducible apply KR.fld
  | with_reducible apply KR.prop
  | with_reducible apply KR.meth
  | with_reducible apply KR.par
  | with_reducible apply KR.parN
  | with_reducible apply KR.raise1
  | with_reducible apply KR.raise0
  | with_reducible apply KR.exv
  | with_reducible apply KR.lc
  | with_reducible apply KR.ienT
  | with_reducible apply KR.sfld
  | with_reducible apply KR.sl
  | with_reducible apply KR.part
  | with_reducible apply KR.nopart
  | with_reducible apply KR.isNo
  | with_reducible refine KR.nnT ?_
  | with_reducible refine KR.niF ?_
  | with_reducible refine KR.nrF ?_
  | with_reducible refine KR.mnT ?_
  | with_reducible refine KR.miF ?_
  | with_reducible refine KR.mrF ?_))
theorem small64 {x : Int} (h1 : 0 ≤ x) (h2 : x ≤ 200) : x.natAbs < 2 ^ 64 := by
  have : (2 : Nat) ^ 64 = 18446744073709551616 := by decide
  omega
section
variable {P : Program} {w : World} {K : PySem.W.Frag} {mg : Str → Option Value} {base : Heap} {A : Ad}
def sp_start_pair : Sp := fun vs H Q _ => ∃ (p : Nat) (a b : Int), vs = [.int p, .int a, .int b] ∧ p ∈ primesN ∧ (∃ xy ∈ prs p, sqU p (qf a b xy) = true) ∧
  ∀ (x y : Int) t H2, FirstP p a b (x, y) → Evl.Ex H H2 → H2 t = some (.tup [.int x, .int y]) → Q (.ref t) H2
theorem ok_start_pair (T : Txt P K mg A) : FnOk P w K mg base CX0 3 A.a_start_pair A.d_start_pair ["p", "a", "b"] sp_start_pair := by
  refine T.F_start_pair.ok sc_start_pair (fun vs H Q E h => ?_) (fun cdv Ar outer s H vs Q E hr h => ?_)
  · obtain ⟨_, _, _, rfl, _⟩ := h; rfl
  have nd := sc_start_pair.nd
  obtain ⟨p, a, b, rfl, hp, hex, q⟩ := h
  obtain ⟨_, h2, h9⟩ := of_pr hp
  refine ⟨_, (pss_cons (ps_set (i := 3) nd rfl (.inl rfl) (pe_op op_cat (pe_lst (pa_cons (pe_tup (pa_cons pe_int (pa_cons pe_int pa_nil))) (pa_cons (pe_tup (pa_cons pe_int (pa_cons pe_int pa_nil))) pa_nil))) (pe_lc (own := [("k", 5)]) (g := gName 5) (tt := tYes) rfl nd (pi_range1 (by rfl) T.n_range (pa_cons (pe_op op_add (pv 0) pe_int) pa_nil)) (blkOk_by (own := [("k", 5)]) (N := ["p", "a", "b", "pairs", "at", "k"]) (sc := defScope s_start_pair) (by decide +kernel)) (fun _ _ _ _ _ => pg_name (i := 5) nd rfl (Or.inl rfl)) (fun _ _ _ _ _ => pts_nil) (fun _ _ _ _ _ => (pe_tup (pa_cons (pv 5) (pa_cons pe_int pa_nil)))))))
    (pss_cons (ps_set (i := 4) nd rfl (.inl rfl) pe_int)
    (pss_cons (ps_while PassesOwn.never (pt_not (pt_val (pe_call (ok_square_unit T) (hr.mono (by decide)) (by rfl) T.g_square_unit T.k_square_unit T.b_square_unit .nil pass0 (pa_cons (pv 0) (pa_cons (pe_op op_add (pe_op op_mul (pv 1) (pe_op op_pow (pe_ix ix_tup (pe_ix ix_list (pv 3) (pv 4) (fun _ _ => rfl)) pe_int (fun _ _ => rfl)) pe_int)) (pe_op op_mul (pv 2) (pe_op op_pow (pe_ix ix_tup (pe_ix ix_list (pv 3) (pv 4) (fun _ _ => rfl)) pe_int (fun _ _ => rfl)) pe_int))) pa_nil))))) (pss_one (ps_aug (i := 4) nd rfl (.inl rfl) pe_int ip_add)))
    (pss_one (ps_ret (pe_ix ix_list (pv 3) (pv 4) (fun _ _ => rfl))))))), ?_⟩
  walk_at "rd"
  refine ⟨by show (2 : Nat) ≤ sizeLine; decide, fun t1 h1 => ?_⟩
  walk_at "rd"
  refine ⟨by show (2 : Nat) ≤ sizeLine; decide, fun t2 h2' => ?_⟩
  walk_at "rd"
  refine ⟨by show (2 : Nat) ≤ sizeLine; decide, fun c hc => ?_⟩
  generalize hG : upd (upd (upd H t1 _) t2 _) c _ = H1
  have e1 : Evl.Ex H H1 := by rw [← hG]; exact ((Evl.Ex.new h1).trans (Evl.Ex.new h2')).trans (Evl.Ex.new hc)
  have l1 : H1 t1 = some (.tup [.int 1, .int 0]) := by rw [← hG]; exact ((Evl.Ex.new h2').trans (Evl.Ex.new hc)) _ _ upd_same
  have l2 : H1 t2 = some (.tup [.int 1, .int 2]) := by rw [← hG]; exact (Evl.Ex.new hc) _ _ upd_same
  have l3 : H1 c = some (.lst [.ref t1, .ref t2]) := by rw [← hG]; exact upd_same
  clear hG h1 h2' hc
  walk_at "rd"
  refine KR.lrngI (p + 1) (by omega) (by omega) (KR.lwRt (a := 0) (n := p + 1) (fun k => [.int (k : Nat), .int 1]) (by omega) (fun _ => rfl) ?_ ?_)
  · intro k H3 e3 _ hk Q' q'
    walk_at "rd"
    exact ⟨by show (2 : Nat) ≤ sizeLine; decide, fun r hr => q' r _ (Evl.Ex.new hr) upd_same⟩
  intro d xs H2 hd e2 ld hxl hxs
  refine ⟨c, d, _, _, rfl, rfl, e2 _ _ l3, ld, by rw [hxl, sizeLine_eq]; show 2 + _ ≤ _; omega, fun L hL => ?_⟩
  have e3 : Evl.Ex H1 (upd H2 L (.lst ([.ref t1, .ref t2] ++ xs))) := e2.trans (Evl.Ex.new hL)
  have lL : (upd H2 L (.lst ([V.ref t1, V.ref t2] ++ xs))) L = some (.lst ([V.ref t1, V.ref t2] ++ xs)) := upd_same
  have hget : ∀ (k : Nat) (xy : Int × Int), (prs p)[k]? = some xy → ∃ r : Addr, ([V.ref t1, V.ref t2] ++ xs)[k]? = some (.ref r) ∧ (upd H2 L (.lst ([V.ref t1, V.ref t2] ++ xs))) r = some (.tup [.int xy.1, .int xy.2]) := by
    intro k xy hk
    match k with
    | 0 =>
      have : ((1, 0) : Int × Int) = xy := Option.some.inj hk
      rw [← this]
      exact ⟨t1, rfl, e3 _ _ l1⟩
    | 1 =>
      have : ((1, 2) : Int × Int) = xy := Option.some.inj hk
      rw [← this]
      exact ⟨t2, rfl, e3 _ _ l2⟩
    | k + 2 =>
      have hk' : ((List.range (p + 1)).map fun k : Nat => ((k : Int), (1 : Int)))[k]? = some xy := hk
      rw [List.getElem?_map] at hk'
      obtain ⟨j, hj, rfl⟩ := Option.map_eq_some_iff.mp hk'
      have hj2 := List.getElem?_eq_some_iff.mp hj
      obtain ⟨hj3, hj4⟩ := hj2
      rw [List.getElem_range] at hj4
      subst hj4
      rw [List.length_range] at hj3
      have hkx : k < xs.length := by omega
      obtain ⟨r, er, hr⟩ := hxs k xs[k] (List.getElem?_eq_getElem hkx)
      rw [Nat.zero_add] at hr
      refine ⟨r, ?_, (Evl.Ex.new hL) _ _ hr⟩
      show xs[k]? = _
      rw [List.getElem?_eq_getElem hkx, er]
  generalize upd H2 L (.lst ([V.ref t1, V.ref t2] ++ xs)) = H3 at e3 lL hget ⊢
  generalize [V.ref t1, V.ref t2] ++ xs = L0 at lL hget
  have e13 := e1.trans e3
  clear e1 e2 e3 l1 l2 l3 hxs hxl ld hL hd
  obtain ⟨⟨x0, y0⟩, hF⟩ := first_ex hex
  obtain ⟨t0, ht0, hmin⟩ := hF.ex
  have hbd : ∀ (k : Nat) (xy : Int × Int), (prs p)[k]? = some xy → 0 ≤ xy.1 ∧ xy.1 ≤ 200 ∧ 0 ≤ xy.2 ∧ xy.2 ≤ 200 := by
    intro k xy hk
    have hm := List.mem_of_getElem? hk
    unfold prs at hm
    rcases List.mem_append.mp hm with hm | hm
    · simp only [List.mem_cons, List.not_mem_nil, or_false] at hm
      rcases hm with rfl | rfl <;> exact ⟨by decide, by decide, by decide, by decide⟩
    · obtain ⟨j, hj, rfl⟩ := List.mem_map.mp hm
      have := List.mem_range.mp hj
      exact ⟨by show (0 : Int) ≤ (j : Int); omega, by show (j : Int) ≤ 200; omega, (by decide : (0 : Int) ≤ 1), (by decide : (1 : Int) ≤ 200)⟩
  have sL : SqL K H3 L L0 := .inl (.inl lL)
  have sq2 : ∀ z : Int, z ^ Int.toNat 2 = z * z := fun z => by
    show z ^ 2 = z * z
    rw [Int.pow_succ, Int.pow_succ, Int.pow_zero, Int.one_mul]
  walk_at "rd"
  refine KR.whl (fun m σ' H' => ∃ t : Nat, m = t0 - t ∧ H' = H3 ∧ t ≤ t0 ∧ σ' = [some (.int p), some (.int a), some (.int b), some (.ref L), some (.int t), none]) t0 ⟨0, rfl, rfl, Nat.zero_le _, rfl⟩ ?_
  rintro m σ' H' ⟨t, rfl, rfl, htt, rfl⟩
  have htl : t < (prs p).length := by
    have := (List.getElem?_eq_some_iff.mp ht0).1
    omega
  obtain ⟨⟨x, y⟩, hxy⟩ : ∃ xy, (prs p)[t]? = some xy := ⟨_, List.getElem?_eq_getElem htl⟩
  obtain ⟨r, hr1, hr2⟩ := hget t _ hxy
  obtain ⟨b1, b2, b3, b4⟩ := hbd t _ hxy
  have b5 : x * x ≤ 200 * 200 := Int.mul_le_mul b2 b2 b1 (by decide)
  have b6 : y * y ≤ 200 * 200 := Int.mul_le_mul b4 b4 b3 (by decide)
  have b7 : 0 ≤ x * x := Int.mul_nonneg b1 b1
  have b8 : 0 ≤ y * y := Int.mul_nonneg b3 b3
  have cpx : CPow x 2 := ⟨by decide, by decide, small64 b1 b2⟩
  have cpy : CPow y 2 := ⟨by decide, by decide, small64 b3 b4⟩
  have sT : SqT K H' r [V.int x, V.int y] := .inl (.inl hr2)
  walk_at "rd"
  refine KR.ixL sL (atI_nat hr1) ?_
  walk_at "rd"
  refine KR.ixT sT (v := .int x) rfl ?_
  walk_at "rd"
  rw [sq2]
  walk_at "rd"
  refine KR.ixL sL (atI_nat hr1) ?_
  walk_at "rd"
  refine KR.ixT sT (v := .int y) rfl ?_
  walk_at "rd"
  rw [sq2]
  walk_at "rd"
  refine ⟨p, _, rfl, hp, ?_⟩
  walk_at "rd"
  by_cases c : t = t0
  · subst c
    rw [ht0] at hxy
    have exy : (x0, y0) = (x, y) := Option.some.inj hxy
    have ex : x0 = x := congrArg Prod.fst exy
    have ey : y0 = y := congrArg Prod.snd exy
    subst ex ey
    have hs : sqU p (a * (x0 * x0) + b * (y0 * y0)) = true := hF.sq
    rw [hs]
    walk_at "rd"
    refine KR.ixL sL (atI_nat hr1) ?_
    exact q x0 y0 r H' hF e13 hr2
  · have hs : sqU p (a * (x * x) + b * (y * y)) = false := hmin t (by omega) _ hxy
    rw [hs]
    walk_at "rd"
    refine KR.turn ?_
    walk_at "rd"
    exact ⟨t0 - (t + 1), by omega, t + 1, rfl, rfl, by omega, rfl⟩
end
end K9
namespace K9
open PySem PySem.Spec PyProof.Rows L2 K7
local macro_rules | `(tactic| walk_at "rc") => `(tactic| first
  | assumption
  | (show (0 : Int) < _; omega)
  | (show (0 : Int) < _ ∧ _ < (1073741824 : Int); exact ⟨by omega, by omega⟩)
  | (show (-(2 ^ 64 : Int) < _ ∧ _ < (2 ^ 64 : Int)) ∨ _; exact .inl ⟨by omega, by omega⟩)
  | (show _ ∨ (-(2 ^ 64 : Int) < _ ∧ _ < (2 ^ 64 : Int)); exact .inr ⟨by omega, by omega⟩)
  | (show (0 : Int) ≤ _ ∧ _ ≤ (1000000 : Int) ∧ _ < 2 ^ 64; exact ⟨by decide, by decide, by decide⟩))
local macro_rules | `(tactic| walk_at "rd") => `(tactic| repeat (first
  | with_reducible apply KR.seq
  | with_reducible apply KR.asg
  | with_reducible apply KR.drop
  | with_reducible apply KR.ret
  | with_reducible apply KR.retN
  | with_reducible apply KR.next
  | with_reducible apply KR.ifs
  | with_reducible refine KR.var rfl ?_
  | with_reducible refine L2.iteT ?_
  | with_reducible refine L2.iteF ?_
  | with_reducible refine KR.iteNF ?_
  | with_reducible refine KR.iteNT ?_
  | with_reducible apply KR.con
  | with_reducible apply KR.op
  | with_reducible apply KR.opI0
  | ((with_reducible refine KR.opI ?rc ?_); (case rc => walk_at "rc"))
  | with_reducible apply KR.un
  | with_reducible apply KR.unI
  | with_reducible apply KR.eqI
  | with_reducible apply KR.neI
  | with_reducible apply KR.test
  | with_reducible apply KR.tb'
  | with_reducible apply KR.exbl
  | with_reducible apply KR.and'
  | with_reducible apply KR.or'
  | with_reducible apply KR.not'
  | with_reducible apply KR.chain
  | with_reducible apply KR.call
  | with_reducible apply KR.callS
  | with_reducible apply KR.make
  | with_reducible apply KR.bm
  | with_reducible apply KR.errF
  | with_reducible apply KR.cons
  | with_reducible apply KR.nil
  | with_reducible apply KR.cb
  | with_reducible apply KR.cInt1
  | with_reducible apply KR.cI1
  | with_reducible apply KR.cI2
  | with_reducible apply KR.isi_ii
  | with_reducible apply KR.isi_ib
  | with_reducible apply KR.bits
  | with_reducible apply KR.exint
  | with_reducible apply KR.ifx
  | with_reducible refine KR.aug rfl ?_
  | with_reducible apply KR.ipI
  | with_reducible apply KR.for'
  | with_reducible apply KR.rng1
  | with_reducible apply KR.rng2
  | with_reducible apply KR.ilist
  | with_reducible apply KR.itup
  | with_reducible apply KR.tup
  | with_reducible apply KR.lst
  | with_reducible apply KR.andV
  | with_reducible apply KR.orV
  | with_reducible apply KR.notV
  | with_reducible apply KR.asgG
  | with_reducible apply KR.sub
  | with_reducible apply KR.fld
  | with_reducible apply KR.prop
  | with_reducible apply KR.meth
  | with_reducible apply KR.par
  | with_reducible apply KR.parN
  | with_reducible apply KR.raise1
  | with_reducible apply KR.raise0
  | with_reducible apply KR.exv
  | with_reducible apply KR.lc
  | with_reducible apply KR.ienT
  | with_reducible apply KR.sfld
  | with_reducible apply KR.sl
  | with_reducible apply KR.part
  | with_reducible apply KR.nopart
  | with_reducible apply KR.isNo
  | with_reducible refine KR.nnT ?_
  | with_reducible refine KR.niF ?_
  | with_reducible refine KR.nrF ?_
  | with_reducible refine KR.mnT ?_
  | with_reducible refine KR.miF ?_
  | with_reducible refine KR.mrF ?_))
theorem FirstP.bd {p : Nat} (hp : p < 100) {a b : Int} {xy : Int × Int} (h : FirstP p a b xy) : (0 ≤ xy.1 ∧ xy.1 ≤ 200) ∧ 0 ≤ xy.2 ∧ xy.2 ≤ 200 := by
  obtain ⟨t, ht, _⟩ := h.ex
  have hm := List.mem_of_getElem? ht
  unfold prs at hm
  rcases List.mem_append.mp hm with hm | hm
  · simp only [List.mem_cons, List.not_mem_nil, or_false] at hm
    rcases hm with rfl | rfl <;> exact ⟨⟨by decide, by decide⟩, by decide, by decide⟩
  · obtain ⟨j, hj, rfl⟩ := List.mem_map.mp hm
    have := List.mem_range.mp hj
    exact ⟨⟨by show (0 : Int) ≤ (j : Int); omega, by show (j : Int) ≤ 200; omega⟩, (by decide : (0 : Int) ≤ 1), (by decide : (1 : Int) ≤ 200)⟩
theorem mul_bd {a x : Int} {A X : Nat} (ha : a.natAbs ≤ A) (hx : x.natAbs ≤ X) : (a * x).natAbs ≤ A * X := by
  rw [Int.natAbs_mul]
  exact Nat.mul_le_mul ha hx
theorem dvd_iff_mod {p : Nat} {a : Int} : (p : Int) ∣ a ↔ a % (p : Int) = 0 := ⟨Int.emod_eq_zero_of_dvd, Int.dvd_of_emod_eq_zero⟩
theorem v_zero {p : Nat} (hp : 2 ≤ p) {a : Int} (ha : ¬ (p : Int) ∣ a) : vI p a = 0 ∧ un p a = a := form_uniq hp (by rw [Int.pow_zero, Int.one_mul]) ha
theorem v_one {p : Nat} (hp : 2 ≤ p) {a : Int} (h0 : a ≠ 0) (ha : (p : Int) ∣ a) (h1 : vI p a < 2) : vI p a = 1 ∧ a = (p : Int) * un p a ∧ a / p = un p a := by
  have h2 := le_vI hp h0 (k := 1) (by rw [Int.pow_succ, Int.pow_zero, Int.one_mul]; exact ha)
  have h3 : vI p a = 1 := by omega
  have e := (form hp h0).1
  rw [h3, Int.pow_succ, Int.pow_zero, Int.one_mul] at e
  exact ⟨h3, e, by rw [congrArg (· / (p : Int)) e]; exact Int.mul_ediv_cancel_left _ (by omega)⟩
section
variable {P : Program} {w : World} {K : PySem.W.Frag} {mg : Str → Option Value} {base : Heap} {A : Ad}
def sp_first_point : Sp := fun vs H Q _ => ∃ (p M : Nat) (a b : Int), vs = [.int p, .int a, .int b, .int M] ∧ p ∈ primesN ∧ a.natAbs ≤ 1000000000000 ∧ b.natAbs ≤ 1000000000000 ∧ a ≠ 0 ∧ b ≠ 0 ∧ vI p a < 2 ∧ vI p b < 2 ∧ sg p a b = false ∧ 1 ≤ M ∧ M ≤ 200 ∧
  ∀ (x y z : Int) t H2, FP p a b M x y z → x.natAbs < 2 ^ 2000 → y.natAbs < 2 ^ 2000 → z.natAbs < 2 ^ 2000 → Evl.Ex H H2 → H2 t = some (.tup [.int x, .int y, .int z]) → Q (.ref t) H2
theorem ok_first_point (T : Txt P K mg A) : FnOk P w K mg base CX0 4 A.a_first_point A.d_first_point ["p", "a", "b", "m"] sp_first_point := by
  refine T.F_first_point.ok sc_first_point (fun vs H Q E h => ?_) (fun cdv Ar outer s H vs Q E hr h => ?_)
  · obtain ⟨_, _, _, _, rfl, _⟩ := h; rfl
  have nd := sc_first_point.nd
  obtain ⟨p, M, a, b, rfl, hp, ha, hb, ha0, hb0, va, vb, hs, hM, hM2, q⟩ := h
  obtain ⟨_, h2, h9⟩ := of_pr hp
  have p64 : (2 : Nat) ^ 64 = 18446744073709551616 := by decide
  have big : (2 : Nat) ^ 64 ≤ 2 ^ 200 := Nat.pow_le_pow_right (by decide) (by decide)
  have big2 : (2 : Nat) ^ 200 ≤ 2 ^ 2000 := Nat.pow_le_pow_right (by decide) (by decide)
  refine ⟨_, (pss_cons (ps_if (PW.pt (pw_or (pt_cmpR op_ne (pe_op op_mod (pv 1) (pv 0)) pe_int (nomark _)) (pw_or1 (pt_cmpR op_ne (pe_op op_mod (pv 2) (pv 0)) pe_int (nomark _))))) (pss_cons (ps_asg (pe_call (ok_start_pair T) (hr.mono (by decide)) (by rfl) T.g_start_pair T.k_start_pair T.b_start_pair .nil pass0 (pa_cons (pv 0) (pa_cons (pv 1) (pa_cons (pv 2) pa_nil)))) (pg_tup rfl (pgs_cons (pg_name (i := 4) nd rfl (Or.inl rfl)) (pgs_cons (pg_name (i := 5) nd rfl (Or.inl rfl)) pgs_nil))))
    (pss_one (ps_ret (pe_tup (pa_cons (pv 4) (pa_cons (pv 5) (pa_cons (pe_call (ok_unit_root T) (hr.mono (by decide)) (by rfl) T.g_unit_root T.k_unit_root T.b_unit_root .nil pass0 (pa_cons (pv 0) (pa_cons (pe_op op_add (pe_op op_mul (pe_op op_mul (pv 1) (pv 4)) (pv 4)) (pe_op op_mul (pe_op op_mul (pv 2) (pv 5)) (pv 5))) (pa_cons (pv 3) pa_nil)))) pa_nil))))))) pss_nil)
    (pss_cons (ps_set (i := 6) nd rfl (.inl rfl) (pe_op op_fdiv (pv 1) (pv 0)))
    (pss_cons (ps_set (i := 7) nd rfl (.inl rfl) (pe_op op_mul (pv 6) (pe_op op_fdiv (pv 2) (pv 0))))
    (pss_cons (ps_asg (pe_call (ok_start_pair T) (hr.mono (by decide)) (by rfl) T.g_start_pair T.k_start_pair T.b_start_pair .nil pass0 (pa_cons (pv 0) (pa_cons (pv 1) (pa_cons (pe_un un_neg (pv 7)) pa_nil)))) (pg_tup rfl (pgs_cons (pg_name (i := 4) nd rfl (Or.inl rfl)) (pgs_cons (pg_name (i := 5) nd rfl (Or.inl rfl)) pgs_nil))))
    (pss_one (ps_ret (pe_tup (pa_cons (pe_call (ok_unit_root T) (hr.mono (by decide)) (by rfl) T.g_unit_root T.k_unit_root T.b_unit_root .nil pass0 (pa_cons (pv 0) (pa_cons (pe_op op_sub (pe_op op_mul (pe_op op_mul (pv 1) (pv 4)) (pv 4)) (pe_op op_mul (pe_op op_mul (pv 7) (pv 5)) (pv 5))) (pa_cons (pv 3) pa_nil)))) (pa_cons (pe_op op_mul (pv 6) (pv 5)) (pa_cons (pe_op op_mul (pv 1) (pv 4)) pa_nil)))))))))), ?_⟩
  by_cases hn : ¬ (p : Int) ∣ a ∨ ¬ (p : Int) ∣ b
  · have exA : ∃ xy ∈ prs p, sqU p (qf a b xy) = true := by
      obtain ⟨ea, na⟩ := form h2 ha0
      obtain ⟨eb, nb⟩ := form h2 hb0
      have := pair_exA hp va vb na nb (hn.imp (fun z => (v_zero h2 z).1) (fun z => (v_zero h2 z).1)) hs
      rw [← ea, ← eb] at this
      exact this
    refine KR.seq (KR.ifT (fun QB qb => ?_) ?_)
    · walk_at "rd"
      refine KR.iteND (fun _ => qb) (fun z => ?_)
      walk_at "rd"
      have hb' : ¬ b % (p : Int) = 0 := fun y => hn.elim (fun k => k (dvd_iff_mod.mpr z)) (fun k => k (dvd_iff_mod.mpr y))
      rw [decide_eq_false hb']
      exact qb
    walk_at "rd"
    refine ⟨p, a, b, rfl, hp, exA, fun x y t H1 hF e1 ht => ?_⟩
    obtain ⟨⟨x1, x2⟩, y1, y2⟩ := hF.bd h9
    have x1' : 0 ≤ x := x1
    have x2' : x ≤ 200 := x2
    have y1' : 0 ≤ y := y1
    have y2' : y ≤ 200 := y2
    refine KR.gtup2 (.inl (.inl ht)) rfl ?_
    walk_at "rd"
    have eq : a * x * x + b * y * y = qf a b (x, y) := by
      show _ = a * (x * x) + b * (y * y)
      rw [Int.mul_assoc, Int.mul_assoc]
    rw [eq]
    have hb2 : (qf a b (x, y)).natAbs < 2 ^ 200 := by
      show (a * (x * x) + b * (y * y)).natAbs < _
      have m1 := mul_bd ha (mul_bd (a := x) (x := x) (A := 200) (X := 200) (by omega) (by omega))
      have m2 := mul_bd hb (mul_bd (a := y) (x := y) (A := 200) (X := 200) (by omega) (by omega))
      omega
    refine ⟨p, M, _, rfl, hp, hF.sq, hM, hM2, hb2, fun R hR => ?_⟩
    walk_at "rd"
    have hRb : R.natAbs < 2 ^ 2000 := pw_lt (by omega) hR.lo hR.hi (by omega)
    exact ⟨by show (3 : Nat) ≤ sizeLine; decide, fun r hr => q x y R r _ (.A hn hF hR) (by omega) (by omega) hRb (e1.trans (Evl.Ex.new hr)) upd_same⟩
  · have da : (p : Int) ∣ a := Decidable.of_not_not fun z => hn (.inl z)
    have db : (p : Int) ∣ b := Decidable.of_not_not fun z => hn (.inr z)
    obtain ⟨va1, ea, ea2⟩ := v_one h2 ha0 da va
    obtain ⟨vb1, eb, eb2⟩ := v_one h2 hb0 db vb
    have nu := (form h2 ha0).2
    have nw := (form h2 hb0).2
    have ub := un_le h2 ha0
    have wb := un_le h2 hb0
    have exB : ∃ xy ∈ prs p, sqU p (qf a (-(a / p * (b / p))) xy) = true := by
      have hs' : sgB p 1 (un p a) 1 (un p b) = false := by
        rw [← hs]
        unfold sg
        rw [va1, vb1]
      have := pair_exB hp nu nw hs'
      rw [← ea] at this
      rw [ea2, eb2]
      exact this
    refine KR.seq (KR.ifF (fun QB qb => ?_) ?_)
    · walk_at "rd"
      refine KR.iteND (fun z => absurd (dvd_iff_mod.mp da) z) (fun z => ?_)
      walk_at "rd"
      rw [decide_eq_true (dvd_iff_mod.mp db)]
      exact qb
    have ub2 : (a / (p : Int)).natAbs ≤ 1000000000000 := by rw [ea2]; omega
    have wb2 : (b / (p : Int)).natAbs ≤ 1000000000000 := by rw [eb2]; omega
    walk_at "rd"
    refine ⟨p, a, _, rfl, hp, exB, fun x y t H1 hF e1 ht => ?_⟩
    obtain ⟨⟨x1, x2⟩, y1, y2⟩ := hF.bd h9
    have x1' : 0 ≤ x := x1
    have x2' : x ≤ 200 := x2
    have y1' : 0 ≤ y := y1
    have y2' : y ≤ 200 := y2
    refine KR.gtup2 (.inl (.inl ht)) rfl ?_
    walk_at "rd"
    have eq : a * x * x - a / (p : Int) * (b / p) * y * y = qf a (-(a / p * (b / p))) (x, y) := by
      show _ = a * (x * x) + -(a / p * (b / p)) * (y * y)
      rw [Int.mul_assoc, Int.mul_assoc (a / (p : Int) * (b / p)), Int.neg_mul]
      omega
    rw [eq]
    have hb2 : (qf a (-(a / p * (b / p))) (x, y)).natAbs < 2 ^ 200 := by
      show (a * (x * x) + -(a / p * (b / p)) * (y * y)).natAbs < _
      have m1 := mul_bd ha (mul_bd (a := x) (x := x) (A := 200) (X := 200) (by omega) (by omega))
      have m2 := mul_bd (a := -(a / (p : Int) * (b / p))) (A := 1000000000000 * 1000000000000) (by rw [Int.natAbs_neg]; exact mul_bd ub2 wb2) (mul_bd (a := y) (x := y) (A := 200) (X := 200) (by omega) (by omega))
      have big3 : (2 : Nat) ^ 200 = 1606938044258990275541962092341162602522202993782792835301376 := by decide
      omega
    refine ⟨p, M, _, rfl, hp, hF.sq, hM, hM2, hb2, fun R hR => ?_⟩
    walk_at "rd"
    have hRb : R.natAbs < 2 ^ 2000 := pw_lt (by omega) hR.lo hR.hi (by omega)
    have m3 := mul_bd ub2 (x := y) (X := 200) (by omega)
    have m4 := mul_bd ha (x := x) (X := 200) (by omega)
    exact ⟨by show (3 : Nat) ≤ sizeLine; decide, fun r hr => q R _ _ r _ (.B da db hF hR) hRb (by omega) (by omega) (e1.trans (Evl.Ex.new hr)) upd_same⟩
end
end K9
namespace K9
open PySem PySem.Spec PyProof.Rows L2 K7
local macro_rules | `(tactic| walk_at "rc") => `(tactic| first
  | assumption
  | (show (0 : Int) < _; omega)
  | (show (0 : Int) < _ ∧ _ < (1073741824 : Int); exact ⟨by omega, by omega⟩)
  | (show (-(2 ^ 64 : Int) < _ ∧ _ < (2 ^ 64 : Int)) ∨ _; exact .inl ⟨by omega, by omega⟩)
  | (show _ ∨ (-(2 ^ 64 : Int) < _ ∧ _ < (2 ^ 64 : Int)); exact .inr ⟨by omega, by omega⟩)
  | (show (0 : Int) ≤ _ ∧ _ ≤ (1000000 : Int) ∧ _ < 2 ^ 64; exact ⟨by decide, by decide, by decide⟩))
local macro_rules | `(tactic| walk_at "rd") => `(tactic| repeat (first
  | with_reducible apply KR.seq
  | with_reducible apply KR.asg
  | with_reducible apply KR.drop
  | with_reducible apply KR.ret
  | with_reducible apply KR.retN
  | with_reducible apply KR.next
  | with_reducible apply KR.ifs
  | with_reducible refine KR.var rfl ?_
  | with_reducible refine L2.iteT ?_
  | with_reducible refine L2.iteF ?_
  | with_reducible refine KR.iteNF ?_
  | with_reducible refine KR.iteNT ?_
  | with_reducible apply KR.con
  | with_reducible apply KR.op
  | with_reducible apply KR.opI0
  | ((with_reducible refine KR.opI ?rc ?_); (case rc => walk_at "rc"))
  | with_reducible apply KR.un
  | with_reducible apply KR.unI
  | with_reducible apply KR.eqI
  | with_reducible apply KR.neI
  | with_reducible apply KR.test
  | with_reducible apply KR.tb'
  | with_reducible apply KR.exbl
  | with_reducible apply KR.and'
  | with_reducible apply KR.or'
  | with_reducible apply KR.not'
  | with_reducible apply KR.chain
  | with_reducible apply KR.call
  | with_reducible apply KR.callS
  | with_reducible apply KR.make
  | with_reducible apply KR.bm
  | with_reducible apply KR.errF
  | with_reducible apply KR.cons
  | with_reducible apply KR.nil
  | with_reducible apply KR.cb
  | with_reducible apply KR.cInt1
  | with_reducible apply KR.cI1
  | with_reducible apply KR.cI2
  | with_reducible apply KR.isi_ii
  | with_reducible apply KR.isi_ib
  | with_reducible apply KR.bits
  | with_reducible apply KR.exint
  | with_reducible apply KR.ifx
  | with_reducible refine KR.aug rfl ?_
  | with_reducible apply KR.ipI
  | with_reducible apply KR.for'
  | with_reducible apply KR.rng1
  | with_reducible apply KR.rng2
  | with_reducible apply KR.ilist
  | with_reducible apply KR.itup
  | with_reducible apply KR.tup
  | with_reducible apply KR.lst
  | with_reducible apply KR.andV
  | with_reducible apply KR.orV
  | with_reducible apply KR.notV
  | with_reducible apply KR.asgG
  | with_reducible apply KR.sub
  | with_reducible apply KR.fld
  | with_reducible apply KR.prop
  | with_reducible apply KR.meth
  | with_reducible apply KR.par
  | with_reducible apply KR.parN
  | with_reducible apply KR.raise1
  | with_reducible apply KR.raise0
  | with_reducible apply KR.exv
  | with_reducible apply KR.lc
  | with_reducible apply KR.ienT
  | with_reducible apply KR.sfld
  | with_reducible apply KR.sl
  | with_reducible apply KR.part
  | with_reducible apply KR.nopart
  | with_reducible apply KR.isNo
  | with_reducible refine KR.nnT ?_
  | with_reducible refine KR.niF ?_
  | with_reducible refine KR.nrF ?_
  | with_reducible refine KR.mnT ?_
  | with_reducible refine KR.miF ?_
  | with_reducible refine KR.mrF ?_))
theorem giv_filter (f : Nat → Bool) (v : Nat → V) : ∀ n, KR.giv f v 0 n = ((List.range n).filter f).map v
  | 0 => rfl
  | n + 1 => by
    unfold KR.giv
    rw [Nat.zero_add, giv_filter f v n, List.range_succ, List.filter_append, List.map_append]
    congr 1
    cases h : f n with
    | true => rw [List.filter_cons_of_pos h]; rfl
    | false => rw [List.filter_cons_of_neg (by rw [h]; decide)]; rfl
theorem red_form {p : Nat} (hp : 2 ≤ p) {a : Int} (ha : a ≠ 0) (k : Nat) (hk : k ≤ vI p a) : a / (p : Int) ^ k ≠ 0 ∧ vI p (a / (p : Int) ^ k) = vI p a - k ∧ un p (a / (p : Int) ^ k) = un p a ∧ (a / (p : Int) ^ k).natAbs ≤ a.natAbs ∧ (p : Int) ^ k ∣ a := by
  obtain ⟨e, n⟩ := form hp ha
  have hpos : (0 : Int) < (p : Int) ^ k := Int.pow_pos (by omega)
  have e2 : a = (p : Int) ^ k * ((p : Int) ^ (vI p a - k) * un p a) := by
    rw [← Int.mul_assoc, ← Int.pow_add, show k + (vI p a - k) = vI p a by omega]
    exact e
  have e3 : a / (p : Int) ^ k = (p : Int) ^ (vI p a - k) * un p a := by
    rw [congrArg (· / (p : Int) ^ k) e2]
    exact Int.mul_ediv_cancel_left _ (by omega)
  have f := form_uniq hp e3 n
  refine ⟨?_, f.1, f.2, ?_, ⟨_, e2⟩⟩
  · rw [e3]
    refine Int.mul_ne_zero (Int.pow_ne_zero (by omega)) ?_
    intro z
    rw [z] at n
    exact n (Int.dvd_zero _)
  · rw [e3]
    have h1 := congrArg Int.natAbs e2
    rw [Int.natAbs_mul] at h1
    have h2 : 1 ≤ ((p : Int) ^ k).natAbs := by omega
    have := Nat.mul_le_mul_right ((p : Int) ^ (vI p a - k) * un p a).natAbs h2
    omega
theorem vI_below {p : Nat} (hp : 2 ≤ p) {N : Int} {W : Nat} (h0 : N ≠ 0) (h1 : 0 ≤ N) (h2 : N < (p : Int) ^ W) : vI p N < W := by
  refine Decidable.by_contra fun c => ?_
  have h3 := vI_dvd hp h0 (k := W) (by omega)
  have := Int.le_of_dvd (by omega) h3
  omega
section
variable {P : Program} {w : World} {K : PySem.W.Frag} {mg : Str → Option Value} {base : Heap} {A : Ad}
def sp_conic_point (A : Ad) : Sp := fun vs H Q E => ∃ p a b m : Int, vs = [.int p, .int a, .int b, .int m] ∧ (p ∉ primesL → errD A.a_PrimeError E H p) ∧ (p ∈ primesL → (¬ okA a → errD A.a_RangeError E H a) ∧ (okA a → (¬ okA b → errD A.a_RangeError E H b) ∧ (okA b →
  (¬ (1 ≤ m ∧ m ≤ 60) → errD A.a_RangeError E H m) ∧ (1 ≤ m ∧ m ≤ 60 → ((a = 0 ∨ b = 0) → E (.ref A.a_ZeroError) none H) ∧ (a ≠ 0 → b ≠ 0 →
    (sg p.toNat a b = true → ∀ H2, Evl.Ex H H2 → Q .non H2) ∧ (sg p.toNat a b = false → ∀ (o1 o2 o3 : Int) t H2, Out p.toNat a b (vI p.toNat a / 2) (vI p.toNat b / 2) (max (vI p.toNat a / 2) (vI p.toNat b / 2)) m.toNat o1 o2 o3 → Evl.Ex H H2 → H2 t = some (.tup [.int o1, .int o2, .int o3]) → Q (.ref t) H2))))))
theorem ok_conic_point (T : Txt P K mg A) : FnOk P w K mg base (L2N.CX P w) 5 A.a_conic_point A.d_conic_point ["p", "a", "b", "m"] (sp_conic_point A) := by
  refine T.F_conic_point.okN sc_conic_point (fun vs H Q E h => ?_) (fun cdv Ar outer s H vs Q E hr h => ?_)
  · obtain ⟨_, _, _, _, rfl, _⟩ := h; rfl
  have nd := sc_conic_point.nd
  obtain ⟨p, a, b, m, rfl, e1, h⟩ := h
  refine ⟨_, (pss_cons (ps_expr (pe_call (ok_look_numbers T) (hr.mono (by decide)) (by rfl) T.g_look_numbers T.k_look_numbers T.b_look_numbers .nil (L2N.passes_call (L2N.takes_of rfl rfl rfl rfl) (fun _ _ _ _ h => h)) (pa_cons (pv 0) (pa_cons (pv 1) (pa_cons (pv 2) pa_nil)))))
    (pss_cons (ps_expr (pe_call (ok_look_range T) (hr.mono (by decide)) (by rfl) T.g_look_range T.k_look_range T.b_look_range .nil (L2N.passes_call (L2N.takes_of rfl rfl rfl rfl) (fun _ _ _ _ h => h)) (pa_cons (pv 3) (pa_cons pe_int (pa_cons (KR.pe_gI (by rfl) T.c_MOST_DIGITS) pa_nil)))))
    (pss_cons (ps_expr (pe_call (ok_look_zeros T) (hr.mono (by decide)) (by rfl) T.g_look_zeros T.k_look_zeros T.b_look_zeros .nil (L2N.passes_call (L2N.takes_of rfl rfl rfl rfl) (fun _ _ _ _ h => h)) (pa_cons (pv 1) (pa_cons (pv 2) pa_nil))))
    (pss_cons (ps_if (pt_cmpR op_eq (pe_call (ok_symbol_of T) (hr.mono (by decide)) (by rfl) T.g_symbol_of T.k_symbol_of T.b_symbol_of .nil pass0 (pa_cons (pv 0) (pa_cons (pv 1) (pa_cons (pv 2) pa_nil)))) (pe_un un_neg pe_int) (nomark _)) (pss_one (ps_ret pe_non)) pss_nil)
    (pss_cons (ps_set (i := 4) nd rfl (.inl rfl) (pe_op op_fdiv (pe_call (ok_int_depth T) (hr.mono (by decide)) (by rfl) T.g_int_depth T.k_int_depth T.b_int_depth .nil pass0 (pa_cons (pv 0) (pa_cons (pv 1) pa_nil))) pe_int))
    (pss_cons (ps_set (i := 5) nd rfl (.inl rfl) (pe_op op_fdiv (pe_call (ok_int_depth T) (hr.mono (by decide)) (by rfl) T.g_int_depth T.k_int_depth T.b_int_depth .nil pass0 (pa_cons (pv 0) (pa_cons (pv 2) pa_nil))) pe_int))
    (pss_cons (ps_set (i := 6) nd rfl (.inl rfl) (pe_callB (call_max2 rfl) (by rfl) T.n_max (by decide +kernel) (pa_cons (pv 4) (pa_cons (pv 5) pa_nil))))
    (pss_cons (ps_asg (pe_call (ok_first_point T) (hr.mono (by decide)) (by rfl) T.g_first_point T.k_first_point T.b_first_point .nil pass0 (pa_cons (pv 0) (pa_cons (pe_op op_fdivW (pv 1) (pe_call (ok_power T) (hr.mono (by decide)) (by rfl) T.g_power T.k_power T.b_power .nil pass0 (pa_cons (pv 0) (pa_cons (pe_op op_mul pe_int (pv 4)) pa_nil)))) (pa_cons (pe_op op_fdivW (pv 2) (pe_call (ok_power T) (hr.mono (by decide)) (by rfl) T.g_power T.k_power T.b_power .nil pass0 (pa_cons (pv 0) (pa_cons (pe_op op_mul pe_int (pv 5)) pa_nil)))) (pa_cons (pe_op op_add (pv 3) (pv 6)) pa_nil))))) (pg_tup rfl (pgs_cons (pg_name (i := 7) nd rfl (Or.inl rfl)) (pgs_cons (pg_name (i := 8) nd rfl (Or.inl rfl)) (pgs_cons (pg_name (i := 9) nd rfl (Or.inl rfl)) pgs_nil)))))
    (pss_cons (ps_set (i := 10) nd rfl (.inl rfl) (pe_call (ok_power T) (hr.mono (by decide)) (by rfl) T.g_power T.k_power T.b_power .nil pass0 (pa_cons (pv 0) (pa_cons (pe_op op_add (pv 3) (pv 6)) pa_nil))))
    (pss_cons (ps_set (i := 11) nd rfl (.inl rfl) (pe_lst (pa_cons (pe_op op_mod (pe_op op_mulW (pv 7) (pe_call (ok_power T) (hr.mono (by decide)) (by rfl) T.g_power T.k_power T.b_power .nil pass0 (pa_cons (pv 0) (pa_cons (pe_op op_sub (pv 6) (pv 4)) pa_nil)))) (pv 10)) (pa_cons (pe_op op_mod (pe_op op_mulW (pv 8) (pe_call (ok_power T) (hr.mono (by decide)) (by rfl) T.g_power T.k_power T.b_power .nil pass0 (pa_cons (pv 0) (pa_cons (pe_op op_sub (pv 6) (pv 5)) pa_nil)))) (pv 10)) (pa_cons (pe_op op_mod (pe_op op_mulW (pv 9) (pe_call (ok_power T) (hr.mono (by decide)) (by rfl) T.g_power T.k_power T.b_power .nil pass0 (pa_cons (pv 0) (pa_cons (pv 6) pa_nil)))) (pv 10)) pa_nil)))))
    (pss_cons (ps_set (i := 12) nd rfl (.inr rfl) (pe_call (ok_power T) (hr.mono (by decide)) (by rfl) T.g_power T.k_power T.b_power .nil pass0 (pa_cons (pv 0) (pa_cons (pe_callB (cr_min rfl) (by rfl) T.n_min (by decide +kernel) (pa_cons (pe_lc (own := [("number", 14)]) (g := gName 14) rfl nd (pi_list (pv 11)) (blkOk_by (own := [("number", 14)]) (N := ["p", "a", "b", "m", "i", "j", "spare", "x", "y", "z", "wide", "point", "divisor", "modulus", "number"]) (sc := defScope s_conic_point) (by decide +kernel)) (fun _ _ _ _ _ => pg_name (i := 14) nd rfl (Or.inl rfl)) (fun _ _ _ _ _ => (pts_one (pt_cmpR op_ne (pv 14) pe_int (nomark _)))) (fun _ _ _ _ _ => (pe_call (ok_int_depth T) (hr.mono (by decide)) (by rfl) T.g_int_depth T.k_int_depth T.b_int_depth .nil pass0 (pa_cons (pv 0) (pa_cons (pv 14) pa_nil))))) pa_nil)) pa_nil))))
    (pss_cons (ps_set (i := 13) nd rfl (.inr rfl) (pe_call (ok_power T) (hr.mono (by decide)) (by rfl) T.g_power T.k_power T.b_power .nil pass0 (pa_cons (pv 0) (pa_cons (pv 3) pa_nil))))
    (pss_one (ps_ret (pe_callTy call_tuple_of (by rfl) T.n_tuple (by decide +kernel) (pa_cons (pe_lc (own := [("number", 14)]) (g := gName 14) (tt := tYes) rfl nd (pi_list (pv 11)) (blkOk_by (own := [("number", 14)]) (N := ["p", "a", "b", "m", "i", "j", "spare", "x", "y", "z", "wide", "point", "divisor", "modulus", "number"]) (sc := defScope s_conic_point) (by decide +kernel)) (fun _ _ _ _ _ => pg_name (i := 14) nd rfl (Or.inl rfl)) (fun _ _ _ _ _ => pts_nil) (fun _ _ _ _ _ => (pe_op op_mod (pe_op op_fdivW (pv 14) (pv 12)) (pv 13)))) pa_nil)))))))))))))))), ?_⟩
  walk_at "rd"
  refine ⟨p, a, b, rfl, e1, fun hp => ⟨(h hp).1, fun ha => ⟨((h hp).2 ha).1, fun hb => ?_⟩⟩⟩
  obtain ⟨e4, h⟩ := ((h hp).2 ha).2 hb
  walk_at "rd"
  refine ⟨m, _, _, rfl, fun hm => ?_, e4⟩
  obtain ⟨e5, h⟩ := h hm
  walk_at "rd"
  refine ⟨a, b, rfl, e5, fun ha0 hb0 => ?_⟩
  obtain ⟨qn, q⟩ := h ha0 hb0
  obtain ⟨p, rfl, hpN, h2, h9⟩ := pr_of hp
  obtain ⟨m, rfl⟩ := Int.eq_ofNat_of_zero_le (show 0 ≤ m by omega)
  rw [Int.toNat_natCast] at qn q
  rw [Int.toNat_natCast] at q
  obtain ⟨hm1, hm2⟩ := hm
  walk_at "rd"
  refine ⟨p, a, b, rfl, hpN, ha, hb, ha0, hb0, fun H1 x1 => ?_⟩
  walk_at "rd"
  cases hs : sg p a b with
  | true =>
    rw [if_pos rfl]
    refine KR.iteDT (by decide) ?_
    walk_at "rd"
    exact qn hs H1 x1
  | false =>
    rw [if_neg Bool.false_ne_true]
    refine KR.iteDF (by decide) ?_
    walk_at "rd"
    refine ⟨p, a, rfl, h2, h9, ha0, fun H2 x2 => ?_⟩
    walk_at "rd"
    refine ⟨p, b, rfl, h2, h9, hb0, fun H3 x3 => ?_⟩
    have ei : ((vI p a : Nat) : Int) / 2 = ((vI p a / 2 : Nat) : Int) := rfl
    have ej : ((vI p b : Nat) : Int) / 2 = ((vI p b / 2 : Nat) : Int) := rfl
    walk_at "rd"
    rw [ei, ej]
    have q := q hs
    have bv : ∀ c : Int, okA c → c ≠ 0 → vI p c < 40 := fun c hc hc0 => by
      obtain ⟨c1, c2⟩ := hc
      exact vI_lt h2 hc0 (by have : (2 : Nat) ^ 40 = 1099511627776 := by decide
                             omega)
    have va := bv a ha ha0
    have vb := bv b hb hb0
    generalize hi : vI p a / 2 = i at *
    generalize hj : vI p b / 2 = j at *
    have emax : (if (j : Int) > (i : Int) then (j : Int) else (i : Int)) = ((max i j : Nat) : Int) := by
      split <;> omega
    rw [emax]
    generalize hsp : max i j = sp at *
    have his : i ≤ sp := by omega
    have hjs : j ≤ sp := by omega
    have hs20 : sp ≤ 20 := by omega
    obtain ⟨ra1, ra2, ra3, ra4, ra5⟩ := red_form h2 ha0 (2 * i) (by omega)
    obtain ⟨rb1, rb2, rb3, rb4, rb5⟩ := red_form h2 hb0 (2 * j) (by omega)
    have ppos : ∀ k, (0 : Int) < (p : Int) ^ k := fun k => Int.pow_pos (by omega)
    have pdiv : ∀ k, k ≤ 200 → CDivW a ((p : Int) ^ k) ∧ ((p : Int) ^ k).natAbs < 2 ^ 5000 := fun k hk => by
      have e : ((p : Int) ^ k).natAbs = p ^ k := by rw [Int.natAbs_pow, Int.natAbs_natCast]
      have h7 : ((p : Int) ^ k).natAbs < 2 ^ 5000 := by rw [e]; exact pow_lt7 (by omega) (by omega)
      exact ⟨divW (k := 5000) (by decide) (ppos k) h7, h7⟩
    refine ⟨p, 2 * i, rfl, by omega, by omega, by omega, ?_⟩
    refine KR.opI (pdiv (2 * i) (by omega)).1 ?_
    walk_at "rd"
    refine ⟨p, 2 * j, rfl, by omega, by omega, by omega, ?_⟩
    refine KR.opI (C := CDivW) ⟨ppos _, (pdiv (2 * j) (by omega)).1.2⟩ ?_
    walk_at "rd"
    obtain ⟨ha1, ha2⟩ := ha
    obtain ⟨hb1, hb2⟩ := hb
    have hsg : sg p (a / (p : Int) ^ (2 * i)) (b / (p : Int) ^ (2 * j)) = false := by
      rw [← hs]
      unfold sg
      rw [ra2, ra3, rb2, rb3]
      unfold sgB
      have oa : od (vI p a - 2 * i) = od (vI p a) := by unfold od; rw [show (vI p a - 2 * i) % 2 = vI p a % 2 by omega]
      have ob : od (vI p b - 2 * j) = od (vI p b) := by unfold od; rw [show (vI p b - 2 * j) % 2 = vI p b % 2 by omega]
      rw [oa, ob]
    have x03 := (x1.trans x2).trans x3
    refine ⟨p, m + sp, _, _, rfl, hpN, by omega, by omega, ra1, rb1, by omega, by omega, hsg, by omega, by omega, fun x y z t H4 hFP bx by_ bz x4 ht => ?_⟩
    refine KR.gtup3 (.inl (.inl ht)) rfl ?_
    have x04 := x03.trans x4
    have hW : ((m : Int) + (sp : Int)) = ((m + sp : Nat) : Int) := rfl
    walk_at "rd"
    refine ⟨p, m + sp, rfl, by omega, by omega, by omega, ?_⟩
    walk_at "rd"
    have b5 : (2 : Nat) ^ 2000 ≤ 2 ^ 5000 := Nat.pow_le_pow_right (by decide) (by decide)
    have up : ∀ {v : Int}, v.natAbs < 2 ^ 2000 → v.natAbs < 2 ^ 5000 := fun h => Nat.lt_of_lt_of_le h b5
    rw [show (sp : Int) - (i : Int) = ((sp - i : Nat) : Int) by omega]
    refine ⟨p, sp - i, rfl, by omega, by omega, by omega, ?_⟩
    refine KR.opI (mulW (k := 5000) (by decide) (up bx) (pdiv _ (by omega)).2) ?_
    walk_at "rd"
    refine KR.opI (ppos (m + sp)) ?_
    walk_at "rd"
    rw [show (sp : Int) - (j : Int) = ((sp - j : Nat) : Int) by omega]
    refine ⟨p, sp - j, rfl, by omega, by omega, by omega, ?_⟩
    refine KR.opI (mulW (k := 5000) (by decide) (up by_) (pdiv _ (by omega)).2) ?_
    walk_at "rd"
    refine KR.opI (ppos (m + sp)) ?_
    walk_at "rd"
    refine ⟨p, sp, rfl, by omega, by omega, by omega, ?_⟩
    refine KR.opI (mulW (k := 5000) (by decide) (up bz) (pdiv _ (by omega)).2) ?_
    walk_at "rd"
    refine KR.opI (ppos (m + sp)) ?_
    walk_at "rd"
    refine ⟨by show (3 : Nat) ≤ sizeLine; decide, fun L hL => ?_⟩
    have pw := ppos (m + sp)
    have hN : ∀ v : Int, 0 ≤ v % (p : Int) ^ (m + sp) ∧ v % (p : Int) ^ (m + sp) < (p : Int) ^ (m + sp) := fun v => ⟨Int.emod_nonneg _ (by omega), Int.emod_lt_of_pos _ pw⟩
    have hU := hFP.unit hpN (by omega : 1 ≤ m + sp)
    have un1 : ¬ (p : Int) ∣ x → x * (p : Int) ^ (sp - i) % (p : Int) ^ (m + sp) ≠ 0 := fun h => (unit_low hpN h (by omega)).1
    have un3 : ¬ (p : Int) ∣ z → z * (p : Int) ^ sp % (p : Int) ^ (m + sp) ≠ 0 := fun h => (unit_low hpN h (by omega)).1
    have c1 := hN (x * (p : Int) ^ (sp - i))
    have c2 := hN (y * (p : Int) ^ (sp - j))
    have c3 := hN (z * (p : Int) ^ sp)
    generalize hn1 : x * (p : Int) ^ (sp - i) % (p : Int) ^ (m + sp) = N1 at *
    generalize hn2 : y * (p : Int) ^ (sp - j) % (p : Int) ^ (m + sp) = N2 at *
    generalize hn3 : z * (p : Int) ^ sp % (p : Int) ^ (m + sp) = N3 at *
    generalize hG : upd H4 L _ = H5
    have x05 : Evl.Ex H H5 := by rw [← hG]; exact x04.trans (Evl.Ex.new hL)
    have lL : H5 L = some (.lst (([N1, N2, N3] : List Int).map V.int)) := by rw [← hG]; exact upd_same
    have hne : ∃ k, k < 3 ∧ ([N1, N2, N3] : List Int).getD k 0 ≠ 0 := hU.elim (fun h => ⟨0, by decide, un1 h⟩) (fun h => ⟨2, by decide, un3 h⟩)
    have hrg : ∀ k, 0 ≤ ([N1, N2, N3] : List Int).getD k 0 ∧ ([N1, N2, N3] : List Int).getD k 0 < (p : Int) ^ (m + sp) := fun k => by
      match k with
      | 0 => exact c1
      | 1 => exact c2
      | 2 => exact c3
      | k + 3 => exact ⟨Int.le_refl _, pw⟩
    have hg0 : ([N1, N2, N3] : List Int).getD 0 0 = N1 := rfl
    have hg1 : ([N1, N2, N3] : List Int).getD 1 0 = N2 := rfl
    have hg2 : ([N1, N2, N3] : List Int).getD 2 0 = N3 := rfl
    have hlen : ([N1, N2, N3] : List Int).length = 3 := rfl
    generalize hNs : ([N1, N2, N3] : List Int) = Ns at *
    have hat : ∀ (k : Nat) (v : V), (Ns.map V.int)[k]? = some v → v = .int (Ns.getD k 0) := fun k v hv => by
      rw [List.getElem?_map] at hv
      obtain ⟨w, hw, rfl⟩ := Option.map_eq_some_iff.mp hv
      rw [List.getD_eq_getElem?_getD, hw]
      rfl
    have sL : ∀ {H' : Hp}, Evl.Ex H5 H' → SqL K H' L (Ns.map V.int) := fun e => .inl (.inl (e _ _ lL))
    clear hG hL un1 un3
    walk_at "rd"
    refine KR.llistN (sL (Evl.Ex.refl _)) (KR.lwL (fun k => !decide (Ns.getD k 0 = 0)) (fun k => .int (vI p (Ns.getD k 0) : Nat)) (sL (Evl.Ex.refl _)) (by rw [List.length_map, hlen]; decide) (fun _ => rfl) ?_ ?_ ?_)
    · intro k v H6 e6 hv H7 e7 Q' q'
      rw [hat k v hv]
      walk_at "rd"
      exact q' H7 (Evl.Ex.refl _)
    · intro k v H6 e6 hv hf H7 e7 Q' q'
      rw [hat k v hv]
      walk_at "rd"
      exact ⟨p, _, rfl, h2, h9, fun zz => (by rw [decide_eq_true zz] at hf; exact nomatch hf), fun H8 e8 => q' H8 e8⟩
    intro M1 H6 hM1 e6 lM
    rw [giv_filter, List.length_map, hlen] at lM
    walk_at "rd"
    refine ⟨M1, (((List.range 3).filter fun k => !decide (Ns.getD k 0 = 0)).map fun k => ((vI p (Ns.getD k 0) : Nat) : Int)), rfl, .inl (.inl (by rw [lM, List.map_map]; rfl)), ?_, fun mm hmm hall => ?_⟩
    · obtain ⟨k, hk, hk0⟩ := hne
      rw [List.length_map]
      exact List.length_pos_of_mem (List.mem_filter.mpr ⟨List.mem_range.mpr hk, by rw [decide_eq_false hk0]; rfl⟩)
    obtain ⟨k0, hk0, rfl⟩ := List.mem_map.mp hmm
    obtain ⟨hk1, hk2⟩ := List.mem_filter.mp hk0
    have hk3 := List.mem_range.mp hk1
    have hkn : Ns.getD k0 0 ≠ 0 := fun zz => by rw [decide_eq_true zz] at hk2; cases hk2
    have hDW := vI_below h2 hkn (hrg k0).1 (hrg k0).2
    have hDall : ∀ k, k < 3 → Ns.getD k 0 ≠ 0 → vI p (Ns.getD k0 0) ≤ vI p (Ns.getD k 0) := fun k hk hz => by
      have := hall _ (List.mem_map.mpr ⟨k, List.mem_filter.mpr ⟨List.mem_range.mpr hk, by rw [decide_eq_false hz]; rfl⟩, rfl⟩)
      omega
    generalize hD : vI p (Ns.getD k0 0) = D at *
    refine ⟨p, D, rfl, by omega, by omega, by omega, ?_⟩
    walk_at "rd"
    refine ⟨p, m, rfl, by omega, by omega, by omega, ?_⟩
    walk_at "rd"
    refine KR.llistN (sL e6) (KR.lwL (fun _ => true) (fun k => .int (Ns.getD k 0 / (p : Int) ^ D % (p : Int) ^ m)) (sL e6) (by rw [List.length_map, hlen]; decide) (fun _ => rfl) (fun _ _ _ _ _ => KR.etYes) ?_ ?_)
    · intro k v H7 e7 hv _ H8 e8 Q' q'
      rw [hat k v hv]
      walk_at "rd"
      refine KR.opI (C := CDivW) ⟨ppos _, (pdiv D (by omega)).1.2⟩ ?_
      walk_at "rd"
      refine KR.opI (ppos m) ?_
      exact q' H8 (Evl.Ex.refl _)
    intro T1 H7 hT1 e7 lT
    rw [KR.giv_all _ (fun _ => rfl), List.length_map, hlen] at lT
    walk_at "rd"
    refine ⟨T1, _, rfl, .inl ⟨.inl (.inl lT), fun r hr => ?_⟩⟩
    refine q (N1 / (p : Int) ^ D % (p : Int) ^ m) (N2 / (p : Int) ^ D % (p : Int) ^ m) (N3 / (p : Int) ^ D % (p : Int) ^ m) r _ ?_ (((x05.trans e6).trans e7).trans (Evl.Ex.new hr)) ?_
    · refine ⟨x, y, z, N1, N2, N3, D, hFP, hn1.symm, hn2.symm, hn3.symm, ⟨Ns.getD k0 0, ?_, hkn, hD⟩, ?_, rfl, rfl, rfl⟩
      · have : k0 = 0 ∨ k0 = 1 ∨ k0 = 2 := by omega
        rcases this with rfl | rfl | rfl
        · exact .inl hg0
        · exact .inr (.inl hg1)
        · exact .inr (.inr hg2)
      · rintro N (rfl | rfl | rfl) hz
        · have := hDall 0 (by decide) (by rw [hg0]; exact hz)
          rw [hg0] at this
          exact this
        · have := hDall 1 (by decide) (by rw [hg1]; exact hz)
          rw [hg1] at this
          exact this
        · have := hDall 2 (by decide) (by rw [hg2]; exact hz)
          rw [hg2] at this
          exact this
    · rw [upd_same, ← hNs]
      rfl
end
end K9
namespace K9
open PySem PySem.Spec PyProof.Rows L2 K7
local macro_rules | `(tactic| walk_at "rc") => `(tactic| first
  | assumption
  | (show (0 : Int) < _; omega)
  | (show (0 : Int) < _ ∧ _ < (1073741824 : Int); exact ⟨by omega, by omega⟩)
  | (show (-(2 ^ 64 : Int) < _ ∧ _ < (2 ^ 64 : Int)) ∨ _; exact .inl ⟨by omega, by omega⟩)
  | (show _ ∨ (-(2 ^ 64 : Int) < _ ∧ _ < (2 ^ 64 : Int)); exact .inr ⟨by omega, by omega⟩)
  | (show (0 : Int) ≤ _ ∧ _ ≤ (1000000 : Int) ∧ _ < 2 ^ 64; exact ⟨by decide, by decide, by decide⟩))
local macro_rules | `(tactic| walk_at "rd") => `(tactic| repeat (first
  | with_reducible apply KR.seq
  | with_reducible apply KR.asg
  | with_reducible apply KR.drop
  | with_reducible apply KR.ret
  | with_reducible apply KR.retN
  | with_reducible apply KR.next
  | with_reducible apply KR.ifs
  | with_reducible refine KR.var rfl ?_
  | with_reducible refine L2.iteT ?_
  | with_reducible refine L2.iteF ?_
  | with_reducible refine KR.iteNF ?_
  | with_reducible refine KR.iteNT ?_
  | with_reducible apply KR.con
  | with_reducible apply KR.op
  | with_reducible apply KR.opI0
  | ((with_reducible refine KR.opI ?rc ?_); (case rc => walk_at "rc"))
  | with_reducible apply KR.un
  | with_reducible apply KR.unI
  | with_reducible apply KR.eqI
  | with_reducible apply KR.neI
  | with_reducible apply KR.test
  | with_reducible apply KR.tb'
  | with_reducible apply KR.exbl
  | with_reducible apply KR.and'
  | with_reducible apply KR.or'
  | with_reducible apply KR.not'
  | with_reducible apply KR.chain
  | with_reducible apply KR.call
  | with_reducible apply KR.callS
  | with_reducible apply KR.make
  | with_reducible apply KR.bm
  | with_reducible apply KR.errF
  | with_reducible apply KR.cons
  | with_reducible apply KR.nil
  | with_reducible apply KR.cb
  | with_reducible apply KR.cInt1
  | with_reducible apply KR.cI1
  | with_reducible apply KR.cI2
  | with_reducible apply KR.isi_ii
  | with_reducible apply KR.isi_ib
  | with_reducible apply KR.bits
  | with_reducible apply KR.exint
  | with_reducible apply KR.ifx
  | with_reducible refine KR.aug rfl ?_
  | with_reducible apply KR.ipI
  | with_reducible apply KR.for'
  | with_reducible apply KR.rng1
  | with_reducible apply KR.rng2
  | with_reducible apply KR.ilist
  | with_reducible apply KR.itup
  | with_reducible apply KR.tup
  | with_reducible apply KR.lst
  | with_reducible apply KR.andV
  | with_reducible apply KR.orV
  | with_reducible apply KR.notV
  | with_reducible apply KR.asgG
  | with_reducible apply KR.sub
  | with_reducible apply KR.fld
  | with_reducible apply KR.prop
  | with_reducible apply KR.meth
  | with_reducible apply KR.par
  | with_reducible apply KR.parN
  | with_reducible apply KR.raise1
  | with_reducible apply KR.raise0
  | with_reducible apply KR.exv
  | with_reducible apply KR.lc
  | with_reducible apply KR.ienT
  | with_reducible apply KR.sfld
  | with_reducible apply KR.sl
  | with_reducible apply KR.part
  | with_reducible apply KR.nopart
  | with_reducible apply KR.isNo
  | with_reducible refine KR.nnT ?_
  | with_reducible refine KR.niF ?_
  | with_reducible refine KR.nrF ?_
  | with_reducible refine KR.mnT ?_
  | with_reducible refine KR.miF ?_
  | with_reducible refine KR.mrF ?_))
section
variable {P : Program} {w : World} {K : PySem.W.Frag} {mg : Str → Option Value} {base : Heap} {A : Ad}
def sp_law_point_right : Sp := fun vs H Q _ => ∃ (t : Addr) (p m : Nat) (a b o1 o2 o3 : Int), vs = [.ref t, .int p, .int a, .int b, .int m] ∧ H t = some (.tup [.int o1, .int o2, .int o3]) ∧ p ∈ primesN ∧ okL a ∧ okL b ∧ 1 ≤ m ∧ m ≤ 60 ∧
  (0 ≤ o1 ∧ o1 < (p : Int) ^ m) ∧ (0 ≤ o2 ∧ o2 < (p : Int) ^ m) ∧ (0 ≤ o3 ∧ o3 < (p : Int) ^ m) ∧ (p : Int) ^ m ∣ a * (o1 * o1) + b * (o2 * o2) - o3 * o3 ∧ (o1 % p ≠ 0 ∨ o2 % p ≠ 0 ∨ o3 % p ≠ 0) ∧ Q (.bl true) H
theorem ok_law_point_right (T : Txt P K mg A) : FnOk P w K mg base CX0 2 A.a_law_point_right A.d_law_point_right ["point", "p", "a", "b", "m"] sp_law_point_right := by
  refine T.F_law_point_right.ok sc_law_point_right (fun vs H Q E h => ?_) (fun cdv Ar outer s H vs Q E hr h => ?_)
  · obtain ⟨_, _, _, _, _, _, _, _, rfl, _⟩ := h; rfl
  have nd := sc_law_point_right.nd
  obtain ⟨t, p, m, a, b, o1, o2, o3, rfl, ht, hp, ⟨ha1, ha2⟩, ⟨hb1, hb2⟩, hm1, hm2, h1, h2, h3, hd, hu, q⟩ := h
  obtain ⟨_, p2, p9⟩ := of_pr hp
  have sT : SqT K H t (([o1, o2, o3] : List Int).map V.int) := .inl (.inl ht)
  refine ⟨_, (pss_cons (ps_if (PW.pt (pw_or (pt_not (pt_val (pe_callB call_isi (by rfl) T.n_isinstance (by decide +kernel) (pa_cons (pv 0) (pa_cons (pe_bltn (v := .ty "tuple") (by rfl) T.n_tuple (by decide +kernel) rfl) pa_nil))))) (pw_or1 (pt_cmpR op_ne (pe_callB call_len_seq (by rfl) T.n_len PySem.boot_len (pa_cons (pv 0) pa_nil)) pe_int (nomark _))))) (pss_one (ps_ret pe_bl)) pss_nil)
    (pss_cons (ps_set (i := 5) nd rfl (.inl rfl) (pe_call (ok_law_power T) (hr.mono (by decide)) (by rfl) T.g_law_power T.k_law_power T.b_law_power .nil pass0 (pa_cons (pv 1) (pa_cons (pv 4) pa_nil))))
    (pss_cons (ps_set (i := 6) nd rfl (.inl rfl) pe_int)
    (pss_cons (ps_for PassesOwn.never rfl (pi_tup (pv 0)) (pg_name (i := 7) nd rfl (Or.inl rfl)) (pss_cons (ps_if (PW.pt (pw_or (pt_not (pt_val (pe_call (ok_law_is_integer T) (hr.mono (by decide)) (by rfl) T.g_law_is_integer T.k_law_is_integer T.b_law_is_integer .nil pass0 (pa_cons (pv 7) pa_nil)))) (pw_or1 (pt_not (pt_chain op_le op_lt pe_int (pv 7) (pv 5)))))) (pss_one (ps_ret pe_bl)) pss_nil)
    (pss_one (ps_set (i := 6) nd rfl (.inl rfl) (pe_op op_add (pv 6) (pe_callTy call_int1 (by rfl) T.n_int (by decide +kernel) (pa_cons (pe_cmpR op_ne (pe_op op_mod (pe_callTy call_int1 (by rfl) T.n_int (by decide +kernel) (pa_cons (pv 7) pa_nil)) (pv 1)) pe_int (nomark _)) pa_nil)))))))
    (pss_cons (ps_asg (pv 0) (pg_tup rfl (pgs_cons (pg_name (i := 7) nd rfl (Or.inl rfl)) (pgs_cons (pg_name (i := 8) nd rfl (Or.inl rfl)) (pgs_cons (pg_name (i := 9) nd rfl (Or.inl rfl)) pgs_nil)))))
    (pss_cons (ps_if (pt_cmpR op_ne (pe_op op_mod (pe_callTy call_int1 (by rfl) T.n_int (by decide +kernel) (pa_cons (pe_op op_sub (pe_op op_add (pe_op op_mulW (pe_op op_mul (pv 2) (pv 7)) (pv 7)) (pe_op op_mulW (pe_op op_mul (pv 3) (pv 8)) (pv 8))) (pe_op op_mulW (pv 9) (pv 9))) pa_nil)) (pv 5)) pe_int (nomark _)) (pss_one (ps_ret pe_bl)) pss_nil)
    (pss_one (ps_ret (pe_cmpR op_gt (pv 6) pe_int (nomark _)))))))))), ?_⟩
  walk_at "rd"
  refine KR.isi_tt ht ?_
  walk_at "rd"
  refine ⟨t, _, rfl, .inr sT, ?_⟩
  walk_at "rd"
  refine KR.iteND (fun z => absurd rfl z) (fun _ => ?_)
  walk_at "rd"
  refine ⟨p, m, rfl, by omega, by omega, ?_⟩
  walk_at "rd"
  refine KR.itupN sT (KR.fwT (xs := ([o1, o2, o3] : List Int).map V.int) (fun k σ' H' => H' = H ∧ ∃ (c : Int) (z : Option V), 0 ≤ c ∧ (∀ j, j < k → (([o1, o2, o3] : List Int).getD j 0) % (p : Int) ≠ 0 → 0 < c) ∧ σ' = [some (.ref t), some (.int p), some (.int a), some (.int b), some (.int m), some (.int ((p : Int) ^ m)), some (.int c), z, none, none]) ⟨rfl, 0, none, Int.le_refl _, fun j hj => absurd hj (Nat.not_lt_zero _), rfl⟩ ?_ ?_ ?_)
  · rintro k σ' H' _ ⟨rfl, _⟩
    exact sT
  · rintro k v σ' H' hv ⟨rfl, c, z, hc0, hc, rfl⟩
    have hr : 0 ≤ ([o1, o2, o3] : List Int).getD k 0 ∧ ([o1, o2, o3] : List Int).getD k 0 < (p : Int) ^ m := by
      match k with
      | 0 => exact h1
      | 1 => exact h2
      | 2 => exact h3
      | k + 3 => simp at hv
    rw [at_getD hv]
    generalize hx : ([o1, o2, o3] : List Int).getD k 0 = x at hr
    walk_at "rd"
    refine ⟨x, rfl, ?_⟩
    walk_at "rd"
    refine KR.iteDT hr.1 ?_
    walk_at "rd"
    rw [decide_eq_true hr.2]
    walk_at "rd"
    refine .inr ⟨_, rfl, ?_⟩
    walk_at "rd"
    refine ⟨rfl, c + (if (!decide (x % (p : Int) = 0)) = true then 1 else 0), _, by split <;> omega, fun j hj hne => ?_, rfl⟩
    rcases Nat.lt_or_ge j k with cc | cc
    · have := hc j cc hne
      split <;> omega
    · have : j = k := by omega
      rw [this, hx] at hne
      rw [decide_eq_false hne]
      show 0 < c + 1
      omega
  · rintro σ' H' ⟨rfl, c, z, hc0, hc, rfl⟩
    have hpos : 0 < c := by
      have hl : (([o1, o2, o3] : List Int).map V.int).length = 3 := rfl
      rw [hl] at hc
      rcases hu with hh | hh | hh
      · exact hc 0 (by decide) hh
      · exact hc 1 (by decide) hh
      · exact hc 2 (by decide) hh
    have b1 := pw_lt (k := 2000) (by omega) h1.1 h1.2 (by omega)
    have b2 := pw_lt (k := 2000) (by omega) h2.1 h2.2 (by omega)
    have b3 := pw_lt (k := 2000) (by omega) h3.1 h3.2 (by omega)
    have b5 : (2 : Nat) ^ 2000 ≤ 2 ^ 5000 := Nat.pow_le_pow_right (by decide) (by decide)
    have up : ∀ {v : Int}, v.natAbs < 2 ^ 2000 → v.natAbs < 2 ^ 5000 := fun h => Nat.lt_of_lt_of_le h b5
    have ax : ∀ (c v : Int), -1000000000 ≤ c → c ≤ 1000000000 → v.natAbs < 2 ^ 2000 → (c * v).natAbs < 2 ^ 5000 := fun c v hc1 hc2 hv => by
      have m1 := mul_bd (a := c) (x := v) (A := 2 ^ 30) (X := 2 ^ 2000) (by have : (2 : Nat) ^ 30 = 1073741824 := by decide
                                                                            omega) (by omega)
      rw [← Nat.pow_add] at m1
      have m2 : (2 : Nat) ^ (30 + 2000) < 2 ^ 5000 := Nat.pow_lt_pow_right (by decide) (by decide)
      omega
    have pp := pw_pos hp m
    walk_at "rd"
    refine KR.gtup3 (.inl (.inl ht)) rfl ?_
    walk_at "rd"
    refine KR.opI (mulW (k := 5000) (by decide) (ax a o1 ha1 ha2 b1) (up b1)) ?_
    walk_at "rd"
    refine KR.opI (mulW (k := 5000) (by decide) (ax b o2 hb1 hb2 b2) (up b2)) ?_
    walk_at "rd"
    refine KR.opI (mulW (k := 5000) (by decide) (up b3) (up b3)) ?_
    walk_at "rd"
    have e0 : (a * o1 * o1 + b * o2 * o2 - o3 * o3) % (p : Int) ^ m = 0 := by
      rw [Int.mul_assoc, Int.mul_assoc]
      exact Int.emod_eq_zero_of_dvd hd
    refine KR.iteND (fun zz => absurd e0 zz) (fun _ => ?_)
    walk_at "rd"
    rw [decide_eq_true hpos]
    exact q
end
end K9
namespace K9
open PySem PySem.Spec PyProof.Rows L2 K7
local macro_rules | `(tactic| walk_at "rc") => `(tactic| first
  | assumption
  | (show (0 : Int) < _; omega)
  | (show (0 : Int) < _ ∧ _ < (1073741824 : Int); exact ⟨by omega, by omega⟩)
  | (show (-(2 ^ 64 : Int) < _ ∧ _ < (2 ^ 64 : Int)) ∨ _; exact .inl ⟨by omega, by omega⟩)
  | (show _ ∨ (-(2 ^ 64 : Int) < _ ∧ _ < (2 ^ 64 : Int)); exact .inr ⟨by omega, by omega⟩)
  | (show (0 : Int) ≤ _ ∧ _ ≤ (1000000 : Int) ∧ _ < 2 ^ 64; exact ⟨by decide, by decide, by decide⟩))
local macro_rules | `(tactic| walk_at "rd") => `(tactic| repeat (first
  | with_reducible apply KR.seq
  | with_reducible apply KR.asg
  | with_reducible apply KR.drop
  | with_reducible apply KR.ret
  | with_reducible apply KR.retN
  | with_reducible apply KR.next
  | with_reducible apply KR.ifs
  | with_reducible refine KR.var rfl ?_
  | with_reducible refine L2.iteT ?_
  | with_reducible refine L2.iteF ?_
  | with_reducible refine KR.iteNF ?_
  | with_reducible refine KR.iteNT ?_
  | with_reducible apply KR.con
  | with_reducible apply KR.op
  | with_reducible apply KR.opI0
  | ((with_reducible refine KR.opI ?rc ?_); (case rc => walk_at "rc"))
  | with_reducible apply KR.un
  | with_reducible apply KR.unI
  | with_reducible apply KR.eqI
  | with_reducible apply KR.neI
  | with_reducible apply KR.test
  | with_reducible apply KR.tb'
  | with_reducible apply KR.exbl
  | with_reducible apply KR.and'
  | with_reducible apply KR.or'
  | with_reducible apply KR.not'
  | with_reducible apply KR.chain
  | with_reducible apply KR.call
  | with_reducible apply KR.callS
  | with_reducible apply KR.make
  | with_reducible apply KR.bm
  | with_reducible apply KR.errF
  | with_reducible apply KR.cons
  | with_reducible apply KR.nil
  | with_reducible apply KR.cb
  | with_reducible apply KR.cInt1
  | with_reducible apply KR.cI1
  | with_reducible apply KR.cI2
  | with_reducible apply KR.isi_ii
  | with_reducible apply KR.isi_ib
  | with_reducible apply KR.bits
  | with_reducible apply KR.exint
  | with_reducible apply KR.ifx
  | with_reducible refine KR.aug rfl ?_
  | with_reducible apply KR.ipI
  | with_reducible apply KR.for'
  | with_reducible apply KR.rng1
  | with_reducible apply KR.rng2
  | with_reducible apply KR.ilist
  | with_reducible apply KR.itup
  | with_reducible apply KR.tup
  | with_reducible apply KR.lst
  | with_reducible apply KR.andV
  | with_reducible apply KR.orV
  | with_reducible apply KR.notV
  | with_reducible apply KR.asgG
  | with_reducible apply KR.sub
  | with_reducible apply KR.fld
  | with_reducible apply KR.prop
  | with_reducible apply KR.meth
  | with_reducible apply KR.par
  | with_reducible apply KR.parN
  | with_reducible apply KR.raise1
  | with_reducible apply KR.raise0
  | with_reducible apply KR.exv
  | with_reducible apply KR.lc
  | with_reducible apply KR.ienT
  | with_reducible apply KR.sfld
  | with_reducible apply KR.sl
  | with_reducible apply KR.part
  | with_reducible apply KR.nopart
  | with_reducible apply KR.isNo
  | with_reducible refine KR.nnT ?_
  | with_reducible refine KR.niF ?_
  | with_reducible refine KR.nrF ?_
  | with_reducible refine KR.mnT ?_
  | with_reducible refine KR.miF ?_
  | with_reducible refine KR.mrF ?_))
section
variable {P : Program} {w : World} {K : PySem.W.Frag} {mg : Str → Option Value} {base : Heap} {A : Ad}
def sp_law_prime_right : Sp := fun vs H Q _ => ∃ (t : Addr) (p : Nat) (a b : Int), vs = [.ref t, .int p, .int a, .int b] ∧ Pool H t ∧ p ∈ primesN ∧ okL a ∧ okL b ∧ a ≠ 0 ∧ b ≠ 0 ∧ ∀ H2, ExB t H H2 → Pool H2 t → Q (.bl true) H2
theorem ok_law_prime_right (T : Txt P K mg A) : FnOk P w K mg base CX0 6 A.a_law_prime_right A.d_law_prime_right ["pool", "p", "a", "b"] sp_law_prime_right := by
  refine T.F_law_prime_right.ok sc_law_prime_right (fun vs H Q E h => ?_) (fun cdv Ar outer s H vs Q E hr h => ?_)
  · obtain ⟨_, _, _, _, rfl, _⟩ := h; rfl
  have nd := sc_law_prime_right.nd
  obtain ⟨t, p, a, b, rfl, hpool, hp, ha, hb, ha0, hb0, q⟩ := h
  obtain ⟨hpL, p2, p9⟩ := of_pr hp
  have okA' : ∀ c, okL c → okA c := fun c hc => by
    obtain ⟨c1, c2⟩ := hc
    constructor <;> omega
  refine ⟨_, (pss_cons (ps_set (i := 4) nd rfl (.inl rfl) (pe_call (ok_law_symbol T) (hr.mono (by decide)) (by rfl) T.g_law_symbol T.k_law_symbol T.b_law_symbol .nil pass0 (pa_cons (pv 1) (pa_cons (pv 2) (pa_cons (pv 3) pa_nil)))))
    (pss_cons (ps_set (i := 5) nd rfl (.inl rfl) (pe_call (ok_symbol T) (hr.mono (by decide)) (by rfl) T.g_symbol T.k_symbol T.b_symbol .nil passN (pa_cons (pv 1) (pa_cons (pv 2) (pa_cons (pv 3) pa_nil)))))
    (pss_cons (ps_if (PW.pt (pw_or (pt_not (pt_val (pe_call (ok_law_is_integer T) (hr.mono (by decide)) (by rfl) T.g_law_is_integer T.k_law_is_integer T.b_law_is_integer .nil pass0 (pa_cons (pv 5) pa_nil)))) (pw_or1 (pt_cmpR op_ne (pv 5) (pv 4) (nomark _))))) (pss_one (ps_ret pe_bl)) pss_nil)
    (pss_cons (ps_set (i := 6) nd rfl (.inl rfl) (pe_op op_add pe_int (pe_call (ok_law_draw T) (hr.mono (by decide)) (by rfl) T.g_law_draw T.k_law_draw T.b_law_draw .nil pass0 (pa_cons (pv 0) (pa_cons pe_int pa_nil)))))
    (pss_cons (ps_set (i := 7) nd rfl (.inl rfl) (pe_call (ok_conic_point T) (hr.mono (by decide)) (by rfl) T.g_conic_point T.k_conic_point T.b_conic_point .nil passN (pa_cons (pv 1) (pa_cons (pv 2) (pa_cons (pv 3) (pa_cons (pv 6) pa_nil))))))
    (pss_cons (ps_if (pt_cmpR op_eq (pv 4) (pe_un un_neg pe_int) (nomark _)) (pss_one (ps_ret (pe_cmpR op_isN (pv 7) pe_non (nomark _)))) pss_nil)
    (pss_cons (ps_set (i := 8) nd rfl (.inl rfl) (pe_call (ok_conic_point T) (hr.mono (by decide)) (by rfl) T.g_conic_point T.k_conic_point T.b_conic_point .nil passN (pa_cons (pv 1) (pa_cons (pv 2) (pa_cons (pv 3) (pa_cons pe_int pa_nil))))))
    (pss_cons (ps_if (pt_not (pt_val (pe_call (ok_law_point_right T) (hr.mono (by decide)) (by rfl) T.g_law_point_right T.k_law_point_right T.b_law_point_right .nil pass0 (pa_cons (pv 7) (pa_cons (pv 1) (pa_cons (pv 2) (pa_cons (pv 3) (pa_cons (pv 6) pa_nil)))))))) (pss_one (ps_ret pe_bl)) pss_nil)
    (pss_cons (ps_if (pt_not (pt_val (pe_call (ok_law_point_right T) (hr.mono (by decide)) (by rfl) T.g_law_point_right T.k_law_point_right T.b_law_point_right .nil pass0 (pa_cons (pv 8) (pa_cons (pv 1) (pa_cons (pv 2) (pa_cons (pv 3) (pa_cons pe_int pa_nil)))))))) (pss_one (ps_ret pe_bl)) pss_nil)
    (pss_cons (ps_set (i := 9) nd rfl (.inr rfl) (pe_call (ok_law_power T) (hr.mono (by decide)) (by rfl) T.g_law_power T.k_law_power T.b_law_power .nil pass0 (pa_cons (pv 1) (pa_cons (pv 6) pa_nil))))
    (pss_one (ps_ret (pe_cmpR (op_eqD hr.units) (pe_lc (own := [("x", 10)]) (g := gName 10) (tt := tYes) rfl nd (pi_tup (pv 8)) (blkOk_by (own := [("x", 10)]) (N := ["pool", "p", "a", "b", "due", "told", "m", "point", "far", "modulus", "x"]) (sc := defScope s_law_prime_right) (by decide +kernel)) (fun _ _ _ _ _ => pg_name (i := 10) nd rfl (Or.inl rfl)) (fun _ _ _ _ _ => pts_nil) (fun _ _ _ _ _ => (pe_op op_mod (pe_callTy call_int1 (by rfl) T.n_int (by decide +kernel) (pa_cons (pv 10) pa_nil)) (pv 9)))) (pe_callTy call_list_of (by rfl) T.n_list (by decide +kernel) (pa_cons (pv 7) pa_nil)) (nomark _)))))))))))))), ?_⟩
  walk_at "rd"
  refine ⟨p, a, b, rfl, hp, ha, hb, ha0, hb0, fun H1 x1 => ?_⟩
  walk_at "rd"
  refine ⟨p, a, b, rfl, fun z => absurd hpL z, fun _ => ⟨fun z => absurd (okA' a ha) z, fun _ => ⟨fun z => absurd (okA' b hb) z, fun _ => ⟨fun z => absurd z (fun z => z.elim ha0 hb0), fun _ _ H2 x2 => ?_⟩⟩⟩⟩
  rw [Int.toNat_natCast]
  walk_at "rd"
  refine ⟨_, rfl, ?_⟩
  walk_at "rd"
  refine KR.iteND (fun z => absurd rfl z) (fun _ => ?_)
  have x12 := x1.trans x2
  walk_at "rd"
  refine ⟨t, 60, rfl, hpool.ex x12, by decide, by decide, fun v H3 hv0 hv1 x3 p3 => ?_⟩
  obtain ⟨v, rfl⟩ := Int.eq_ofNat_of_zero_le hv0
  have x13 := (ExB.of x12).trans x3
  walk_at "rd"
  rw [show (1 : Int) + (v : Int) = ((1 + v : Nat) : Int) by omega]
  have hm1 : 1 ≤ 1 + v := by omega
  have hm2 : 1 + v ≤ 60 := by omega
  generalize 1 + v = m at hm1 hm2
  refine ⟨p, a, b, m, rfl, fun z => absurd hpL z, fun _ => ⟨fun z => absurd (okA' a ha) z, fun _ => ⟨fun z => absurd (okA' b hb) z, fun _ => ⟨fun z => absurd ⟨by omega, by omega⟩ z, fun _ => ⟨fun z => absurd z (fun z => z.elim ha0 hb0), fun _ _ => ⟨fun hs H4 x4 => ?_, fun hs o1 o2 o3 t1 H4 hO x4 ht1 => ?_⟩⟩⟩⟩⟩⟩
  · rw [Int.toNat_natCast] at hs
    rw [hs, if_pos rfl]
    walk_at "rd"
    refine KR.iteDT (by decide) ?_
    walk_at "rd"
    exact q H4 (x13.trans (ExB.of x4)) (p3.ex x4)
  · rw [Int.toNat_natCast] at hs hO
    rw [Int.toNat_natCast] at hO
    rw [hs, if_neg Bool.false_ne_true]
    walk_at "rd"
    refine KR.iteDF (by decide) ?_
    walk_at "rd"
    refine ⟨p, a, b, 60, rfl, fun z => absurd hpL z, fun _ => ⟨fun z => absurd (okA' a ha) z, fun _ => ⟨fun z => absurd (okA' b hb) z, fun _ => ⟨fun z => absurd ⟨by decide, by decide⟩ z, fun _ => ⟨fun z => absurd z (fun z => z.elim ha0 hb0), fun _ _ => ⟨fun hs' => (by rw [Int.toNat_natCast, hs] at hs'; exact nomatch hs'), fun _ q1 q2 q3 t2 H5 hO2 x5 ht2 => ?_⟩⟩⟩⟩⟩⟩
    rw [Int.toNat_natCast] at hO2
    have hO2' : Out p a b (vI p a / 2) (vI p b / 2) (max (vI p a / 2) (vI p b / 2)) 60 q1 q2 q3 := hO2
    have da := (red_form p2 ha0 (2 * (vI p a / 2)) (by omega)).2.2.2.2
    have db := (red_form p2 hb0 (2 * (vI p b / 2)) (by omega)).2.2.2.2
    obtain ⟨r1, r2, r3, r4, r5⟩ := hO.right hp (by omega) (by omega) hm1 da db
    obtain ⟨s1, s2, s3, s4, s5⟩ := hO2'.right hp (by omega) (by omega) (by decide) da db
    obtain ⟨f1, f2, f3⟩ := hO.far hp (by omega) hm1 hm2 hO2'
    have ht1' := x5 _ _ ht1
    walk_at "rd"
    refine ⟨t1, p, m, a, b, o1, o2, o3, rfl, ht1', hp, ha, hb, hm1, hm2, r1, r2, r3, r4, r5, ?_⟩
    walk_at "rd"
    refine ⟨t2, p, 60, a, b, q1, q2, q3, rfl, ht2, hp, ha, hb, by decide, by decide, s1, s2, s3, s4, s5, ?_⟩
    walk_at "rd"
    refine ⟨p, m, rfl, by omega, by omega, ?_⟩
    walk_at "rd"
    have pp := pw_pos hp m
    have sT : SqT K H5 t2 (([q1, q2, q3] : List Int).map V.int) := .inl (.inl ht2)
    refine KR.ltupN sT (KR.lwT (fun _ => true) (fun k => .int (([q1, q2, q3] : List Int).getD k 0 % (p : Int) ^ m)) sT (by show (3 : Nat) < 50000; decide) (fun _ => rfl) (fun _ _ _ _ _ => KR.etYes) ?_ ?_)
    · intro k v H6 e6 hv _ H7 e7 Q' q'
      rw [at_getD hv]
      walk_at "rd"
      exact q' H7 (Evl.Ex.refl _)
    intro L H6 hL e6 hv
    rw [KR.giv_all _ (fun _ => rfl)] at hv
    have hv' : H6 L = some (.lst (([o1, o2, o3] : List Int).map V.int)) := by
      rw [hv]
      show some (HO.lst [V.int (q1 % (p : Int) ^ m), V.int (q2 % (p : Int) ^ m), V.int (q3 % (p : Int) ^ m)]) = _
      rw [f1, f2, f3]
      rfl
    walk_at "rd"
    refine ⟨t1, _, rfl, .inr (.inl (.inl (e6 _ _ ht1'))), fun l hl => ?_⟩
    have x6 := (ExB.of (a := t) x4).trans ((ExB.of x5).trans ((ExB.of e6).trans (ExB.of (Evl.Ex.new (o := .lst (([o1, o2, o3] : List Int).map V.int)) hl))))
    have p6 := (((p3.ex x4).ex x5).ex e6).ex (Evl.Ex.new (o := .lst (([o1, o2, o3] : List Int).map V.int)) hl)
    refine ⟨_, _, .lst (.inl (.inl (Evl.Ex.new hl _ _ hv'))) (dp_ints _), .lst (.inl (.inl upd_same)) (dp_ints [o1, o2, o3]), shaped_ints _, shaped_ints _, ?_⟩
    rw [eqv_lists]
    exact q _ (x13.trans x6) p6
end
end K9
namespace K9
open PySem PySem.Spec PyProof.Rows L2 K7
local macro_rules | `(tactic| walk_at "rc") => `(tactic| first
  | assumption
  | (show (0 : Int) < _; omega)
  | (show (0 : Int) < _ ∧ _ < (1073741824 : Int); exact ⟨by omega, by omega⟩)
  | (show (-(2 ^ 64 : Int) < _ ∧ _ < (2 ^ 64 : Int)) ∨ _; exact .inl ⟨by omega, by omega⟩)
  | (show _ ∨ (-(2 ^ 64 : Int) < _ ∧ _ < (2 ^ 64 : Int)); exact .inr ⟨by omega, by omega⟩)
  | (show (0 : Int) ≤ _ ∧ _ ≤ (1000000 : Int) ∧ _ < 2 ^ 64; exact ⟨by decide, by decide, by decide⟩))
local macro_rules | `(tactic| walk_at "rd") => `(tactic| repeat (first
  | with_reducible apply KR.seq
  | with_reducible apply KR.asg
  | with_reducible apply KR.drop
  | with_reducible apply KR.ret
  | with_reducible apply KR.retN
  | with_reducible apply KR.next
  | with_reducible apply KR.ifs
  | with_reducible refine KR.var rfl ?_
  | with_reducible refine L2.iteT ?_
  | with_reducible refine L2.iteF ?_
  | with_reducible refine KR.iteNF ?_
  | with_reducible refine KR.iteNT ?_
  | with_reducible apply KR.con
  | with_reducible apply KR.op
  | with_reducible apply KR.opI0
  | ((with_reducible refine KR.opI ?rc ?_); (case rc => walk_at "rc"))
  | with_reducible apply KR.un
  | with_reducible apply KR.unI
  | with_reducible apply KR.eqI
  | with_reducible apply KR.neI
  | with_reducible apply KR.test
  | with_reducible apply KR.tb'
  | with_reducible apply KR.exbl
  | with_reducible apply KR.and'
  | with_reducible apply KR.or'
  | with_reducible apply KR.not'
  | with_reducible apply KR.chain
  | with_reducible apply KR.call
  | with_reducible apply KR.callS
  | with_reducible apply KR.make
  | with_reducible apply KR.bm
  | with_reducible apply KR.errF
  | with_reducible apply KR.cons
  | with_reducible apply KR.nil
  | with_reducible apply KR.cb
  | with_reducible apply KR.cInt1
  | with_reducible apply KR.cI1
  | with_reducible apply KR.cI2
  | with_reducible apply KR.isi_ii
  | with_reducible apply KR.isi_ib
  | with_reducible apply KR.bits
  | with_reducible apply KR.exint
  | with_reducible apply KR.ifx
  | with_reducible refine KR.aug rfl ?_
  | with_reducible apply KR.ipI
  | with_reducible apply KR.for'
  | with_reducible apply KR.rng1
  | with_reducible apply KR.rng2
  | with_reducible apply KR.ilist
  | with_reducible apply KR.itup
  | with_reducible apply KR.tup
  | with_reducible apply KR.lst
  | with_reducible apply KR.andV
  | with_reducible apply KR.orV
  | with_reducible apply KR.notV
  | with_reducible apply KR.asgG
  | with_reducible apply KR.sub
  | with_reducible apply KR.fld
  | with_reducible apply KR.prop
  | with_reducible apply KR.meth
  | with_reducible apply KR.par
  | with_reducible apply KR.parN
  | with_reducible apply KR.raise1
  | with_reducible apply KR.raise0
  | with_reducible apply KR.exv
  | with_reducible apply KR.lc
  | with_reducible apply KR.ienT
  | with_reducible apply KR.sfld
  | with_reducible apply KR.sl
  | with_reducible apply KR.part
  | with_reducible apply KR.nopart
  | with_reducible apply KR.isNo
  | with_reducible refine KR.nnT ?_
  | with_reducible refine KR.niF ?_
  | with_reducible refine KR.nrF ?_
  | with_reducible refine KR.mnT ?_
  | with_reducible refine KR.miF ?_
  | with_reducible refine KR.mrF ?_))
section
variable {P : Program} {w : World} {K : PySem.W.Frag} {mg : Str → Option Value} {base : Heap} {A : Ad}
structure EF (K : PySem.W.Frag) (A : Ad) (C : Addr) (r p z : Bool) : Prop where
  ei : L2.ErrI K C
  ex : PySem.W.exmOne K (.ref C) (.ref A.a_PrimedeepError) = some true
  kv : PySem.W.kitOne K (.ref C) (.type "ValueError") = some true
  k1 : PySem.W.kitOne K (.ref C) (.ref A.a_SizeError) = some false
  k2 : PySem.W.kitOne K (.ref C) (.ref A.a_RangeError) = some r
  k3 : PySem.W.kitOne K (.ref C) (.ref A.a_PrimeError) = some p
  k4 : PySem.W.kitOne K (.ref C) (.ref A.a_DepthError) = some false
  k5 : PySem.W.kitOne K (.ref C) (.ref A.a_ZeroError) = some z
  k6 : PySem.W.kitOne K (.ref C) (.ref A.a_MixError) = some false
  k7 : PySem.W.kitOne K (.ref C) (.ref A.a_MonicError) = some false
  k8 : PySem.W.kitOne K (.ref C) (.ref A.a_RepeatError) = some false
  k9 : PySem.W.kitOne K (.ref C) (.ref A.a_FieldError) = some false
  k10 : PySem.W.kitOne K (.ref C) (.ref A.a_BarError) = some false
  k11 : PySem.W.kitOne K (.ref C) (.ref A.a_EditError) = some false
  k12 : PySem.W.kitOne K (.ref C) (.ref A.a_TextError) = some false
  k13 : PySem.W.kitOne K (.ref C) (.ref A.a_HistoryError) = some false
theorem isE {C a : Addr} {r p z : Bool} {d : Option Addr} {H : Hp} {Q : VK} (F : EF K A C r p z) {c : V} {u : Value} {b : Bool} (hc : ClsV c u) (hk : PySem.W.kitOne K (.ref C) u = some b) (hd : ∀ dd, d = some dd → ∃ fs, H dd = some (.xd fs)) (q : Q (.bl b) H) :
    rIsErrE K a (.ref C) d [.ref a, c] H Q := ⟨C, c, u, b, rfl, rfl, F.ei, hc, hk, hd, q⟩
def sp_law_refusal (K : PySem.W.Frag) (A : Ad) (a : Addr) (cls : Value) (d : Option Addr) : Sp := fun vs H Q _ => vs = [.ref a] ∧
  ∃ (C : Addr) (r p z : Bool) (tag : Str) (v : Int), cls = .ref C ∧ EF K A C r p z ∧
    ((tag = "range" ∧ C = A.a_RangeError ∧ r = true ∧ p = false ∧ z = false ∧ ∃ dd, d = some dd ∧ H dd = some (.xd [(("number" : Str), .int v)])) ∨
     (tag = "prime" ∧ C = A.a_PrimeError ∧ r = false ∧ p = true ∧ z = false ∧ ∃ dd, d = some dd ∧ H dd = some (.xd [(("number" : Str), .int v)])) ∨
     (tag = "zero" ∧ v = 0 ∧ C = A.a_ZeroError ∧ r = false ∧ p = false ∧ z = true ∧ d = none)) ∧
    ∀ t H2, Evl.Ex H H2 → H2 t = some (.tup [.str tag, .int v]) → Q (.ref t) H2
theorem ok_law_refusalP (T : Txt P K mg A) {a : Addr} {oe : Obj} {cls : Value} {d : Option Addr} (hz : L2N.Zn cls d oe) (hf : ∃ vs, oe.data = .fields vs) : FnHp P w K mg base CX0 2 A.a_law_refusal A.d_law_refusal ["x"] (sp_law_refusal K A a cls d) (a, oe) := by
  refine T.F_law_refusal.okP sc_law_refusal (fun vs H Q E h => ?_) (fun cdv Ar outer s H vs Q E hot hr h => ?_)
  · obtain ⟨rfl, _⟩ := h; rfl
  have nd := sc_law_refusal.nd
  obtain ⟨rfl, C, r, p, z, tag, v, rfl, F, hC, q⟩ := h
  refine ⟨_, (pss_cons (ps_set (i := 1) nd rfl (.inl rfl) (by exact (pe_lst (pa_cons (pe_callB (call_isErrP (K := K) rfl List.mem_cons_self hz hf) (by rfl) T.n_isinstance (by decide +kernel) (pa_cons (pv 0) (pa_cons (pe_glob (v := .ref A.a_SizeError) (by rfl) T.g_SizeError rfl) pa_nil))) (pa_cons (pe_callB (call_isErrP (K := K) rfl List.mem_cons_self hz hf) (by rfl) T.n_isinstance (by decide +kernel) (pa_cons (pv 0) (pa_cons (pe_glob (v := .ref A.a_RangeError) (by rfl) T.g_RangeError rfl) pa_nil))) (pa_cons (pe_callB (call_isErrP (K := K) rfl List.mem_cons_self hz hf) (by rfl) T.n_isinstance (by decide +kernel) (pa_cons (pv 0) (pa_cons (pe_glob (v := .ref A.a_PrimeError) (by rfl) T.g_PrimeError rfl) pa_nil))) pa_nil))))))
    (pss_cons (ps_set (i := 1) nd rfl (.inl rfl) (by exact (pe_op op_cat (pv 1) (pe_lst (pa_cons (pe_callB (call_isErrP (K := K) rfl List.mem_cons_self hz hf) (by rfl) T.n_isinstance (by decide +kernel) (pa_cons (pv 0) (pa_cons (pe_glob (v := .ref A.a_DepthError) (by rfl) T.g_DepthError rfl) pa_nil))) (pa_cons (pe_callB (call_isErrP (K := K) rfl List.mem_cons_self hz hf) (by rfl) T.n_isinstance (by decide +kernel) (pa_cons (pv 0) (pa_cons (pe_glob (v := .ref A.a_ZeroError) (by rfl) T.g_ZeroError rfl) pa_nil))) pa_nil))))))
    (pss_cons (ps_set (i := 1) nd rfl (.inl rfl) (by exact (pe_op op_cat (pv 1) (pe_lst (pa_cons (pe_callB (call_isErrP (K := K) rfl List.mem_cons_self hz hf) (by rfl) T.n_isinstance (by decide +kernel) (pa_cons (pv 0) (pa_cons (pe_glob (v := .ref A.a_MixError) (by rfl) T.g_MixError rfl) pa_nil))) (pa_cons (pe_callB (call_isErrP (K := K) rfl List.mem_cons_self hz hf) (by rfl) T.n_isinstance (by decide +kernel) (pa_cons (pv 0) (pa_cons (pe_glob (v := .ref A.a_MonicError) (by rfl) T.g_MonicError rfl) pa_nil))) pa_nil))))))
    (pss_cons (ps_set (i := 1) nd rfl (.inl rfl) (by exact (pe_op op_cat (pv 1) (pe_lst (pa_cons (pe_callB (call_isErrP (K := K) rfl List.mem_cons_self hz hf) (by rfl) T.n_isinstance (by decide +kernel) (pa_cons (pv 0) (pa_cons (pe_glob (v := .ref A.a_RepeatError) (by rfl) T.g_RepeatError rfl) pa_nil))) (pa_cons (pe_callB (call_isErrP (K := K) rfl List.mem_cons_self hz hf) (by rfl) T.n_isinstance (by decide +kernel) (pa_cons (pv 0) (pa_cons (pe_glob (v := .ref A.a_FieldError) (by rfl) T.g_FieldError rfl) pa_nil))) pa_nil))))))
    (pss_cons (ps_set (i := 1) nd rfl (.inl rfl) (by exact (pe_op op_cat (pv 1) (pe_lst (pa_cons (pe_callB (call_isErrP (K := K) rfl List.mem_cons_self hz hf) (by rfl) T.n_isinstance (by decide +kernel) (pa_cons (pv 0) (pa_cons (pe_glob (v := .ref A.a_BarError) (by rfl) T.g_BarError rfl) pa_nil))) (pa_cons (pe_callB (call_isErrP (K := K) rfl List.mem_cons_self hz hf) (by rfl) T.n_isinstance (by decide +kernel) (pa_cons (pv 0) (pa_cons (pe_glob (v := .ref A.a_EditError) (by rfl) T.g_EditError rfl) pa_nil))) pa_nil))))))
    (pss_cons (ps_set (i := 1) nd rfl (.inl rfl) (by exact (pe_op op_cat (pv 1) (pe_lst (pa_cons (pe_callB (call_isErrP (K := K) rfl List.mem_cons_self hz hf) (by rfl) T.n_isinstance (by decide +kernel) (pa_cons (pv 0) (pa_cons (pe_glob (v := .ref A.a_TextError) (by rfl) T.g_TextError rfl) pa_nil))) (pa_cons (pe_callB (call_isErrP (K := K) rfl List.mem_cons_self hz hf) (by rfl) T.n_isinstance (by decide +kernel) (pa_cons (pv 0) (pa_cons (pe_glob (v := .ref A.a_HistoryError) (by rfl) T.g_HistoryError rfl) pa_nil))) pa_nil))))))
    (pss_cons (ps_if (by exact (PW.pt (pw_or (pt_cmpR op_ne (KR.pe_bmK (K := K) rfl PySem.F.plainAttrs_list PySem.F.slot_list_count PySem.F.type_list_count (KR.mt_bcountK (K := K) rfl) (pv 1) (pa_cons pe_bl pa_nil)) pe_int (nomark _)) (pw_or1 (pt_not (pt_val (pe_callB (call_isErrP (K := K) rfl List.mem_cons_self hz hf) (by rfl) T.n_isinstance (by decide +kernel) (pa_cons (pv 0) (pa_cons (pe_bltn (v := .ty "ValueError") (by rfl) T.n_ValueError (by decide +kernel) rfl) pa_nil))))))))) (pss_one ps_never) pss_nil)
    (pss_cons (ps_if (by exact (PW.pt (pw_and (pt_val (pe_ix (KR.ix_listK (K := K) rfl) (pv 1) pe_int (fun _ _ => rfl))) (pw_and1 (pt_val (L2H.pe_callH (ok_law_is_integerH T) (hr.mono (by decide)) ⟨_, hot, List.mem_cons_self⟩ (by rfl) T.g_law_is_integer T.k_law_is_integer T.b_law_is_integer (fun _ => pass0At) (pa_cons (pe_errFX List.mem_cons_self T.e_RangeError.toErrC T.e_RangeError.noN hz.zc hf (pv 0)) pa_nil))))))) (pss_one (ps_ret (by exact (pe_tup (pa_cons pe_str (pa_cons (pe_errFX List.mem_cons_self T.e_RangeError.toErrC T.e_RangeError.noN hz.zc hf (pv 0)) pa_nil)))))) pss_nil)
    (pss_cons (ps_if (by exact (PW.pt (pw_and (pt_val (pe_ix (KR.ix_listK (K := K) rfl) (pv 1) pe_int (fun _ _ => rfl))) (pw_and1 (pt_val (L2H.pe_callH (ok_law_is_integerH T) (hr.mono (by decide)) ⟨_, hot, List.mem_cons_self⟩ (by rfl) T.g_law_is_integer T.k_law_is_integer T.b_law_is_integer (fun _ => pass0At) (pa_cons (pe_errFX List.mem_cons_self T.e_PrimeError.toErrC T.e_PrimeError.noN hz.zc hf (pv 0)) pa_nil))))))) (pss_one (ps_ret (by exact (pe_tup (pa_cons pe_str (pa_cons (pe_errFX List.mem_cons_self T.e_PrimeError.toErrC T.e_PrimeError.noN hz.zc hf (pv 0)) pa_nil)))))) pss_nil)
    (pss_cons (ps_if (by exact (pt_val (pe_ix (KR.ix_listK (K := K) rfl) (pv 1) pe_int (fun _ _ => rfl)))) (pss_one (ps_ret (by exact (pe_tup (pa_cons pe_str (pa_cons pe_int pa_nil)))))) pss_nil)
    (pss_one ps_never))))))))))), ?_⟩
  have dx : ∀ {H' : Hp}, Evl.Ex H H' → ∀ dd, d = some dd → ∃ fs, H' dd = some (.xd fs) := fun e dd hd => by
    rcases hC with ⟨_, _, _, _, _, d1, hd1, hd2⟩ | ⟨_, _, _, _, _, d1, hd1, hd2⟩ | ⟨_, _, _, _, _, _, hd1⟩
    · rw [hd1] at hd; cases hd; exact ⟨_, e _ _ hd2⟩
    · rw [hd1] at hd; cases hd; exact ⟨_, e _ _ hd2⟩
    · rw [hd1] at hd; cases hd
  have xr0 := Evl.Ex.refl H
  have hdd := dx xr0
  walk_at "rd"
  refine isE F (.own _) F.k1 hdd ?_
  walk_at "rd"
  refine isE F (.own _) F.k2 hdd ?_
  walk_at "rd"
  refine isE F (.own _) F.k3 hdd ?_
  walk_at "rd"
  refine ⟨by show (3 : Nat) ≤ sizeLine; decide, fun b1 hb1 => ?_⟩
  generalize q1 : upd H b1 _ = H2
  have e1 : Evl.Ex H H2 := by rw [← q1]; exact Evl.Ex.new hb1
  have l1 : H2 b1 = some (.lst ([false, r, p].map V.bl)) := by rw [← q1]; exact upd_same
  clear q1
  replace hdd := dx e1
  have y1 := e1
  walk_at "rd"
  refine isE F (.own _) F.k4 hdd ?_
  walk_at "rd"
  refine isE F (.own _) F.k5 hdd ?_
  walk_at "rd"
  refine ⟨by show (2 : Nat) ≤ sizeLine; decide, fun c2 hc2 => ?_⟩
  generalize p2 : upd H2 c2 _ = G2
  have f2 : Evl.Ex H2 G2 := by rw [← p2]; exact Evl.Ex.new hc2
  have m2 : G2 c2 = some (.lst ([false, z].map V.bl)) := by rw [← p2]; exact upd_same
  clear p2
  refine ⟨b1, c2, _, _, rfl, rfl, f2 _ _ l1, m2, by show (5 : Nat) ≤ sizeLine; decide, fun b2 hb2 => ?_⟩
  generalize q2 : upd G2 b2 _ = H3
  have e2 : Evl.Ex G2 H3 := by rw [← q2]; exact Evl.Ex.new hb2
  have l2 : H3 b2 = some (.lst ([false, r, p, false, z].map V.bl)) := by rw [← q2]; exact upd_same
  clear q2
  have y2 := y1.trans (f2.trans e2)
  replace hdd := dx y2
  walk_at "rd"
  refine isE F (.own _) F.k6 hdd ?_
  walk_at "rd"
  refine isE F (.own _) F.k7 hdd ?_
  walk_at "rd"
  refine ⟨by show (2 : Nat) ≤ sizeLine; decide, fun c3 hc3 => ?_⟩
  generalize p3 : upd H3 c3 _ = G3
  have f3 : Evl.Ex H3 G3 := by rw [← p3]; exact Evl.Ex.new hc3
  have m3 : G3 c3 = some (.lst ([false, false].map V.bl)) := by rw [← p3]; exact upd_same
  clear p3
  refine ⟨b2, c3, _, _, rfl, rfl, f3 _ _ l2, m3, by show (7 : Nat) ≤ sizeLine; decide, fun b3 hb3 => ?_⟩
  generalize q3 : upd G3 b3 _ = H4
  have e3 : Evl.Ex G3 H4 := by rw [← q3]; exact Evl.Ex.new hb3
  have l3 : H4 b3 = some (.lst ([false, r, p, false, z, false, false].map V.bl)) := by rw [← q3]; exact upd_same
  clear q3
  have y3 := y2.trans (f3.trans e3)
  replace hdd := dx y3
  walk_at "rd"
  refine isE F (.own _) F.k8 hdd ?_
  walk_at "rd"
  refine isE F (.own _) F.k9 hdd ?_
  walk_at "rd"
  refine ⟨by show (2 : Nat) ≤ sizeLine; decide, fun c4 hc4 => ?_⟩
  generalize p4 : upd H4 c4 _ = G4
  have f4 : Evl.Ex H4 G4 := by rw [← p4]; exact Evl.Ex.new hc4
  have m4 : G4 c4 = some (.lst ([false, false].map V.bl)) := by rw [← p4]; exact upd_same
  clear p4
  refine ⟨b3, c4, _, _, rfl, rfl, f4 _ _ l3, m4, by show (9 : Nat) ≤ sizeLine; decide, fun b4 hb4 => ?_⟩
  generalize q4 : upd G4 b4 _ = H5
  have e4 : Evl.Ex G4 H5 := by rw [← q4]; exact Evl.Ex.new hb4
  have l4 : H5 b4 = some (.lst ([false, r, p, false, z, false, false, false, false].map V.bl)) := by rw [← q4]; exact upd_same
  clear q4
  have y4 := y3.trans (f4.trans e4)
  replace hdd := dx y4
  walk_at "rd"
  refine isE F (.own _) F.k10 hdd ?_
  walk_at "rd"
  refine isE F (.own _) F.k11 hdd ?_
  walk_at "rd"
  refine ⟨by show (2 : Nat) ≤ sizeLine; decide, fun c5 hc5 => ?_⟩
  generalize p5 : upd H5 c5 _ = G5
  have f5 : Evl.Ex H5 G5 := by rw [← p5]; exact Evl.Ex.new hc5
  have m5 : G5 c5 = some (.lst ([false, false].map V.bl)) := by rw [← p5]; exact upd_same
  clear p5
  refine ⟨b4, c5, _, _, rfl, rfl, f5 _ _ l4, m5, by show (11 : Nat) ≤ sizeLine; decide, fun b5 hb5 => ?_⟩
  generalize q5 : upd G5 b5 _ = H6
  have e5 : Evl.Ex G5 H6 := by rw [← q5]; exact Evl.Ex.new hb5
  have l5 : H6 b5 = some (.lst ([false, r, p, false, z, false, false, false, false, false, false].map V.bl)) := by rw [← q5]; exact upd_same
  clear q5
  have y5 := y4.trans (f5.trans e5)
  replace hdd := dx y5
  walk_at "rd"
  refine isE F (.own _) F.k12 hdd ?_
  walk_at "rd"
  refine isE F (.own _) F.k13 hdd ?_
  walk_at "rd"
  refine ⟨by show (2 : Nat) ≤ sizeLine; decide, fun c6 hc6 => ?_⟩
  generalize p6 : upd H6 c6 _ = G6
  have f6 : Evl.Ex H6 G6 := by rw [← p6]; exact Evl.Ex.new hc6
  have m6 : G6 c6 = some (.lst ([false, false].map V.bl)) := by rw [← p6]; exact upd_same
  clear p6
  refine ⟨b5, c6, _, _, rfl, rfl, f6 _ _ l5, m6, by show (13 : Nat) ≤ sizeLine; decide, fun b6 hb6 => ?_⟩
  generalize q6 : upd G6 b6 _ = H7
  have e6 : Evl.Ex G6 H7 := by rw [← q6]; exact Evl.Ex.new hb6
  have l6 : H7 b6 = some (.lst ([false, r, p, false, z, false, false, false, false, false, false, false, false].map V.bl)) := by rw [← q6]; exact upd_same
  clear q6
  have y6 := y5.trans (f6.trans e6)
  replace hdd := dx y6
  walk_at "rd"
  have lsq : SqL K H7 b6 ([false, r, p, false, z, false, false, false, false, false, false, false, false].map V.bl) := .inl (.inl l6)
  have hfs : ∀ dd fs, d = some dd → H dd = some (.xd fs) → H7 dd = some (.xd fs) := fun dd fs _ h => y6 _ _ h
  clear y1 y2 y3 y4 y5 e1 f2 e2 f3 e3 f4 e4 f5 e5 f6 e6 l1 l2 l3 l4 l5 m2 m3 m4 m5 m6 dx xr0
  refine ⟨.inl ⟨rfl, _, lsq⟩, ?_⟩
  walk_at "rd"
  refine KR.bcount lsq ?_
  walk_at "rd"
  rcases hC with ⟨rfl, rfl, rfl, rfl, rfl, d1, rfl, hx⟩ | ⟨rfl, rfl, rfl, rfl, rfl, d1, rfl, hx⟩ | ⟨rfl, rfl, rfl, rfl, rfl, rfl, rfl⟩
  · have hx7 := y6 _ _ hx
    refine KR.iteND (fun z => absurd (by decide) z) (fun _ => ?_)
    walk_at "rd"
    refine isE F (.ty _) F.kv hdd ?_
    walk_at "rd"
    refine KR.ixL lsq (atI_nat (j := 1) (v := .bl true) rfl) ?_
    walk_at "rd"
    refine ⟨rfl, _, .int v, hx7, rfl, ?_⟩
    walk_at "rd"
    refine ⟨v, rfl, ?_⟩
    walk_at "rd"
    refine ⟨rfl, _, .int v, hx7, rfl, ?_⟩
    walk_at "rd"
    exact ⟨by show (2 : Nat) ≤ sizeLine; decide, fun t ht => q t _ (y6.trans (Evl.Ex.new ht)) upd_same⟩
  · have hx7 := y6 _ _ hx
    refine KR.iteND (fun z => absurd (by decide) z) (fun _ => ?_)
    walk_at "rd"
    refine isE F (.ty _) F.kv hdd ?_
    walk_at "rd"
    refine KR.ixL lsq (atI_nat (j := 1) (v := .bl false) rfl) ?_
    walk_at "rd"
    refine KR.ixL lsq (atI_nat (j := 2) (v := .bl true) rfl) ?_
    walk_at "rd"
    refine ⟨rfl, _, .int v, hx7, rfl, ?_⟩
    walk_at "rd"
    refine ⟨v, rfl, ?_⟩
    walk_at "rd"
    refine ⟨rfl, _, .int v, hx7, rfl, ?_⟩
    walk_at "rd"
    exact ⟨by show (2 : Nat) ≤ sizeLine; decide, fun t ht => q t _ (y6.trans (Evl.Ex.new ht)) upd_same⟩
  · refine KR.iteND (fun z => absurd (by decide) z) (fun _ => ?_)
    walk_at "rd"
    refine isE F (.ty _) F.kv hdd ?_
    walk_at "rd"
    refine KR.ixL lsq (atI_nat (j := 1) (v := .bl false) rfl) ?_
    walk_at "rd"
    refine KR.ixL lsq (atI_nat (j := 2) (v := .bl false) rfl) ?_
    walk_at "rd"
    refine KR.ixL lsq (atI_nat (j := 4) (v := .bl true) rfl) ?_
    walk_at "rd"
    exact ⟨by show (2 : Nat) ≤ sizeLine; decide, fun t ht => q t _ (y6.trans (Evl.Ex.new ht)) upd_same⟩
end
end K9
namespace K9
open PySem PySem.Spec PyProof.Rows L2 K7
local macro_rules | `(tactic| walk_at "rc") => `(tactic| first
  | assumption
  | (show (0 : Int) < _; omega)
  | (show (0 : Int) < _ ∧ _ < (1073741824 : Int); exact ⟨by omega, by omega⟩)
  | (show (-(2 ^ 64 : Int) < _ ∧ _ < (2 ^ 64 : Int)) ∨ _; exact .inl ⟨by omega, by omega⟩)
  | (show _ ∨ (-(2 ^ 64 : Int) < _ ∧ _ < (2 ^ 64 : Int)); exact .inr ⟨by omega, by omega⟩)
  | (show (0 : Int) ≤ _ ∧ _ ≤ (1000000 : Int) ∧ _ < 2 ^ 64; exact ⟨by decide, by decide, by decide⟩))
local macro_rules | `(tactic| walk_at "rd") => `(tactic| repeat (first
  | with_reducible apply KR.seq
  | with_reducible apply KR.asg
  | with_reducible apply KR.drop
  | with_reducible apply KR.ret
  | with_reducible apply KR.retN
  | with_reducible apply KR.next
  | with_reducible apply KR.ifs
  | with_reducible refine KR.var rfl ?_
  | with_reducible refine L2.iteT ?_
  | with_reducible refine L2.iteF ?_
  | with_reducible refine KR.iteNF ?_
  | with_reducible refine KR.iteNT ?_
  | with_reducible apply KR.con
  | with_reducible apply KR.op
  | with_reducible apply KR.opI0
  | ((with_reducible refine KR.opI ?rc ?_); (case rc => walk_at "rc"))
  | with_reducible apply KR.un
  | with_reducible apply KR.unI
  | with_reducible apply KR.eqI
  | with_reducible apply KR.neI
  | with_reducible apply KR.test
  | with_reducible apply KR.tb'
  | with_reducible apply KR.exbl
  | with_reducible apply KR.and'
  | with_reducible apply KR.or'
  | with_reducible apply KR.not'
  | with_reducible apply KR.chain
  | with_reducible apply KR.call
  | with_reducible apply KR.callS
  | with_reducible apply KR.make
  | with_reducible apply KR.bm
  | with_reducible apply KR.errF
  | with_reducible apply KR.cons
  | with_reducible apply KR.nil
  | with_reducible apply KR.cb
  | with_reducible apply KR.cInt1
  | with_reducible apply KR.cI1
  | with_reducible apply KR.cI2
  | with_reducible apply KR.isi_ii
  | with_reducible apply KR.isi_ib
  | with_reducible apply KR.bits
  | with_reducible apply KR.exint
  | with_reducible apply KR.ifx
  | with_reducible refine KR.aug rfl ?_
  | with_reducible apply KR.ipI
  | with_reducible apply KR.for'
  | with_reducible apply KR.rng1
  | with_reducible apply KR.rng2
  | with_reducible apply KR.ilist
  | with_reducible apply KR.itup
  | with_reducible apply KR.tup
  | with_reducible apply KR.lst
  | with_reducible apply KR.andV
  | with_reducible apply KR.orV
  | with_reducible apply KR.notV
  | with_reducible apply KR.asgG
  | with_reducible apply KR.sub
  | with_reducible apply KR.fld
  | with_reducible apply KR.prop
  | with_reducible apply KR.meth
  | with_reducible apply KR.par
  | with_reducible apply KR.parN
  | with_reducible apply KR.raise1
  | with_reducible apply KR.raise0
  | with_reducible apply KR.exv
  | with_reducible apply KR.lc
  | with_reducible apply KR.ienT
  | with_reducible apply KR.sfld
  | with_reducible apply KR.sl
  | with_reducible apply KR.part
  | with_reducible apply KR.nopart
  | with_reducible apply KR.isNo
  | with_reducible refine KR.nnT ?_
  | with_reducible refine KR.niF ?_
  | with_reducible refine KR.nrF ?_
  | with_reducible refine KR.mnT ?_
  | with_reducible refine KR.miF ?_
  | with_reducible refine KR.mrF ?_))
theorem Txt.efR {prog : Program} {K : PySem.W.Frag} {mg : Str → Option Value} {A : Ad} (T : Txt prog K mg A) : EF K A A.a_RangeError true false false := ⟨T.ei_RangeError, T.ex_RangeError, T.kv_RangeError, T.kt_RangeError_SizeError, T.kt_RangeError_RangeError, T.kt_RangeError_PrimeError, T.kt_RangeError_DepthError, T.kt_RangeError_ZeroError, T.kt_RangeError_MixError, T.kt_RangeError_MonicError, T.kt_RangeError_RepeatError, T.kt_RangeError_FieldError, T.kt_RangeError_BarError, T.kt_RangeError_EditError, T.kt_RangeError_TextError, T.kt_RangeError_HistoryError⟩
theorem Txt.efP {prog : Program} {K : PySem.W.Frag} {mg : Str → Option Value} {A : Ad} (T : Txt prog K mg A) : EF K A A.a_PrimeError false true false := ⟨T.ei_PrimeError, T.ex_PrimeError, T.kv_PrimeError, T.kt_PrimeError_SizeError, T.kt_PrimeError_RangeError, T.kt_PrimeError_PrimeError, T.kt_PrimeError_DepthError, T.kt_PrimeError_ZeroError, T.kt_PrimeError_MixError, T.kt_PrimeError_MonicError, T.kt_PrimeError_RepeatError, T.kt_PrimeError_FieldError, T.kt_PrimeError_BarError, T.kt_PrimeError_EditError, T.kt_PrimeError_TextError, T.kt_PrimeError_HistoryError⟩
theorem Txt.efZ {prog : Program} {K : PySem.W.Frag} {mg : Str → Option Value} {A : Ad} (T : Txt prog K mg A) : EF K A A.a_ZeroError false false true := ⟨T.ei_ZeroError, T.ex_ZeroError, T.kv_ZeroError, T.kt_ZeroError_SizeError, T.kt_ZeroError_RangeError, T.kt_ZeroError_PrimeError, T.kt_ZeroError_DepthError, T.kt_ZeroError_ZeroError, T.kt_ZeroError_MixError, T.kt_ZeroError_MonicError, T.kt_ZeroError_RepeatError, T.kt_ZeroError_FieldError, T.kt_ZeroError_BarError, T.kt_ZeroError_EditError, T.kt_ZeroError_TextError, T.kt_ZeroError_HistoryError⟩
inductive Ans (p a b m : Int) : Str → Str → Int → Prop
  | barsA : ¬ okL a → Ans p a b m "bars" "range" a
  | barsB : okL a → ¬ okL b → Ans p a b m "bars" "range" b
  | barsZ : okL a → okL b → (a = 0 ∨ b = 0) → Ans p a b m "bars" "zero" 0
  | barsP (f : Int) : okL a → okL b → a ≠ 0 → b ≠ 0 → Div2 a b f → 97 < f → (∀ g, Div2 a b g → 97 < g → f ≤ g) → Ans p a b m "bars" "prime" f
  | badp {w : Str} : (w = "symbol" ∨ w = "point") → p ∉ primesL → Ans p a b m w "prime" p
  | badA {w : Str} : (w = "symbol" ∨ w = "point") → p ∈ primesL → ¬ okA a → Ans p a b m w "range" a
  | zer {w : Str} : (w = "symbol" ∨ w = "point") → p ∈ primesL → okA a → okA b → (1 ≤ m ∧ m ≤ 60) → (a = 0 ∨ b = 0) → Ans p a b m w "zero" 0
  | badm : p ∈ primesL → okA a → okA b → ¬ (1 ≤ m ∧ m ≤ 60) → Ans p a b m "point" "range" m
section
variable {P : Program} {w : World} {K : PySem.W.Frag} {mg : Str → Option Value} {base : Heap} {A : Ad}
def sp_law_refused : Sp := fun vs H Q _ => ∃ (w : Str) (p a b m : Int) (tag : Str) (v : Int), vs = [.str w, .int p, .int a, .int b, .int m] ∧ Ans p a b m w tag v ∧
  ∀ t H2, Evl.Ex H H2 → H2 t = some (.tup [.str tag, .int v]) → Q (.ref t) H2
theorem ok_law_refused (T : Txt P K mg A) : FnOk P w K mg base CX0 7 A.a_law_refused A.d_law_refused ["word", "p", "a", "b", "m"] sp_law_refused := by
  refine T.F_law_refused.ok sc_law_refused (fun vs H Q E h => ?_) (fun cdv Ar outer s H vs Q E hr h => ?_)
  · obtain ⟨_, _, _, _, _, _, _, rfl, _⟩ := h; rfl
  have nd := sc_law_refused.nd
  obtain ⟨wd, p, a, b, m, tag, v, rfl, hans, q⟩ := h
  refine ⟨_, (pss_cons (L2N.ps_try_as (i := 5) (Wout := fun _ _ _ _ => False) rfl rfl nd rfl rfl ⟨rfl, by decide, Or.inl T.g_PrimedeepError⟩ takesN0 (fun W pn xe tk _ => (pss_one (ps_if (by exact (pt_cmpR op_eq (pv 0) pe_str (nomark _))) (pss_one (ps_expr (pe_callS (ok_conic_bars T) (hr.mono (by decide)) (by rfl) T.g_conic_bars T.k_conic_bars T.b_conic_bars (fun σ => L2N.passAt tk σ) (pa_cons (pv 2) (pa_cons (pv 3) pa_nil))))) (pss_one (ps_if (by exact (pt_cmpR op_eq (pv 0) pe_str (nomark _))) (pss_one (ps_expr (pe_callS (ok_symbol T) (hr.mono (by decide)) (by rfl) T.g_symbol T.k_symbol T.b_symbol (fun σ => L2N.passAt tk σ) (pa_cons (pv 1) (pa_cons (pv 2) (pa_cons (pv 3) pa_nil)))))) (pss_one (ps_expr (pe_callS (ok_conic_point T) (hr.mono (by decide)) (by rfl) T.g_conic_point T.k_conic_point T.b_conic_point (fun σ => L2N.passAt tk σ) (pa_cons (pv 1) (pa_cons (pv 2) (pa_cons (pv 3) (pa_cons (pv 4) pa_nil)))))))))))) (fun a oe cls d pn hz hf => (pss_one (ps_ret (by exact (pe_callP (ok_law_refusalP T hz hf) (hr.mono (by decide)) hz hf (by rfl) T.g_law_refusal T.k_law_refusal T.b_law_refusal (pa_cons (pv 5) pa_nil)))))))
    (pss_one (ps_ret pe_non))), ?_⟩
  refine KR.seq ?_
  dsimp only
  generalize hW : wAs _ _ _ _ _ _ = W
  have leaf : ∀ (C : Addr) (r pp z : Bool) (d : Option Addr) (tg : Str) (v0 : Int) (H1 : Hp), EF K A C r pp z → Evl.Ex H H1 →
      ((tg = "range" ∧ C = A.a_RangeError ∧ r = true ∧ pp = false ∧ z = false ∧ ∃ dd, d = some dd ∧ H1 dd = some (.xd [(("number" : Str), .int v0)])) ∨
       (tg = "prime" ∧ C = A.a_PrimeError ∧ r = false ∧ pp = true ∧ z = false ∧ ∃ dd, d = some dd ∧ H1 dd = some (.xd [(("number" : Str), .int v0)])) ∨
       (tg = "zero" ∧ v0 = 0 ∧ C = A.a_ZeroError ∧ r = false ∧ pp = false ∧ z = true ∧ d = none)) →
      (∀ t H2, Evl.Ex H H2 → H2 t = some (.tup [.str tg, .int v0]) → Q (.ref t) H2) → WE W (start ["word", "p", "a", "b", "m", "e"] [.str wd, .int p, .int a, .int b, .int m]) (.ref C) d H1 := by
    intro C r pp z d tg v0 H1 F x1 hC q
    rw [← hW]
    refine ⟨true, F.ex, fun _ a ha => ?_, fun z => Bool.noConfusion z⟩
    clear hW
    walk_at "rd"
    refine ⟨rfl, C, r, pp, z, tg, v0, rfl, F, hC, fun t H2 x2 ht => ?_⟩
    walk_at "rd"
    exact q t H2 (x1.trans x2) ht
  clear hW
  generalize hs0 : start ["word", "p", "a", "b", "m", "e"] [.str wd, .int p, .int a, .int b, .int m] = σ0 at leaf
  have lR : ∀ v0 H1, Evl.Ex H H1 → (∀ t H2, Evl.Ex H H2 → H2 t = some (.tup [.str "range", .int v0]) → Q (.ref t) H2) → errD A.a_RangeError (WE W σ0) H1 v0 :=
    fun v0 H1 x1 q d hd => leaf _ _ _ _ _ "range" v0 _ T.efR (x1.trans (Evl.Ex.new hd)) (.inl ⟨rfl, rfl, rfl, rfl, rfl, d, rfl, upd_same⟩) q
  have lP : ∀ v0 H1, Evl.Ex H H1 → (∀ t H2, Evl.Ex H H2 → H2 t = some (.tup [.str "prime", .int v0]) → Q (.ref t) H2) → errD A.a_PrimeError (WE W σ0) H1 v0 :=
    fun v0 H1 x1 q d hd => leaf _ _ _ _ _ "prime" v0 _ T.efP (x1.trans (Evl.Ex.new hd)) (.inr (.inl ⟨rfl, rfl, rfl, rfl, rfl, d, rfl, upd_same⟩)) q
  have lZ : ∀ H1, Evl.Ex H H1 → (∀ t H2, Evl.Ex H H2 → H2 t = some (.tup [.str "zero", .int 0]) → Q (.ref t) H2) → WE W σ0 (.ref A.a_ZeroError) none H1 :=
    fun H1 x1 q => leaf _ _ _ _ _ "zero" 0 _ T.efZ x1 (.inr (.inr ⟨rfl, rfl, rfl, rfl, rfl, rfl, rfl⟩)) q
  clear leaf
  have xr := Evl.Ex.refl H
  have bars : wd = "bars" → ∀ Q', sp_conic_bars A K [.int a, .int b] H Q' (WE W σ0) := by
    intro hw Q'
    cases hans with
    | barsA h => exact ⟨a, b, rfl, fun _ => lR a H xr q, fun h' => absurd h' h⟩
    | barsB h1 h => exact ⟨a, b, rfl, fun h' => absurd h1 h', fun _ => ⟨fun _ => lR b H xr q, fun h' => absurd h' h⟩⟩
    | barsZ h1 h2 h => exact ⟨a, b, rfl, fun h' => absurd h1 h', fun _ => ⟨fun h' => absurd h2 h', fun _ => ⟨fun _ H2 x2 => lZ H2 x2 q, fun ha hb => (h.elim ha hb).elim⟩⟩⟩
    | barsP _ h1 h2 ha hb hf hf97 hmin =>
      refine ⟨a, b, rfl, fun h' => absurd h1 h', fun _ => ⟨fun h' => absurd h2 h', fun _ => ⟨fun h' => (h'.elim ha hb).elim, fun _ _ => ⟨fun g hg hg97 hgm H2 x2 => ?_, fun hsm => ?_⟩⟩⟩⟩
      · have e1 := hmin g hg hg97
        have e2 := hgm v hf hf97
        have e : g = v := by omega
        rw [e]
        exact lP v H2 x2 q
      · have := small_of.mp hsm v hf
        omega
    | badp h _ | badA h _ _ | zer h _ _ _ _ _ =>
      rcases h with h | h <;> exact absurd (hw.symm.trans h) (by decide)
    | badm _ _ _ _ => exact absurd hw (by decide)
  have sym : wd = "symbol" → ∀ Q', sp_symbol A [.int p, .int a, .int b] H Q' (WE W σ0) := by
    intro hw Q'
    cases hans with
    | barsA _ | barsB _ _ | barsZ _ _ _ | barsP _ _ _ _ _ _ _ _ | badm _ _ _ _ => exact absurd hw (by decide)
    | badp _ h => exact ⟨p, a, b, rfl, fun _ => lP p H xr q, fun h' => absurd h' h⟩
    | badA _ hp h => exact ⟨p, a, b, rfl, fun h' => absurd hp h', fun _ => ⟨fun _ => lR a H xr q, fun h' => absurd h' h⟩⟩
    | zer _ hp h1 h2 _ h => exact ⟨p, a, b, rfl, fun h' => absurd hp h', fun _ => ⟨fun h' => absurd h1 h', fun _ => ⟨fun h' => absurd h2 h', fun _ => ⟨fun _ => lZ H xr q, fun ha hb => (h.elim ha hb).elim⟩⟩⟩⟩
  have pnt : wd = "point" → ∀ Q', sp_conic_point A [.int p, .int a, .int b, .int m] H Q' (WE W σ0) := by
    intro hw Q'
    cases hans with
    | barsA _ | barsB _ _ | barsZ _ _ _ | barsP _ _ _ _ _ _ _ _ => exact absurd hw (by decide)
    | badp _ h => exact ⟨p, a, b, m, rfl, fun _ => lP p H xr q, fun h' => absurd h' h⟩
    | badA _ hp h => exact ⟨p, a, b, m, rfl, fun h' => absurd hp h', fun _ => ⟨fun _ => lR a H xr q, fun h' => absurd h' h⟩⟩
    | badm hp h1 h2 h => exact ⟨p, a, b, m, rfl, fun h' => absurd hp h', fun _ => ⟨fun h' => absurd h1 h', fun _ => ⟨fun h' => absurd h2 h', fun _ => ⟨fun _ => lR m H xr q, fun h' => absurd h' h⟩⟩⟩⟩
    | zer _ hp h1 h2 hm h => exact ⟨p, a, b, m, rfl, fun h' => absurd hp h', fun _ => ⟨fun h' => absurd h1 h', fun _ => ⟨fun h' => absurd h2 h', fun _ => ⟨fun h' => absurd hm h', fun _ => ⟨fun _ => lZ H xr q, fun ha hb => (h.elim ha hb).elim⟩⟩⟩⟩⟩
  have hword : wd = "bars" ∨ wd = "symbol" ∨ wd = "point" := by
    cases hans with
    | barsA _ | barsB _ _ | barsZ _ _ _ | barsP _ _ _ _ _ _ _ _ => exact .inl rfl
    | badp h _ | badA h _ _ | zer h _ _ _ _ _ => exact .inr h
    | badm _ _ _ _ => exact .inr (.inr rfl)
  clear lR lP lZ q hans
  subst hs0
  walk_at "rd"
  refine KR.eqS rfl ?_
  walk_at "rd"
  refine KR.iteD (fun z => ?_) (fun z1 => ?_)
  · refine KR.drop (KR.callS ?_)
    repeat (first | with_reducible apply KR.cons | with_reducible apply KR.nil | with_reducible refine KR.var rfl ?_)
    exact bars (by injection z) (fun _ H1 => Q .non H1)
  walk_at "rd"
  refine KR.eqS rfl ?_
  walk_at "rd"
  refine KR.iteD (fun z => ?_) (fun z2 => ?_)
  · walk_at "rd"
    exact sym (by injection z) (fun _ H1 => Q .non H1)
  walk_at "rd"
  rcases hword with h | h | h
  · exact absurd (congrArg V.str h) z1
  · exact absurd (congrArg V.str h) z2
  · exact pnt h (fun _ H1 => Q .non H1)
end
end K9
namespace K9
open PySem PySem.Spec PyProof.Rows L2 K7
local macro_rules | `(tactic| walk_at "rc") => `(tactic| first
  | assumption
  | (show (0 : Int) < _; omega)
  | (show (0 : Int) < _ ∧ _ < (1073741824 : Int); exact ⟨by omega, by omega⟩)
  | (show (-(2 ^ 64 : Int) < _ ∧ _ < (2 ^ 64 : Int)) ∨ _; exact .inl ⟨by omega, by omega⟩)
  | (show _ ∨ (-(2 ^ 64 : Int) < _ ∧ _ < (2 ^ 64 : Int)); exact .inr ⟨by omega, by omega⟩)
  | (show (0 : Int) ≤ _ ∧ _ ≤ (1000000 : Int) ∧ _ < 2 ^ 64; exact ⟨by decide, by decide, by decide⟩))
local macro_rules | `(tactic| walk_at "rd") => `(tactic| repeat (first
  | with_reducible apply KR.seq
  | with_reducible apply KR.asg
  | with_reducible apply KR.drop
  | with_reducible apply KR.ret
  | with_reducible apply KR.retN
  | with_reducible apply KR.next
  | with_reducible apply KR.ifs
  | with_reducible refine KR.var rfl ?_
  | with_reducible refine L2.iteT ?_
  | with_reducible refine L2.iteF ?_
  | with_reducible refine KR.iteNF ?_
  | with_reducible refine KR.iteNT ?_
  | with_reducible apply KR.con
  | with_reducible apply KR.op
  | with_reducible apply KR.opI0
  | ((with_reducible refine KR.opI ?rc ?_); (case rc => walk_at "rc"))
  | with_reducible apply KR.un
  | with_reducible apply KR.unI
  | with_reducible apply KR.eqI
  | with_reducible apply KR.neI
  | with_reducible apply KR.test
  | with_reducible apply KR.tb'
  | with_reducible apply KR.exbl
  | with_reducible apply KR.and'
  | with_reducible apply KR.or'
  | with_reducible apply KR.not'
  | with_reducible apply KR.chain
  | with_reducible apply KR.call
  | with_reducible apply KR.callS
  | with_reducible apply KR.make
  | with_reducible apply KR.bm
  | with_reducible apply KR.errF
  | with_reducible apply KR.cons
  | with_reducible apply KR.nil
  | with_reducible apply KR.cb
  | with_reducible apply KR.cInt1
  | with_reducible apply KR.cI1
  | with_reducible apply KR.cI2
  | with_reducible apply KR.isi_ii
  | with_reducible apply KR.isi_ib
  | with_reducible apply KR.bits
  | with_reducible apply KR.exint
  | with_reducible apply KR.ifx
  | with_reducible refine KR.aug rfl ?_
  | with_reducible apply KR.ipI
  | with_reducible apply KR.for'
  | with_reducible apply KR.rng1
  | with_reducible apply KR.rng2
  | with_reducible apply KR.ilist
  | with_reducible apply KR.itup
  | with_reducible apply KR.tup
  | with_reducible apply KR.lst
  | with_reducible apply KR.andV
  | with_reducible apply KR.orV
  | with_reducible apply KR.notV
  | with_reducible apply KR.asgG
  | with_reducible apply KR.sub
  | with_reducible apply KR.fld
  | with_reducible apply KR.prop
  | with_reducible apply KR.meth
  | with_reducible apply KR.par
  | with_reducible apply KR.parN
  | with_reducible apply KR.raise1
  | with_reducible apply KR.raise0
  | with_reducible apply KR.exv
  | with_reducible apply KR.lc
  | with_reducible apply KR.ienT
  | with_reducible apply KR.sfld
  | with_reducible apply KR.sl
  | with_reducible apply KR.part
  | with_reducible apply KR.nopart
  | with_reducible apply KR.isNo
  | with_reducible refine KR.nnT ?_
  | with_reducible refine KR.niF ?_
  | with_reducible refine KR.nrF ?_
  | with_reducible refine KR.mnT ?_
  | with_reducible refine KR.miF ?_
  | with_reducible refine KR.mrF ?_))
theorem eqv_same (tg : Str) (v : Int) : PyData.eqv (.tuple [.str tg, .int v]) (.tuple [.str tg, .int v]) = true := by
  simp [PyData.eqv, PyData.eqvAll]
theorem shaped_pair (tg : Str) (v : Int) (h : PyData.strOk tg = true := by decide +kernel) : SeqAt.shaped (.tuple [.str tg, .int v]) = true := by
  simp [SeqAt.shaped, PyData.canLay0, PyData.canLayAll0, PyData.depth, PyData.depthAll, h]
theorem tag_ok {p a b m : Int} {w tg : Str} {v : Int} (h : Ans p a b m w tg v) : PyData.strOk tg = true := by
  cases h <;> decide +kernel
theorem ans_min {a b : Int} {f1 f2 : Nat} {f : Int} (h1 : Pr f1) (h2 : Pr f2) (g1 : 97 < f1) (g2 : 97 < f2) (d1 : f1 ∣ a.natAbs ∨ f1 ∣ b.natAbs) (d2 : f2 ∣ a.natAbs ∨ f2 ∣ b.natAbs)
    (hall : ∀ q, Pr q → (q ∣ a.natAbs ∨ q ∣ b.natAbs) → 97 < q → q = f1 ∨ q = f2) (hf : f = f1 ∨ f = f2) (l1 : f ≤ f1) (l2 : f ≤ f2) (ha : okL a) (hb : okL b) (ha0 : a ≠ 0) (hb0 : b ≠ 0) : Ans 2 a b 1 "bars" "prime" f := by
  refine .barsP f ha hb ha0 hb0 ?_ ?_ ?_
  · rcases hf with rfl | rfl
    · exact ⟨f1, rfl, h1, d1⟩
    · exact ⟨f2, rfl, h2, d2⟩
  · rcases hf with rfl | rfl <;> omega
  · rintro g ⟨q, rfl, hq, hd⟩ hg
    rcases hall q hq hd (by omega) with rfl | rfl <;> omega
theorem pr_off {q n : Nat} (hq : Pr q) (h : q ∣ n) (hn : 0 < n) (hn2 : n ≤ 97) : q ≤ 97 := by
  have := Nat.le_of_dvd hn h
  omega
def Row (H : Hp) (r : Addr) : Prop := ∃ (x y : Int) (d : Addr) (tag : Str) (v : Int), H r = some (.tup [.str "bars", .int x, .int y, .ref d]) ∧ H d = some (.tup [.str tag, .int v]) ∧ Ans 2 x y 1 "bars" tag v
theorem Row.ex {H H2 : Hp} {r : Addr} (h : Row H r) (e : Evl.Ex H H2) : Row H2 r := by
  obtain ⟨x, y, d, tag, v, h1, h2, h3⟩ := h
  exact ⟨x, y, d, tag, v, e _ _ h1, e _ _ h2, h3⟩
theorem Row.upd {H : Hp} {r L : Addr} {xs ys : List V} (h : Row H r) (hL : H L = some (.lst xs)) : Row (L2.upd H L (.lst ys)) r := by
  obtain ⟨x, y, d, tag, v, h1, h2, h3⟩ := h
  refine ⟨x, y, d, tag, v, ?_, ?_, h3⟩
  · rw [upd_ne (fun z => by rw [z, hL] at h1; cases h1)]; exact h1
  · rw [upd_ne (fun z => by rw [z, hL] at h2; cases h2)]; exact h2
structure Rows (H0 H : Hp) (L : Addr) (n : Nat) : Prop where
  ex : Evl.Ex H0 H
  fr : H0 L = none
  rs : ∃ rs : List Addr, rs.length = n ∧ H L = some (.lst (rs.map V.ref)) ∧ ∀ r ∈ rs, Row H r
theorem Rows.more {H0 H : Hp} {L d r : Addr} {n : Nat} {x y v : Int} {tag : Str} (R : Rows H0 H L n) (hn : n < 1000) (hd : H d = none) (hr : (L2.upd H d (.tup [.str tag, .int v])) r = none) (ha : Ans 2 x y 1 "bars" tag v) :
    ∃ xs : List V, (L2.upd (L2.upd H d (.tup [.str tag, .int v])) r (.tup [.str "bars", .int x, .int y, .ref d])) L = some (.lst xs) ∧ xs.length < sizeLine ∧
      Rows H0 (L2.upd (L2.upd (L2.upd H d (.tup [.str tag, .int v])) r (.tup [.str "bars", .int x, .int y, .ref d])) L (.lst (xs ++ [.ref r]))) L (n + 1) := by
  obtain ⟨e0, hf, rs, hl, hL, hrs⟩ := R
  have e1 : Evl.Ex H (L2.upd H d (.tup [.str tag, .int v])) := Evl.Ex.new hd
  have e2 := e1.trans (Evl.Ex.new (o := .tup [.str "bars", .int x, .int y, .ref d]) hr)
  have hrow : Row (L2.upd (L2.upd H d (.tup [.str tag, .int v])) r (.tup [.str "bars", .int x, .int y, .ref d])) r :=
    ⟨x, y, d, tag, v, upd_same, Evl.Ex.new hr _ _ upd_same, ha⟩
  generalize L2.upd (L2.upd H d (.tup [.str tag, .int v])) r _ = H3 at e2 hrow ⊢
  have hL3 := e2 _ _ hL
  refine ⟨_, hL3, by rw [List.length_map, sizeLine_eq]; omega, Evl.Ex.mut (e0.trans e2) hf, hf, rs ++ [r], by rw [List.length_append]; show rs.length + 1 = n + 1; omega, by rw [upd_same, List.map_append]; rfl, fun z hz => ?_⟩
  rcases List.mem_append.mp hz with hz | hz
  · exact ((hrs z hz).ex e2).upd hL3
  · rw [List.mem_singleton.mp hz]
    exact hrow.upd hL3
theorem Rows.tyv {K : PySem.W.Frag} {H0 H : Hp} {L : Addr} {n : Nat} (R : Rows H0 H L n) : ∃ xs, SqL K H L xs := by
  obtain ⟨_, _, rs, _, hL, _⟩ := R
  exact ⟨_, .inl (.inl hL)⟩
theorem gr_div {q f c : Nat} (hq : Pr q) (hf : Pr f) (hg : 97 < q) (hc : 0 < c) (hc2 : c ≤ 97) (h : q ∣ c * f) : q = f := by
  rcases hq.mul h with x | x
  · have := Nat.le_of_dvd hc x
    omega
  · exact Pr.eq hq hf x
section
variable {P : Program} {w : World} {K : PySem.W.Frag} {mg : Str → Option Value} {base : Heap} {A : Ad}
def sp_law_refusals_right : Sp := fun vs H Q _ => ∃ (t : Addr) (a b : Int), vs = [.ref t, .int a, .int b] ∧ Pool H t ∧ okL a ∧ okL b ∧ Sm a ∧ Sm b ∧
  ∀ H2, ExB t H H2 → Pool H2 t → Q (.bl true) H2
theorem ok_law_refusals_right (T : Txt P K mg A) : FnOk P w K mg base CX0 8 A.a_law_refusals_right A.d_law_refusals_right ["pool", "a", "b"] sp_law_refusals_right := by
  refine T.F_law_refusals_right.ok sc_law_refusals_right (fun vs H Q E h => ?_) (fun cdv Ar outer s H vs Q E hr h => ?_)
  · obtain ⟨_, _, _, rfl, _⟩ := h; rfl
  have nd := sc_law_refusals_right.nd
  obtain ⟨t, a, b, rfl, hpool, ha, hb, sa, sb, q⟩ := h
  refine ⟨_, (pss_cons (ps_set (i := 3) nd rfl (.inl rfl) (pe_op op_add (pe_op op_pow pe_int pe_int) pe_int))
    (pss_cons (ps_set (i := 4) nd rfl (.inl rfl) (pe_lst (pa_cons pe_int (pa_cons pe_int (pa_cons pe_int (pa_cons pe_int (pa_cons pe_int (pa_cons pe_int (pa_cons pe_int (pa_cons pe_int pa_nil))))))))))
    (pss_cons (ps_set (i := 5) nd rfl (.inl rfl) (pe_ix ix_list (pv 4) (pe_call (ok_law_draw T) (hr.mono (by decide)) (by rfl) T.g_law_draw T.k_law_draw T.b_law_draw .nil pass0 (pa_cons (pv 0) (pa_cons pe_int pa_nil))) (fun _ _ => rfl)))
    (pss_cons (ps_set (i := 6) nd rfl (.inl rfl) (pe_ix ix_list (pv 4) (pe_call (ok_law_draw T) (hr.mono (by decide)) (by rfl) T.g_law_draw T.k_law_draw T.b_law_draw .nil pass0 (pa_cons (pv 0) (pa_cons pe_int pa_nil))) (fun _ _ => rfl)))
    (pss_cons (ps_set (i := 7) nd rfl (.inl rfl) (pe_lst (pa_cons (pe_tup (pa_cons pe_str (pa_cons (pv 3) (pa_cons pe_int (pa_cons (pe_tup (pa_cons pe_str (pa_cons (pv 3) pa_nil))) pa_nil))))) (pa_cons (pe_tup (pa_cons pe_str (pa_cons (pe_un un_neg (pv 3)) (pa_cons (pv 3) (pa_cons (pe_tup (pa_cons pe_str (pa_cons (pe_un un_neg (pv 3)) pa_nil))) pa_nil))))) pa_nil))))
    (pss_cons (ps_expr (pe_bm PySem.F.plainAttrs_list PySem.F.slot_list_append PySem.F.type_list_append mt_append (pv 7) (pa_cons (pe_tup (pa_cons pe_str (pa_cons (pv 1) (pa_cons (pv 3) (pa_cons (pe_tup (pa_cons pe_str (pa_cons (pv 3) pa_nil))) pa_nil))))) pa_nil)))
    (pss_cons (ps_expr (pe_bm PySem.F.plainAttrs_list PySem.F.slot_list_append PySem.F.type_list_append mt_append (pv 7) (pa_cons (pe_tup (pa_cons pe_str (pa_cons pe_int (pa_cons (pe_un un_neg (pv 3)) (pa_cons (pe_tup (pa_cons pe_str (pa_cons (pe_un un_neg (pv 3)) pa_nil))) pa_nil))))) pa_nil)))
    (pss_cons (ps_expr (pe_bm PySem.F.plainAttrs_list PySem.F.slot_list_append PySem.F.type_list_append mt_append (pv 7) (pa_cons (pe_tup (pa_cons pe_str (pa_cons pe_int (pa_cons (pv 5) (pa_cons (pe_tup (pa_cons pe_str (pa_cons pe_int pa_nil))) pa_nil))))) pa_nil)))
    (pss_cons (ps_expr (pe_bm PySem.F.plainAttrs_list PySem.F.slot_list_append PySem.F.type_list_append mt_append (pv 7) (pa_cons (pe_tup (pa_cons pe_str (pa_cons (pv 6) (pa_cons pe_int (pa_cons (pe_tup (pa_cons pe_str (pa_cons pe_int pa_nil))) pa_nil))))) pa_nil)))
    (pss_cons (ps_expr (pe_bm PySem.F.plainAttrs_list PySem.F.slot_list_append PySem.F.type_list_append mt_append (pv 7) (pa_cons (pe_tup (pa_cons pe_str (pa_cons (pv 5) (pa_cons (pv 2) (pa_cons (pe_tup (pa_cons pe_str (pa_cons (pv 5) pa_nil))) pa_nil))))) pa_nil)))
    (pss_cons (ps_expr (pe_bm PySem.F.plainAttrs_list PySem.F.slot_list_append PySem.F.type_list_append mt_append (pv 7) (pa_cons (pe_tup (pa_cons pe_str (pa_cons (pv 1) (pa_cons (pe_un un_neg (pv 5)) (pa_cons (pe_tup (pa_cons pe_str (pa_cons (pv 5) pa_nil))) pa_nil))))) pa_nil)))
    (pss_cons (ps_expr (pe_bm PySem.F.plainAttrs_list PySem.F.slot_list_append PySem.F.type_list_append mt_append (pv 7) (pa_cons (pe_tup (pa_cons pe_str (pa_cons (pe_op op_mul pe_int (pv 5)) (pa_cons (pe_op op_mul (pe_un un_neg pe_int) (pv 6)) (pa_cons (pe_tup (pa_cons pe_str (pa_cons (pe_callB (call_min2 rfl) (by rfl) T.n_min (by decide +kernel) (pa_cons (pv 5) (pa_cons (pv 6) pa_nil))) pa_nil))) pa_nil))))) pa_nil)))
    (pss_cons (ps_expr (pe_bm PySem.F.plainAttrs_list PySem.F.slot_list_append PySem.F.type_list_append mt_append (pv 7) (pa_cons (pe_tup (pa_cons pe_str (pa_cons (pe_op op_mul (pe_un un_neg (pv 5)) (pv 6)) (pa_cons pe_int (pa_cons (pe_tup (pa_cons pe_str (pa_cons (pe_callB (call_min2 rfl) (by rfl) T.n_min (by decide +kernel) (pa_cons (pv 5) (pa_cons (pv 6) pa_nil))) pa_nil))) pa_nil))))) pa_nil)))
    (pss_cons (ps_for PassesOwn.never rfl (pi_list (pv 7)) (pg_tup rfl (pgs_cons (pg_name (i := 8) nd rfl (Or.inl rfl)) (pgs_cons (pg_name (i := 9) nd rfl (Or.inl rfl)) (pgs_cons (pg_name (i := 10) nd rfl (Or.inl rfl)) (pgs_cons (pg_name (i := 11) nd rfl (Or.inl rfl)) pgs_nil))))) (pss_one (ps_if (pt_cmpR (op_neD hr.units) (pe_call (ok_law_refused T) (hr.mono (by decide)) (by rfl) T.g_law_refused T.k_law_refused T.b_law_refused .nil pass0 (pa_cons (pv 8) (pa_cons pe_int (pa_cons (pv 9) (pa_cons (pv 10) (pa_cons pe_int pa_nil)))))) (pv 11) (nomark _)) (pss_one (ps_ret pe_bl)) pss_nil)))
    (pss_cons (ps_for PassesOwn.never rfl (pi_list (pe_lst (pa_cons pe_str (pa_cons pe_str pa_nil)))) (pg_name (i := 8) nd rfl (Or.inl rfl)) (pss_cons (ps_if (pt_cmpR (op_neD hr.units) (pe_call (ok_law_refused T) (hr.mono (by decide)) (by rfl) T.g_law_refused T.k_law_refused T.b_law_refused .nil pass0 (pa_cons (pv 8) (pa_cons pe_int (pa_cons (pv 1) (pa_cons (pv 2) (pa_cons pe_int pa_nil)))))) (pe_tup (pa_cons pe_str (pa_cons pe_int pa_nil))) (nomark _)) (pss_one (ps_ret pe_bl)) pss_nil)
    (pss_cons (ps_if (pt_cmpR (op_neD hr.units) (pe_call (ok_law_refused T) (hr.mono (by decide)) (by rfl) T.g_law_refused T.k_law_refused T.b_law_refused .nil pass0 (pa_cons (pv 8) (pa_cons pe_int (pa_cons (pv 1) (pa_cons pe_int (pa_cons pe_int pa_nil)))))) (pe_tup (pa_cons pe_str (pa_cons pe_int pa_nil))) (nomark _)) (pss_one (ps_ret pe_bl)) pss_nil)
    (pss_one (ps_if (pt_cmpR (op_neD hr.units) (pe_call (ok_law_refused T) (hr.mono (by decide)) (by rfl) T.g_law_refused T.k_law_refused T.b_law_refused .nil pass0 (pa_cons (pv 8) (pa_cons pe_int (pa_cons (pe_op op_add (pe_op op_pow pe_int pe_int) pe_int) (pa_cons pe_int (pa_cons pe_int pa_nil)))))) (pe_tup (pa_cons pe_str (pa_cons (pe_op op_add (pe_op op_pow pe_int pe_int) pe_int) pa_nil))) (nomark _)) (pss_one (ps_ret pe_bl)) pss_nil)))))
    (pss_one (ps_ret (pe_cmpR (op_eqD hr.units) (pe_call (ok_law_refused T) (hr.mono (by decide)) (by rfl) T.g_law_refused T.k_law_refused T.b_law_refused .nil pass0 (pa_cons pe_str (pa_cons pe_int (pa_cons pe_int (pa_cons (pv 2) (pa_cons pe_int pa_nil)))))) (pe_tup (pa_cons pe_str (pa_cons pe_int pa_nil))) (nomark _))))))))))))))))))), ?_⟩
  walk_at "rd"
  refine ⟨by show (8 : Nat) ≤ sizeLine; decide, fun g hg => ?_⟩
  generalize hG : upd H g _ = H1
  have x1 : Evl.Ex H H1 := by rw [← hG]; exact Evl.Ex.new hg
  have lg : H1 g = some (.lst ((greatN.map fun n : Nat => (n : Int)).map V.int)) := by rw [← hG]; exact upd_same
  clear hG
  have hgt : g ≠ t := by
    obtain ⟨cs, _, ht⟩ := hpool
    intro z
    rw [z, ht] at hg
    cases hg
  have hget : ∀ j : Nat, j < 8 → ∃ n ∈ greatN, ((greatN.map fun n : Nat => (n : Int)).map V.int)[j]? = some (V.int (n : Int)) := fun j hj => by
    have hl : j < greatN.length := hj
    exact ⟨greatN[j], List.getElem_mem hl, by rw [List.getElem?_map, List.getElem?_map, List.getElem?_eq_getElem hl]; rfl⟩
  obtain ⟨far, hfar⟩ : ∃ far : Int, (10 : Int) ^ Int.toNat 9 + 1 = far := ⟨_, rfl⟩
  have hfar2 : far = 1000000001 := by rw [← hfar]; decide
  rw [hfar]
  clear hg hfar
  have hpool1 := hpool.ex x1
  walk_at "rd"
  refine ⟨t, 8, rfl, hpool1, by decide, by decide, fun j1 H2 hj1 hj2 x2 hpool2 => ?_⟩
  obtain ⟨j1, rfl⟩ := Int.eq_ofNat_of_zero_le hj1
  obtain ⟨f1, hf1, e1⟩ := hget j1 (by omega)
  have lg2 := x2 _ _ hgt lg
  refine KR.ixL (.inl (.inl lg2)) (atI_nat e1) ?_
  walk_at "rd"
  refine ⟨t, 8, rfl, hpool2, by decide, by decide, fun j2 H3 hj3 hj4 x3 hpool3 => ?_⟩
  obtain ⟨j2, rfl⟩ := Int.eq_ofNat_of_zero_le hj3
  obtain ⟨f2, hf2, e2⟩ := hget j2 (by omega)
  refine KR.ixL (.inl (.inl (x3 _ _ hgt lg2))) (atI_nat e2) ?_
  have x13 := ((ExB.of x1).trans x2).trans x3
  clear hget hj1 hj2 hj3 hj4 e1 e2 lg lg2 x1 x2 x3 hpool1 hpool2 hgt
  obtain ⟨g1, g2⟩ := great_bd hf1
  obtain ⟨g3, g4⟩ := great_bd hf2
  have p1 := pr_great hf1
  have p2 := pr_great hf2
  have ok0 : okL 0 := by constructor <;> omega
  have okf1 : okL (f1 : Int) := by constructor <;> omega
  have okf2 : okL (f2 : Int) := by constructor <;> omega
  have okn1 : okL (-(f1 : Int)) := by constructor <;> omega
  have ok6 : okL (6 * (f1 : Int)) := by constructor <;> omega
  have ok10 : okL (-10 * (f2 : Int)) := by constructor <;> omega
  have ok97 : okL 97 := by constructor <;> omega
  have hff : f1 * f2 ≤ 9973 * 9973 := Nat.mul_le_mul g2 g4
  have hff0 : 0 < f1 * f2 := Nat.mul_pos (by omega) (by omega)
  have eff : -(f1 : Int) * (f2 : Int) = -((f1 * f2 : Nat) : Int) := by rw [Int.neg_mul, Int.natCast_mul]
  have okff : okL (-(f1 : Int) * (f2 : Int)) := by rw [eff]; constructor <;> omega
  have nfar : ¬ okL far := fun z => by have := z.2; omega
  have nnfar : ¬ okL (-far) := fun z => by have := z.1; omega
  have a0 := sa.ne
  have b0 := sb.ne
  have hmin : ((if (f2 : Int) < f1 then (f2 : Int) else f1) = f1 ∨ (if (f2 : Int) < f1 then (f2 : Int) else f1) = f2) ∧ (if (f2 : Int) < f1 then (f2 : Int) else f1) ≤ f1 ∧ (if (f2 : Int) < f1 then (f2 : Int) else f1) ≤ f2 := by
    split <;> omega
  obtain ⟨hm1, hm2, hm3⟩ := hmin
  have A7 : Ans 2 (f1 : Int) b 1 "bars" "prime" (f1 : Int) := ans_min p1 p1 g1 g1 (.inl (Nat.dvd_refl _)) (.inl (Nat.dvd_refl _)) (fun q hq hd hg => by
    rcases hd with hd | hd
    · exact .inl (Pr.eq hq p1 hd)
    · have := sm_le sb hq hd
      omega) (.inl rfl) (Int.le_refl _) (Int.le_refl _) okf1 hb (by omega) b0
  have A8 : Ans 2 a (-(f1 : Int)) 1 "bars" "prime" (f1 : Int) := ans_min p1 p1 g1 g1 (.inr ⟨1, by omega⟩) (.inr ⟨1, by omega⟩) (fun q hq hd hg => by
    rcases hd with hd | hd
    · have := sm_le sa hq hd
      omega
    · have e : (-(f1 : Int)).natAbs = f1 := by omega
      rw [e] at hd
      exact .inl (Pr.eq hq p1 hd)) (.inl rfl) (Int.le_refl _) (Int.le_refl _) ha okn1 a0 (by omega)
  have A9 : Ans 2 (6 * (f1 : Int)) (-10 * (f2 : Int)) 1 "bars" "prime" (if (f2 : Int) < f1 then (f2 : Int) else f1) := ans_min p1 p2 g1 g3 (.inl ⟨6, by omega⟩) (.inr ⟨10, by omega⟩) (fun q hq hd hg => by
    have e1 : (6 * (f1 : Int)).natAbs = 6 * f1 := by omega
    have e2 : (-10 * (f2 : Int)).natAbs = 10 * f2 := by omega
    rw [e1, e2] at hd
    exact hd.imp (fun z => gr_div hq p1 hg (by decide) (by decide) z) (fun z => gr_div hq p2 hg (by decide) (by decide) z)) hm1 hm2 hm3 ok6 ok10 (by omega) (by omega)
  have A10 : Ans 2 (-(f1 : Int) * (f2 : Int)) 97 1 "bars" "prime" (if (f2 : Int) < f1 then (f2 : Int) else f1) := by
    have e1 : (-(f1 : Int) * (f2 : Int)).natAbs = f1 * f2 := by rw [eff]; omega
    refine ans_min p1 p2 g1 g3 (.inl ?_) (.inl ?_) (fun q hq hd hg => ?_) hm1 hm2 hm3 okff ok97 (by rw [eff]; omega) (by decide)
    · rw [e1]; exact Nat.dvd_mul_right _ _
    · rw [e1]; exact Nat.dvd_mul_left _ _
    · rcases hd with hd | hd
      · rw [e1] at hd
        exact (hq.mul hd).imp (fun z => Pr.eq hq p1 z) (fun z => Pr.eq hq p2 z)
      · have := Nat.le_of_dvd (by decide) hd
        have : (97 : Int).natAbs = 97 := rfl
        omega
  have sz2 : (2 : Nat) ≤ sizeLine := by decide
  have sz4 : (4 : Nat) ≤ sizeLine := by decide
  walk_at "rd"
  refine ⟨sz2, fun d1 hd1 => ?_⟩
  walk_at "rd"
  refine ⟨sz4, fun r1 hr1 => ?_⟩
  walk_at "rd"
  refine ⟨sz2, fun d2 hd2 => ?_⟩
  walk_at "rd"
  refine ⟨sz4, fun r2 hr2 => ?_⟩
  walk_at "rd"
  refine ⟨sz2, fun L hL => ?_⟩
  obtain ⟨G1, hG1⟩ : ∃ G1, upd (upd H3 d1 (.tup [.str "range", .int far])) r1 (.tup [.str "bars", .int far, .int 0, .ref d1]) = G1 := ⟨_, rfl⟩
  have hrow1 : Row G1 r1 := by rw [← hG1]; exact ⟨_, _, d1, _, _, upd_same, Evl.Ex.new hr1 _ _ upd_same, .barsA nfar⟩
  have y1 : Evl.Ex H3 G1 := by rw [← hG1]; exact (Evl.Ex.new hd1).trans (Evl.Ex.new hr1)
  rw [hG1] at hd2 hr2 hL ⊢
  obtain ⟨G2, hG2⟩ : ∃ G2, upd (upd G1 d2 (.tup [.str "range", .int (-far)])) r2 (.tup [.str "bars", .int (-far), .int far, .ref d2]) = G2 := ⟨_, rfl⟩
  have hrow2 : Row G2 r2 := by rw [← hG2]; exact ⟨_, _, d2, _, _, upd_same, Evl.Ex.new hr2 _ _ upd_same, .barsA nnfar⟩
  have y2 : Evl.Ex G1 G2 := by rw [← hG2]; exact (Evl.Ex.new hd2).trans (Evl.Ex.new hr2)
  rw [hG2] at hL ⊢
  have R : Rows H3 (upd G2 L (.lst [.ref r1, .ref r2])) L 2 := by
    refine ⟨(y1.trans y2).trans (Evl.Ex.new hL), ?_, [r1, r2], rfl, upd_same, fun z hz => ?_⟩
    · cases h3 : H3 L with
      | none => rfl
      | some o =>
        have := (y1.trans y2) _ _ h3
        rw [this] at hL
        cases hL
    · have y3 : Evl.Ex G2 (upd G2 L (.lst [.ref r1, .ref r2])) := Evl.Ex.new hL
      rcases List.mem_cons.mp hz with rfl | hz
      · exact (hrow1.ex y2).ex y3
      · rw [List.mem_singleton.mp hz]
        exact hrow2.ex y3
  generalize upd G2 L _ = N2 at R ⊢
  clear hrow1 hrow2 hG1 hG2 y1 y2 hd1 hr1 hd2 hr2 hL
  walk_at "rd"
  refine ⟨.inl ⟨rfl, R.tyv⟩, ?_⟩
  walk_at "rd"
  refine ⟨sz2, fun d hd => ?_⟩
  walk_at "rd"
  refine ⟨sz4, fun r hr => ?_⟩
  walk_at "rd"
  obtain ⟨xs, k1, k2, R3⟩ := R.more (by decide) hd hr (.barsB ha nfar)
  refine ⟨L, xs, _, rfl, rfl, k1, k2, ?_⟩
  generalize upd (upd (upd N2 d _) r _) L _ = N3 at R3 ⊢
  clear k1 k2 hd hr xs d r R
  have R := R3
  clear R3
  walk_at "rd"
  refine ⟨.inl ⟨rfl, R.tyv⟩, ?_⟩
  walk_at "rd"
  refine ⟨sz2, fun d hd => ?_⟩
  walk_at "rd"
  refine ⟨sz4, fun r hr => ?_⟩
  walk_at "rd"
  obtain ⟨xs, k1, k2, R4⟩ := R.more (by decide) hd hr (.barsB ok0 nnfar)
  refine ⟨L, xs, _, rfl, rfl, k1, k2, ?_⟩
  generalize upd (upd (upd N3 d _) r _) L _ = N4 at R4 ⊢
  clear k1 k2 hd hr xs d r R
  have R := R4
  clear R4
  walk_at "rd"
  refine ⟨.inl ⟨rfl, R.tyv⟩, ?_⟩
  walk_at "rd"
  refine ⟨sz2, fun d hd => ?_⟩
  walk_at "rd"
  refine ⟨sz4, fun r hr => ?_⟩
  walk_at "rd"
  obtain ⟨xs, k1, k2, R5⟩ := R.more (by decide) hd hr (.barsZ ok0 okf1 (.inl rfl))
  refine ⟨L, xs, _, rfl, rfl, k1, k2, ?_⟩
  generalize upd (upd (upd N4 d _) r _) L _ = N5 at R5 ⊢
  clear k1 k2 hd hr xs d r R
  have R := R5
  clear R5
  walk_at "rd"
  refine ⟨.inl ⟨rfl, R.tyv⟩, ?_⟩
  walk_at "rd"
  refine ⟨sz2, fun d hd => ?_⟩
  walk_at "rd"
  refine ⟨sz4, fun r hr => ?_⟩
  walk_at "rd"
  obtain ⟨xs, k1, k2, R6⟩ := R.more (by decide) hd hr (.barsZ okf2 ok0 (.inr rfl))
  refine ⟨L, xs, _, rfl, rfl, k1, k2, ?_⟩
  generalize upd (upd (upd N5 d _) r _) L _ = N6 at R6 ⊢
  clear k1 k2 hd hr xs d r R
  have R := R6
  clear R6
  walk_at "rd"
  refine ⟨.inl ⟨rfl, R.tyv⟩, ?_⟩
  walk_at "rd"
  refine ⟨sz2, fun d hd => ?_⟩
  walk_at "rd"
  refine ⟨sz4, fun r hr => ?_⟩
  walk_at "rd"
  obtain ⟨xs, k1, k2, R7⟩ := R.more (by decide) hd hr (A7)
  refine ⟨L, xs, _, rfl, rfl, k1, k2, ?_⟩
  generalize upd (upd (upd N6 d _) r _) L _ = N7 at R7 ⊢
  clear k1 k2 hd hr xs d r R
  have R := R7
  clear R7
  walk_at "rd"
  refine ⟨.inl ⟨rfl, R.tyv⟩, ?_⟩
  walk_at "rd"
  refine ⟨sz2, fun d hd => ?_⟩
  walk_at "rd"
  refine ⟨sz4, fun r hr => ?_⟩
  walk_at "rd"
  obtain ⟨xs, k1, k2, R8⟩ := R.more (by decide) hd hr (A8)
  refine ⟨L, xs, _, rfl, rfl, k1, k2, ?_⟩
  generalize upd (upd (upd N7 d _) r _) L _ = N8 at R8 ⊢
  clear k1 k2 hd hr xs d r R
  have R := R8
  clear R8
  walk_at "rd"
  refine ⟨.inl ⟨rfl, R.tyv⟩, ?_⟩
  walk_at "rd"
  refine ⟨sz2, fun d hd => ?_⟩
  walk_at "rd"
  refine ⟨sz4, fun r hr => ?_⟩
  walk_at "rd"
  obtain ⟨xs, k1, k2, R9⟩ := R.more (by decide) hd hr (A9)
  refine ⟨L, xs, _, rfl, rfl, k1, k2, ?_⟩
  generalize upd (upd (upd N8 d _) r _) L _ = N9 at R9 ⊢
  clear k1 k2 hd hr xs d r R
  have R := R9
  clear R9
  walk_at "rd"
  refine ⟨.inl ⟨rfl, R.tyv⟩, ?_⟩
  walk_at "rd"
  refine ⟨sz2, fun d hd => ?_⟩
  walk_at "rd"
  refine ⟨sz4, fun r hr => ?_⟩
  walk_at "rd"
  obtain ⟨xs, k1, k2, R10⟩ := R.more (by decide) hd hr (A10)
  refine ⟨L, xs, _, rfl, rfl, k1, k2, ?_⟩
  generalize upd (upd (upd N9 d _) r _) L _ = N10 at R10 ⊢
  clear k1 k2 hd hr xs d r R
  have R := R10
  clear R10
  clear A7 A8 A9 A10
  obtain ⟨xe, _, rs, _, hL, hrs⟩ := R
  have sL : SqL K N10 L (rs.map V.ref) := .inl (.inl hL)
  walk_at "rd"
  refine KR.ilistN sL (KR.fwLg (xs := rs.map V.ref) (fun k σ' H' => Evl.Ex N10 H' ∧ ∃ z8 z9 z10 z11, σ' = [some (.ref t), some (.int a), some (.int b), some (.int far), some (.ref g), some (.int f1), some (.int f2), some (.ref L), z8, z9, z10, z11]) ⟨Evl.Ex.refl _, none, none, none, none, rfl⟩ ?_ ?_ ?_)
  · rintro k σ' H' _ ⟨e, _⟩
    exact Evl.ex_l e sL
  · rintro k x σ' H' hx ⟨e, z8, z9, z10, z11, rfl⟩
    rw [List.getElem?_map] at hx
    obtain ⟨r, hr, rfl⟩ := Option.map_eq_some_iff.mp hx
    obtain ⟨x, y, d, tag, v, h1, h2, h3⟩ := (hrs r (List.mem_of_getElem? hr)).ex e
    refine KR.gtup4 (.inl (.inl h1)) rfl ?_
    walk_at "rd"
    refine ⟨"bars", 2, x, y, 1, tag, v, rfl, h3, fun u H2 x2 hu => ?_⟩
    walk_at "rd"
    refine ⟨.tuple [.str tag, .int v], .tuple [.str tag, .int v], .tup (.inl (.inl hu)) (.cons (.str _) (.cons (.int _) .nil)), .tup (.inl (.inl (x2 _ _ h2))) (.cons (.str _) (.cons (.int _) .nil)), shaped_pair _ _ (tag_ok h3), shaped_pair _ _ (tag_ok h3), ?_⟩
    rw [eqv_same]
    walk_at "rd"
    exact ⟨e.trans x2, _, _, _, _, rfl⟩
  rintro σ' N11 ⟨e11, z8, z9, z10, z11, rfl⟩
  have x11 := x13.trans (ExB.of (xe.trans e11))
  have hpool11 := (hpool3.ex xe).ex e11
  clear hrs hL sL xe e11 hpool3 x13
  have n91 : (91 : Int) ∉ primesL := by decide
  have i2 : (2 : Int) ∈ primesL := by decide
  have okAa : okA a := by obtain ⟨c1, c2⟩ := ha; constructor <;> omega
  have okAb : okA b := by obtain ⟨c1, c2⟩ := hb; constructor <;> omega
  have okA0 : okA 0 := by constructor <;> omega
  have nA : ¬ okA (10 ^ Int.toNat 12 + 1) := fun z => by
    have := z.2
    have e : (10 : Int) ^ Int.toNat 12 = 1000000000000 := by decide
    omega
  obtain ⟨w12, hw12⟩ : ∃ w12 : Int, (10 : Int) ^ Int.toNat 12 + 1 = w12 := ⟨_, rfl⟩
  rw [hw12] at nA
  walk_at "rd"
  refine ⟨sz2, fun W hW => ?_⟩
  generalize hG : upd N11 W _ = N12
  have y12 : Evl.Ex N11 N12 := by rw [← hG]; exact Evl.Ex.new hW
  have lW : N12 W = some (.lst (([("symbol" : Str), ("point" : Str)] : List Str).map V.str)) := by rw [← hG]; exact upd_same
  clear hG hW
  have sW : SqL K N12 W (([("symbol" : Str), ("point" : Str)] : List Str).map V.str) := .inl (.inl lW)
  refine KR.ilistN sW (KR.fwL (xs := ([("symbol" : Str), ("point" : Str)] : List Str).map V.str) (fun k σ' H' => Evl.Ex N12 H' ∧ ∃ z8, σ' = [some (.ref t), some (.int a), some (.int b), some (.int far), some (.ref g), some (.int f1), some (.int f2), some (.ref L), z8, z9, z10, z11]) ⟨Evl.Ex.refl _, _, rfl⟩ ?_ ?_ ?_)
  · rintro k σ' H' _ ⟨e, _⟩
    exact Evl.ex_l e sW
  · rintro k x σ' H' hx ⟨e, z8', rfl⟩
    rw [List.getElem?_map] at hx
    obtain ⟨wd, hwd, rfl⟩ := Option.map_eq_some_iff.mp hx
    have hw : wd = "symbol" ∨ wd = "point" := by
      have := List.mem_of_getElem? hwd
      simpa using this
    walk_at "rd"
    refine ⟨wd, 91, a, b, 1, "prime", 91, rfl, .badp hw n91, fun u1 H1 x1 hu1 => ?_⟩
    walk_at "rd"
    refine ⟨sz2, fun c1 hc1 => ?_⟩
    refine ⟨.tuple [.str "prime", .int 91], .tuple [.str "prime", .int 91], .tup (.inl (.inl (Evl.Ex.new hc1 _ _ hu1))) (.cons (.str _) (.cons (.int _) .nil)), .tup (.inl (.inl upd_same)) (.cons (.str _) (.cons (.int _) .nil)), shaped_pair _ _, shaped_pair _ _, ?_⟩
    rw [eqv_same]
    walk_at "rd"
    refine ⟨wd, 2, a, 0, 1, "zero", 0, rfl, .zer hw i2 okAa okA0 (by decide) (.inr rfl), fun u2 H2 x2 hu2 => ?_⟩
    walk_at "rd"
    refine ⟨sz2, fun c2 hc2 => ?_⟩
    refine ⟨.tuple [.str "zero", .int 0], .tuple [.str "zero", .int 0], .tup (.inl (.inl (Evl.Ex.new hc2 _ _ hu2))) (.cons (.str _) (.cons (.int _) .nil)), .tup (.inl (.inl upd_same)) (.cons (.str _) (.cons (.int _) .nil)), shaped_pair _ _, shaped_pair _ _, ?_⟩
    rw [eqv_same]
    walk_at "rd"
    rw [hw12]
    refine ⟨wd, 2, w12, 0, 61, "range", w12, rfl, .badA hw i2 nA, fun u3 H4 x4 hu3 => ?_⟩
    walk_at "rd"
    refine ⟨sz2, fun c3 hc3 => ?_⟩
    rw [hw12]
    refine ⟨.tuple [.str "range", .int w12], .tuple [.str "range", .int w12], .tup (.inl (.inl (Evl.Ex.new hc3 _ _ hu3))) (.cons (.str _) (.cons (.int _) .nil)), .tup (.inl (.inl upd_same)) (.cons (.str _) (.cons (.int _) .nil)), shaped_pair _ _, shaped_pair _ _, ?_⟩
    rw [eqv_same]
    walk_at "rd"
    exact ⟨((((((e.trans x1).trans (Evl.Ex.new hc1)).trans x2).trans (Evl.Ex.new hc2)).trans x4).trans (Evl.Ex.new hc3)), _, rfl⟩
  rintro σ' N13 ⟨e13, z8', rfl⟩
  walk_at "rd"
  refine ⟨"point", 2, 0, b, 61, "range", 61, rfl, .badm i2 okA0 okAb (by decide), fun u H2 x2 hu => ?_⟩
  walk_at "rd"
  refine ⟨sz2, fun c hc => ?_⟩
  refine ⟨.tuple [.str "range", .int 61], .tuple [.str "range", .int 61], .tup (.inl (.inl (Evl.Ex.new hc _ _ hu))) (.cons (.str _) (.cons (.int _) .nil)), .tup (.inl (.inl upd_same)) (.cons (.str _) (.cons (.int _) .nil)), shaped_pair _ _, shaped_pair _ _, ?_⟩
  rw [eqv_same]
  have y := ((y12.trans e13).trans x2).trans (Evl.Ex.new (o := .tup [.str "range", .int 61]) hc)
  exact q _ (x11.trans (ExB.of y)) (hpool11.ex y)
end
end K9
namespace K9
open PySem PySem.Spec PyProof.Rows L2 K7
local macro_rules | `(tactic| walk_at "rc") => `(tactic| first
  | assumption
  | (show (0 : Int) < _; omega)
  | (show (0 : Int) < _ ∧ _ < (1073741824 : Int); exact ⟨by omega, by omega⟩)
  | (show (-(2 ^ 64 : Int) < _ ∧ _ < (2 ^ 64 : Int)) ∨ _; exact .inl ⟨by omega, by omega⟩)
  | (show _ ∨ (-(2 ^ 64 : Int) < _ ∧ _ < (2 ^ 64 : Int)); exact .inr ⟨by omega, by omega⟩)
  | (show (0 : Int) ≤ _ ∧ _ ≤ (1000000 : Int) ∧ _ < 2 ^ 64; exact ⟨by decide, by decide, by decide⟩))
local macro_rules | `(tactic| walk_at "rd") => `(tactic| repeat (first
  | with_reducible apply KR.seq
  | with_reducible apply KR.asg
  | with_reducible apply KR.drop
  | with_reducible apply KR.ret
  | with_reducible apply KR.retN
  | with_reducible apply KR.next
  | with_reducible apply KR.ifs
  | with_reducible refine KR.var rfl ?_
  | with_reducible refine L2.iteT ?_
  | with_reducible refine L2.iteF ?_
  | with_reducible refine KR.iteNF ?_
  | with_reducible refine KR.iteNT ?_
  | with_reducible apply KR.con
  | with_reducible apply KR.op
  | with_reducible apply KR.opI0
  | ((with_reducible refine KR.opI ?rc ?_); (case rc => walk_at "rc"))
  | with_reducible apply KR.un
  | with_reducible apply KR.unI
  | with_reducible apply KR.eqI
  | with_reducible apply KR.neI
  | with_reducible apply KR.test
  | with_reducible apply KR.tb'
  | with_reducible apply KR.exbl
  | with_reducible apply KR.and'
  | with_reducible apply KR.or'
  | with_reducible apply KR.not'
  | with_reducible apply KR.chain
  | with_reducible apply KR.call
  | with_reducible apply KR.callS
  | with_reducible apply KR.make
  | with_reducible apply KR.bm
  | with_reducible apply KR.errF
  | with_reducible apply KR.cons
  | with_reducible apply KR.nil
  | with_reducible apply KR.cb
  | with_reducible apply KR.cInt1
  | with_reducible apply KR.cI1
  | with_reducible apply KR.cI2
  | with_reducible apply KR.isi_ii
  | with_reducible apply KR.isi_ib
  | with_reducible apply KR.bits
  | with_reducible apply KR.exint
  | with_reducible apply KR.ifx
  | with_reducible refine KR.aug rfl ?_
  | with_reducible apply KR.ipI
  | with_reducible apply KR.for'
  | with_reducible apply KR.rng1
  | with_reducible apply KR.rng2
  | with_reducible apply KR.ilist
  | with_reducible apply KR.itup
  | with_reducible apply KR.tup
  | with_reducible apply KR.lst
  | with_reducible apply KR.andV
  | with_reducible apply KR.orV
  | with_reducible apply KR.notV
  | with_reducible apply KR.asgG
  | with_reducible apply KR.sub
  | with_reducible apply KR.fld
  | with_reducible apply KR.prop
  | with_reducible apply KR.meth
  | with_reducible apply KR.par
  | with_reducible apply KR.parN
  | with_reducible apply KR.raise1
  | with_reducible apply KR.raise0
  | with_reducible apply KR.exv
  | with_reducible apply KR.lc
  | with_reducible apply KR.ienT
  | with_reducible apply KR.sfld
  | with_reducible apply KR.sl
  | with_reducible apply KR.part
  | with_reducible apply KR.nopart
  | with_reducible apply KR.isNo
  | with_reducible refine KR.nnT ?_
  | with_reducible refine KR.niF ?_
  | with_reducible refine KR.nrF ?_
  | with_reducible refine KR.mnT ?_
  | with_reducible refine KR.miF ?_
  | with_reducible refine KR.mrF ?_))
theorem Pool.ne {H : Hp} {t L : Addr} (h : Pool H t) (hL : H L = none) : L ≠ t := by
  obtain ⟨cs, _, ht⟩ := h
  intro z
  rw [z, ht] at hL
  cases hL
section
variable {P : Program} {w : World} {K : PySem.W.Frag} {mg : Str → Option Value} {base : Heap} {A : Ad}
variable {H : Hp} {Q : VK} {E : XK}
theorem tell {a b : Int} (ha : okL a) (hb : okL b) (a0 : a ≠ 0) (b0 : b ≠ 0) (hs : Small a b) (q : ∀ L H2, H L = none → Evl.Ex H H2 → H2 L = some (.lst ((barsL a b).map V.int)) → Q (.ref L) H2) : sp_conic_bars A K [.int a, .int b] H Q E := by
  refine ⟨a, b, rfl, fun z => absurd ha z, fun _ => ⟨fun z => absurd hb z, fun _ => ⟨fun z => (z.elim a0 b0).elim, fun _ _ => ⟨fun f hf hf97 _ _ _ => ?_, fun _ => q⟩⟩⟩⟩
  have := small_of.mp hs f hf
  omega
def sp_law (K : PySem.W.Frag) : Sp := fun vs H Q _ => ∃ (a : Addr) (ns : List Int), vs = [.ref a] ∧ SqL K H a (ns.map V.int) ∧ ∀ H2, Q (.bl true) H2
theorem ok_law (T : Txt P K mg A) : FnOk P w K mg base CX0 9 A.a_law A.d_law ["script"] (sp_law K) := by
  refine T.F_law.ok sc_law (fun vs H Q E h => ?_) (fun cdv Ar outer s H vs Q E hr h => ?_)
  · obtain ⟨_, _, rfl, _⟩ := h; rfl
  have nd := sc_law.nd
  obtain ⟨a0, ns, rfl, hs, q⟩ := h
  refine ⟨_, (pss_cons (ps_set (i := 1) nd rfl (.inl rfl) (pe_call (ok_law_cells T) (hr.mono (by decide)) (by rfl) T.g_law_cells T.k_law_cells T.b_law_cells .nil pass0 (pa_cons (pv 0) pa_nil)))
    (pss_cons (ps_set (i := 2) nd rfl (.inl rfl) (pe_cmpR op_eq (pe_call (ok_law_draw T) (hr.mono (by decide)) (by rfl) T.g_law_draw T.k_law_draw T.b_law_draw .nil pass0 (pa_cons (pv 1) (pa_cons pe_int pa_nil))) pe_int (nomark _)))
    (pss_cons (ps_set (i := 3) nd rfl (.inr rfl) (pe_call (ok_law_number T) (hr.mono (by decide)) (by rfl) T.g_law_number T.k_law_number T.b_law_number .nil pass0 (pa_cons (pv 1) (pa_cons (pv 2) pa_nil))))
    (pss_cons (ps_set (i := 4) nd rfl (.inr rfl) (pe_call (ok_law_number T) (hr.mono (by decide)) (by rfl) T.g_law_number T.k_law_number T.b_law_number .nil pass0 (pa_cons (pv 1) (pa_cons (pv 2) pa_nil))))
    (pss_cons (ps_set (i := 5) nd rfl (.inl rfl) (pe_call (ok_law_bars T) (hr.mono (by decide)) (by rfl) T.g_law_bars T.k_law_bars T.b_law_bars .nil pass0 (pa_cons (pv 3) (pa_cons (pv 4) pa_nil))))
    (pss_cons (ps_set (i := 6) nd rfl (.inl rfl) (pe_call (ok_conic_bars T) (hr.mono (by decide)) (by rfl) T.g_conic_bars T.k_conic_bars T.b_conic_bars .nil passN (pa_cons (pv 3) (pa_cons (pv 4) pa_nil))))
    (pss_cons (ps_if (PW.pt (pw_or (pt_not (pt_val (pe_call (ok_law_same_list T) (hr.mono (by decide)) (by rfl) T.g_law_same_list T.k_law_same_list T.b_law_same_list .nil pass0 (pa_cons (pv 6) (pa_cons (pv 5) pa_nil))))) (pw_or1 (pt_cmpR op_ne (pe_op op_mod (pe_callTy call_int1 (by rfl) T.n_int (by decide +kernel) (pa_cons (pe_callB call_len_seq (by rfl) T.n_len PySem.boot_len (pa_cons (pv 6) pa_nil)) pa_nil)) pe_int) pe_int (nomark _))))) (pss_one (ps_ret pe_bl)) pss_nil)
    (pss_cons (ps_expr (pe_bm PySem.F.plainAttrs_list PySem.F.slot_list_append PySem.F.type_list_append mt_append (pv 6) (pa_cons pe_int pa_nil)))
    (pss_cons (ps_setLc (i := 8) (own := [("p", 7)]) (g := gName 7) rfl nd rfl rfl (sw_true rfl rfl rfl (by decide +kernel)) (pi_list (pe_call0 (ok_law_primes T) (hr.mono (by decide)) (by rfl) T.g_law_primes T.k_law_primes T.b_law_primes .nil pass0)) (blkOk_by (own := [("p", 7)]) (N := ["script", "pool", "great", "a", "b", "bars", "told", "p", "primes", "square"]) (sc := defScope s_law) (by decide +kernel)) (fun _ _ _ _ _ => pg_name (i := 7) nd rfl (Or.inl rfl)) (fun _ _ _ _ _ => (pts_one (PW.pt (pw_or (pt_cmpR op_eq (pv 7) pe_int (nomark _)) (pw_or1 (pt_cmpR op_eq (pe_op op_mod (pe_callTy call_int1 (by rfl) T.n_int (by decide +kernel) (pa_cons (pe_op op_mul (pv 3) (pv 4)) pa_nil)) (pv 7)) pe_int (nomark _))))))) (fun _ _ _ _ _ => (pv 7)))
    (pss_cons (ps_for PassesOwn.never rfl (pi_list (pe_op op_cat (pv 8) (pe_lst (pa_cons (pe_ix ix_list (pe_call0 (ok_law_primes T) (hr.mono (by decide)) (by rfl) T.g_law_primes T.k_law_primes T.b_law_primes .nil pass0) (pe_call (ok_law_draw T) (hr.mono (by decide)) (by rfl) T.g_law_draw T.k_law_draw T.b_law_draw .nil pass0 (pa_cons (pv 1) (pa_cons pe_int pa_nil))) (fun _ _ => rfl)) pa_nil)))) (pg_name (i := 7) nd rfl (Or.inl rfl)) (pss_one (ps_if (pt_not (pt_val (pe_call (ok_law_prime_right T) (hr.mono (by decide)) (by rfl) T.g_law_prime_right T.k_law_prime_right T.b_law_prime_right .nil pass0 (pa_cons (pv 1) (pa_cons (pv 7) (pa_cons (pv 3) (pa_cons (pv 4) pa_nil))))))) (pss_one (ps_ret pe_bl)) pss_nil)))
    (pss_cons (ps_if (pt_not (pt_val (pe_call (ok_law_same_list T) (hr.mono (by decide)) (by rfl) T.g_law_same_list T.k_law_same_list T.b_law_same_list .nil pass0 (pa_cons (pe_call (ok_conic_bars T) (hr.mono (by decide)) (by rfl) T.g_conic_bars T.k_conic_bars T.b_conic_bars .nil passN (pa_cons (pv 4) (pa_cons (pv 3) pa_nil))) (pa_cons (pv 5) pa_nil))))) (pss_one (ps_ret pe_bl)) pss_nil)
    (pss_cons (ps_if (pt_not (pt_val (pe_call (ok_law_same_list T) (hr.mono (by decide)) (by rfl) T.g_law_same_list T.k_law_same_list T.b_law_same_list .nil pass0 (pa_cons (pe_call (ok_conic_bars T) (hr.mono (by decide)) (by rfl) T.g_conic_bars T.k_conic_bars T.b_conic_bars .nil passN (pa_cons (pv 3) (pa_cons (pe_un un_neg (pv 3)) pa_nil))) (pa_cons (pe_lst pa_nil) pa_nil))))) (pss_one (ps_ret pe_bl)) pss_nil)
    (pss_cons (ps_set (i := 9) nd rfl (.inl rfl) (pe_call (ok_law_power T) (hr.mono (by decide)) (by rfl) T.g_law_power T.k_law_power T.b_law_power .nil pass0 (pa_cons (pe_ix ix_list (pe_call0 (ok_law_primes T) (hr.mono (by decide)) (by rfl) T.g_law_primes T.k_law_primes T.b_law_primes .nil pass0) (pe_call (ok_law_draw T) (hr.mono (by decide)) (by rfl) T.g_law_draw T.k_law_draw T.b_law_draw .nil pass0 (pa_cons (pv 1) (pa_cons pe_int pa_nil))) (fun _ _ => rfl)) (pa_cons pe_int pa_nil))))
    (Evl.pss_cut (ps_if (pt_chain op_le op_le (pe_un un_neg (pe_op op_pow pe_int pe_int)) (pe_op op_mul (pv 3) (pv 9)) (pe_op op_pow pe_int pe_int)) (pss_one (ps_if (pt_not (pt_val (pe_call (ok_law_same_list T) (hr.mono (by decide)) (by rfl) T.g_law_same_list T.k_law_same_list T.b_law_same_list .nil pass0 (pa_cons (pe_call (ok_conic_bars T) (hr.mono (by decide)) (by rfl) T.g_conic_bars T.k_conic_bars T.b_conic_bars .nil passN (pa_cons (pe_op op_mul (pv 3) (pv 9)) (pa_cons (pv 4) pa_nil))) (pa_cons (pv 5) pa_nil))))) (pss_one (ps_ret pe_bl)) pss_nil)) pss_nil)
    (pss_cons (ps_if (pt_not (pt_val (pe_call (ok_law_refusals_right T) (hr.mono (by decide)) (by rfl) T.g_law_refusals_right T.k_law_refusals_right T.b_law_refusals_right .nil pass0 (pa_cons (pv 1) (pa_cons (pv 3) (pa_cons (pv 4) pa_nil)))))) (pss_one (ps_ret pe_bl)) pss_nil)
    (pss_one (ps_ret (pe_call (ok_law_same_list T) (hr.mono (by decide)) (by rfl) T.g_law_same_list T.k_law_same_list T.b_law_same_list .nil pass0 (pa_cons (pe_call (ok_conic_bars T) (hr.mono (by decide)) (by rfl) T.g_conic_bars T.k_conic_bars T.b_conic_bars .nil passN (pa_cons (pv 3) (pa_cons (pv 4) pa_nil))) (pa_cons (pv 5) pa_nil)))))))))))))))))))), ?_⟩
  walk_at "rd"
  refine ⟨a0, ns, rfl, hs, fun t H1 hp1 => ?_⟩
  clear hs
  walk_at "rd"
  refine ⟨t, _, rfl, hp1, by decide, by decide, fun v H2 hv0 hv1 x2 hp2 => ?_⟩
  clear x2 hp1
  walk_at "rd"
  generalize decide (v = 7) = gr
  clear hv0 hv1
  refine ⟨t, gr, rfl, hp2, fun a H3 sa ha x3 hp3 => ?_⟩
  walk_at "rd"
  refine ⟨t, gr, rfl, hp3, fun b H4 sb hb x4 hp4 => ?_⟩
  clear x3 x4 hp2 hp3
  have n0 := sa.ne
  have m0 := sb.ne
  have hsm := small_sm sa sb
  walk_at "rd"
  refine ⟨a, b, rfl, ha, hb, n0, m0, fun B H5 hB x5 lB => ?_⟩
  have hBt : B ≠ t := hp4.ne hB
  clear hB
  have hp5 := hp4.ex x5
  clear x5 hp4
  walk_at "rd"
  refine tell ha hb n0 m0 hsm fun L H6 hL x6 lL => ?_
  have lB6 := x6 _ _ lB
  have hp6 := hp5.ex x6
  have hLt := hp5.ne hL
  have hLB : B ≠ L := fun z => by
    rw [z, hL] at lB
    cases lB
  walk_at "rd"
  refine ⟨L, B, _, rfl, lL, lB6, ?_⟩
  walk_at "rd"
  refine ⟨L, _, rfl, .inl (.inl (.inl lL)), ?_⟩
  rw [List.length_map]
  walk_at "rd"
  have hev : ((barsL a b).length : Int) % 2 = 0 := by
    have := bars_even sa sb
    omega
  refine KR.iteND (fun z => absurd hev z) (fun _ => ?_)
  walk_at "rd"
  refine ⟨.inl ⟨rfl, _, .inl (.inl lL)⟩, ?_⟩
  walk_at "rd"
  have hbl : (barsL a b).length ≤ 26 := by
    unfold barsL
    rw [List.length_append]
    have h1 := List.length_filter_le (bad a b) primesI
    have h2 : primesI.length = 25 := by decide
    have h3 : (if a < 0 ∧ b < 0 then [0] else [] : List Int).length ≤ 1 := by split <;> decide
    omega
  refine ⟨L, _, _, rfl, rfl, lL, by rw [List.length_map, sizeLine_eq]; omega, ?_⟩
  generalize hG : upd H6 L _ = H7
  have lB7 : H7 B = some (.lst ((barsL a b).map V.int)) := by rw [← hG, upd_ne hLB]; exact lB6
  have hp7 : Pool H7 t := by
    obtain ⟨cs, h1, h2⟩ := hp6
    exact ⟨cs, h1, by rw [← hG, upd_ne (Ne.symm hLt)]; exact h2⟩
  clear hG hp6 lB6 lL hLt hLB x6 hL lB hp5
  walk_at "rd"
  refine ⟨(), rfl, fun P0 hP0 => ?_⟩
  generalize hG : upd H7 P0 _ = H8
  have x8 : Evl.Ex H7 H8 := by rw [← hG]; exact Evl.Ex.new hP0
  have l0 : H8 P0 = some (.lst (primesI.map V.int)) := by rw [← hG, primesL_I]; exact upd_same
  clear hG
  have hlen : primesI.length = 25 := by decide
  have hpI : ∀ x ∈ primesI, 2 ≤ x ∧ x < 100 ∧ x.toNat ∈ primesN := by decide
  refine ⟨P0, rfl, ⟨_, .inl (.inl l0)⟩, KR.lwL (xs := primesI.map V.int) (fun k => decide (primesI.getD k 0 = 2) || decide (a * b % primesI.getD k 0 = 0)) (fun k => .int (primesI.getD k 0)) (.inl (.inl l0)) (by rw [List.length_map, hlen]; decide) (fun _ => rfl) ?_ ?_ ?_⟩
  · intro k v H2 e2 hv H3 e3 Q' q'
    have hm : primesI.getD k 0 ∈ primesI := by
      rw [List.getElem?_map] at hv
      obtain ⟨w, hw, _⟩ := Option.map_eq_some_iff.mp hv
      rw [List.getD_eq_getElem?_getD, hw]
      exact List.mem_of_getElem? hw
    rw [at_getD hv]
    have hpos := (hpI _ hm).1
    obtain ⟨c1, c2⟩ := ha
    generalize primesI.getD k 0 = p at *
    walk_at "rd"
    refine KR.iteD (fun c => ?_) (fun c => ?_)
    · rw [decide_eq_true c, Bool.true_or] at q'
      exact q' H3 (Evl.Ex.refl _)
    · rw [decide_eq_false c, Bool.false_or] at q'
      walk_at "rd"
      exact q' H3 (Evl.Ex.refl _)
  · intro k v H2 e2 hv hf H3 e3 Q' q'
    rw [at_getD hv]
    walk_at "rd"
    exact q' H3 (Evl.Ex.refl _)
  intro T1 H9 hT1 e9 lT
  rw [List.length_map, giv_whole (fun x => decide (x = 2) || decide (a * b % x = 0)) (fun x => V.int x)] at lT
  generalize hte : primesI.filter (fun x => decide (x = 2) || decide (a * b % x = 0)) = te at lT
  have hte_len : te.length ≤ 25 := by
    rw [← hte, ← hlen]
    exact List.length_filter_le _ _
  have hte_mem : ∀ x ∈ te, x ∈ primesI := fun x hx => by
    rw [← hte] at hx
    exact (List.mem_filter.mp hx).1
  have lB9 := e9 _ _ (x8 _ _ lB7)
  have hp9 := (hp7.ex x8).ex e9
  have hT1t := (hp7.ex x8).ne hT1
  clear hte l0 e9 x8 hP0 hp7 lB7 hT1
  walk_at "rd"
  refine ⟨(), rfl, fun P1 hP1 => ?_⟩
  have hP1t := hp9.ne hP1
  walk_at "rd"
  refine ⟨t, 25, rfl, hp9.ex (Evl.Ex.new hP1), by decide, by decide, fun j H10 hj0 hj1 x10 hp10 => ?_⟩
  obtain ⟨j, rfl⟩ := Int.eq_ofNat_of_zero_le hj0
  obtain ⟨p1, e1, hp1L, _, _⟩ := prime_get (k := j) (by omega)
  refine KR.ixL (.inl (.inl (x10 _ _ hP1t upd_same))) (atI_nat e1) ?_
  have lB10 := x10 _ _ hBt (Evl.Ex.new hP1 _ _ lB9)
  have lT10 := x10 _ _ hT1t (Evl.Ex.new hP1 _ _ lT)
  walk_at "rd"
  refine ⟨by show (1 : Nat) ≤ sizeLine; decide, fun c hc => ?_⟩
  refine ⟨T1, c, _, _, rfl, rfl, Evl.Ex.new hc _ _ lT10, upd_same, by rw [List.length_map, sizeLine_eq]; show _ + 1 ≤ _; omega, fun M hM => ?_⟩
  have ev : te.map V.int ++ [V.int p1] = (te ++ [p1]).map V.int := by rw [List.map_append]; rfl
  rw [ev]
  have y11 : Evl.Ex H10 (upd (upd H10 c (.lst [.int p1])) M (.lst ((te ++ [p1]).map V.int))) := (Evl.Ex.new hc).trans (Evl.Ex.new hM)
  have hMt : M ≠ t := (hp10.ex (Evl.Ex.new hc)).ne hM
  generalize hG : upd (upd H10 c _) M _ = H11 at y11 ⊢
  have lM : H11 M = some (.lst ((te ++ [p1]).map V.int)) := by rw [← hG]; exact upd_same
  have hall : ∀ x ∈ te ++ [p1], ∃ q ∈ primesN, x = (q : Int) := fun x hx => by
    rcases List.mem_append.mp hx with h | h
    · exact mem_primesI.mp (hte_mem x h)
    · rw [List.mem_singleton.mp h]
      exact mem_primesI.mp (primesL_I ▸ hp1L)
  generalize te ++ [p1] = tl at lM hall
  have lB11 := y11 _ _ lB10
  have hp11 := hp10.ex y11
  clear hG hc hM ev y11 lT10 lB10 lT hp9 hp10 hT1t hP1t hP1 lB9 x10 hte_mem hte_len
  refine KR.ilistN (.inl (.inl lM)) (KR.fwL (xs := tl.map V.int) (fun k σ' H' => ExB t H11 H' ∧ Pool H' t ∧ ∃ z, σ' = [some (.ref a0), some (.ref t), some (.bl gr), some (.int a), some (.int b), some (.ref B), some (.ref L), z, some (.ref T1), none]) ⟨ExB.refl _ _, hp11, _, rfl⟩ ?_ ?_ ?_)
  · rintro k σ' H' _ ⟨e, _, _⟩
    exact .inl (.inl (e _ _ hMt lM))
  · rintro k x σ' H' hx ⟨e, hp', z, rfl⟩
    rw [List.getElem?_map] at hx
    obtain ⟨y, hy, rfl⟩ := Option.map_eq_some_iff.mp hx
    obtain ⟨p, hpN, rfl⟩ := hall y (List.mem_of_getElem? hy)
    walk_at "rd"
    refine ⟨t, p, a, b, rfl, hp', hpN, ha, hb, n0, m0, fun H12 x12 hp12 => ?_⟩
    walk_at "rd"
    exact ⟨e.trans x12, hp12, _, rfl⟩
  rintro σ' H12 ⟨e12, hp12, z, rfl⟩
  have lB12 := e12 _ _ hBt lB11
  clear e12 lM hall hp11 lB11 hMt
  walk_at "rd"
  refine tell hb ha m0 n0 (small_sm sb sa) fun L2' H13 _ x13 l13 => ?_
  rw [bars_swap] at l13
  walk_at "rd"
  refine ⟨L2', B, _, rfl, l13, x13 _ _ lB12, ?_⟩
  walk_at "rd"
  have okn : okL (-a) := by obtain ⟨c1, c2⟩ := ha; constructor <;> omega
  refine tell ha okn n0 (by omega) (small_sm sa (sm_neg' sa)) fun L3' H14 _ x14 l14 => ?_
  rw [bars_none n0] at l14
  walk_at "rd"
  refine ⟨Nat.zero_le _, fun L4 hL4 => ?_⟩
  walk_at "rd"
  refine ⟨L3', L4, [], rfl, Evl.Ex.new hL4 _ _ l14, upd_same, ?_⟩
  have y14 := (x13.trans x14).trans (Evl.Ex.new (o := .lst []) hL4)
  have lB15 := y14 _ _ lB12
  have hp15 := hp12.ex y14
  generalize upd H14 L4 _ = H15 at y14 lB15 hp15 ⊢
  clear y14 l14 l13 hL4 x13 x14 lB12 hp12
  walk_at "rd"
  refine ⟨(), rfl, fun P2 hP2 => ?_⟩
  have hP2t := hp15.ne hP2
  walk_at "rd"
  refine ⟨t, 25, rfl, hp15.ex (Evl.Ex.new hP2), by decide, by decide, fun j2 H16 hj2 hj3 x16 hp16 => ?_⟩
  obtain ⟨j2, rfl⟩ := Int.eq_ofNat_of_zero_le hj2
  obtain ⟨p2, e2, hp2L, _, _⟩ := prime_get (k := j2) (by omega)
  refine KR.ixL (.inl (.inl (x16 _ _ hP2t upd_same))) (atI_nat e2) ?_
  have lB16 := x16 _ _ hBt (Evl.Ex.new hP2 _ _ lB15)
  obtain ⟨q2, hq2, rfl⟩ := mem_primesI.mp (primesL_I ▸ hp2L)
  obtain ⟨_, hq22, hq29⟩ := of_pr hq2
  clear x16 hP2t hP2 hp15 lB15 e2
  walk_at "rd"
  refine ⟨q2, 2, rfl, by omega, by decide, ?_⟩
  have esq : (q2 : Int) ^ 2 = (q2 : Int) * q2 := by rw [Int.pow_succ, Int.pow_succ, Int.pow_zero, Int.one_mul]
  rw [esq]
  have e9 : (10 : Int) ^ Int.toNat 9 = 1000000000 := by decide
  walk_at "rd"
  refine KR.cut (Mid := fun σ' H' => σ' = [some (.ref a0), some (.ref t), some (.bl gr), some (.int a), some (.int b), some (.ref B), some (.ref L), z, some (.ref T1), some (.int ((q2 : Int) * q2))] ∧ Evl.Ex H16 H') ?_ ?_
  · have ha2 := ha
    obtain ⟨c1, c2⟩ := ha2
    walk_at "rd"
    rw [e9]
    have okq : q2 * q2 ≤ 99 * 99 := Nat.mul_le_mul (by omega) (by omega)
    have okq2 : ((q2 * q2 : Nat) : Int) = (q2 : Int) * q2 := Int.natCast_mul _ _
    have hq0 : (q2 : Int) * q2 ≠ 0 := by
      have : 0 < q2 * q2 := Nat.mul_pos (by omega) (by omega)
      omega
    have ssq : Sm ((q2 : Int) * q2) := by
      have : ∀ x ∈ primesL, x ∈ gens := by decide
      have g := this _ hp2L
      have e1 : (q2 : Int) * q2 = q2 * (q2 * 1) := by rw [Int.mul_one]
      rw [e1]
      exact .mul g (.mul g .one)
    refine KR.iteD (fun k1 => ?_) (fun k1 => ?_)
    · walk_at "rd"
      rw [e9]
      refine KR.iteD (fun k2 => ?_) (fun k2 => ?_)
      · walk_at "rd"
        refine tell (a := a * ((q2 : Int) * q2)) ⟨by omega, by omega⟩ hb (Int.mul_ne_zero n0 hq0) m0 (small_sm (sm_mul sa ssq) sb) fun L6 H17 _ x17 l17 => ?_
        rw [bars_square n0 m0 hq2] at l17
        walk_at "rd"
        refine ⟨L6, B, _, rfl, l17, x17 _ _ lB16, ?_⟩
        walk_at "rd"
        exact ⟨rfl, x17⟩
      · walk_at "rd"
        exact ⟨rfl, Evl.Ex.refl _⟩
    · walk_at "rd"
      exact ⟨rfl, Evl.Ex.refl _⟩
  rintro σ' H17 ⟨rfl, e17⟩
  have lB17 := e17 _ _ lB16
  have hp17 := hp16.ex e17
  clear e17 lB16 hp16
  walk_at "rd"
  refine ⟨t, a, b, rfl, hp17, ha, hb, sa, sb, fun H18 x18 hp18 => ?_⟩
  have lB18 := x18 _ _ hBt lB17
  walk_at "rd"
  refine tell ha hb n0 m0 hsm fun L5 H19 _ x19 l19 => ?_
  walk_at "rd"
  exact ⟨L5, B, _, rfl, l19, x19 _ _ lB18, q _⟩
end
end K9
namespace PySem
namespace KX
open PySem.W PySem.Calls PyProof.Rows PySem.HandSPX
theorem err0_mk {prog : Program} {K : Frag} {mg : Str → Option Value} {h : Heap} {nm : Str} {C fI cc cda : Addr} (X : K.In h) (G : h.Ns mainGlobals mg)
    {nm' q qual msg cf : Str} {N : Addr} {bs bm sub : List Value} {sn : List Str} {ab : Bool} {col : Option Bool} {dd : Option Addr} {k0 k1 k2 k3 k5 : Option Value}
    {oc doc pm ct cl ccl : Value} {od an cld cdd : Option Addr} {osl csl ccs : Array (Option Value)} {vs : Array Value} {tf : Tok} {k : Nat} {p1 q0 q1 q2 q3 q4 q5 : Pos}
    (gC : nsIn K mainGlobals nm = some (some (.ref C))) (xc : K.lookup C = some (excClassObj nm' q C N bs bm true sn sub ab col dd k0 k1 k2 k3 k5 "ValueError.__new__")) (xr : refsVE bm = true)
    (xs : findIn K (.ref C) "__setattr__" = some (some (.builtin "object.__setattr__"))) (xg : findIn K (.ref C) "__getattribute__" = some (some (.builtin "BaseException.__getattribute__"))) (xgg : findIn K (.ref C) "__getattr__" = some none)
    (xi : findIn K (.ref C) "__init__" = some (some (.ref fI))) (xt : typeIn K (.ref fI) = some (.type "function")) (xk : keepIn K (.ref C) = true)
    (xe : subIn K (.ref C) (.type "BaseException") = some true) (xv : subIn K (.ref C) (.type "ValueError") = some true) (xy : typeIn K (.ref C) = some (.type "type")) (xh : hasDictIn K C = true)
    (xm : mroIn K C (.ref C) = some true) (xu : ks_superIn K C C "__init__" = some (some (.builtin "ValueError.__init__"))) (tp : nsIn K cStatics "thirdparty.any" = some none) (sg : nsIn K mainGlobals "super" = some none)
    (xl : K.lookup cc = some ⟨cl, cld, .cell (some (.ref C)), csl⟩) (xw : K.lookup cda = some ⟨ccl, cdd, .fields vs, ccs⟩) (xw2 : vs[2]? = some (.str cf tf)) (xw3 : ((prog.main.file : Str) == cf) = true)
    (top : (prog.main.scope.names.lookup ("super" : Str)).isSome = false)
    (xf : K.lookup fI = some ⟨oc, od, .func (ksFn "__init__" qual (args0 p1) [supS msg k q0 q1 q2 q3 q4 q5] scope0 .none .none doc pm an (.ref cda) ct cc), osl⟩) (xd : codeIn K (.ref cda) qual = true)
    (hev : ∀ (q : Str) (L : Addr), SupEv (ksEnv q scope0 L fI (.ref cda) cc) msg k q0 q1 q2 q3 q4) : Err0 prog K mg nm C fI cc cda :=
  { gC := mg_of X G gC, cls := ⟨_, _, _, _, _, _, _, _, _, _, _, _, _, _, _, xc, xr⟩, sa := xs, ga := xg, gg := xgg, iC := xi, tC := xt, kC := xk, exC := xe, exV := xv, tyC := xy, hdC := xh, mC := xm, sup := xu, tp := tp, sg := mg_none_of X G sg,
    cell := ⟨_, _, _, xl⟩, code := ⟨_, _, _, _, _, _, xw, xw2, xw3⟩, top := top, fn := ⟨_, _, _, _, _, _, _, _, _, _, _, _, _, _, _, _, _, xf, xd, hev⟩ }
end KX
end PySem
namespace K9
open PySem PySem.Spec PyProof.Rows L2
theorem all_mk {prog : Program} {w : World} {K : PySem.W.Frag} {h : Heap} {mg : Str → Option Value} {fa : Addr} {f_prime_parts : Addr} {od_prime_parts an_prime_parts : Option Addr} {sl_prime_parts : Array (Option Value)} {oc_prime_parts kV_prime_parts dc_prime_parts pm_prime_parts cd_prime_parts ct_prime_parts : Value}
    {f_look_prime : Addr} {od_look_prime an_look_prime : Option Addr} {sl_look_prime : Array (Option Value)} {oc_look_prime kV_look_prime dc_look_prime pm_look_prime cd_look_prime ct_look_prime : Value}
    {f_look_range : Addr} {od_look_range an_look_range : Option Addr} {sl_look_range : Array (Option Value)} {oc_look_range kV_look_range dc_look_range pm_look_range cd_look_range ct_look_range : Value}
    {f_power : Addr} {od_power an_power : Option Addr} {sl_power : Array (Option Value)} {oc_power kV_power dc_power pm_power cd_power ct_power : Value}
    {f_power_mod : Addr} {od_power_mod an_power_mod : Option Addr} {sl_power_mod : Array (Option Value)} {oc_power_mod kV_power_mod dc_power_mod pm_power_mod cd_power_mod ct_power_mod : Value}
    {f_inverse_mod : Addr} {od_inverse_mod an_inverse_mod : Option Addr} {sl_inverse_mod : Array (Option Value)} {oc_inverse_mod kV_inverse_mod dc_inverse_mod pm_inverse_mod cd_inverse_mod ct_inverse_mod : Value}
    {f_parted : Addr} {od_parted an_parted : Option Addr} {sl_parted : Array (Option Value)} {oc_parted kV_parted dc_parted pm_parted cd_parted ct_parted : Value}
    {f_int_depth : Addr} {od_int_depth an_int_depth : Option Addr} {sl_int_depth : Array (Option Value)} {oc_int_depth kV_int_depth dc_int_depth pm_int_depth cd_int_depth ct_int_depth : Value}
    {f_look_numbers : Addr} {od_look_numbers an_look_numbers : Option Addr} {sl_look_numbers : Array (Option Value)} {oc_look_numbers kV_look_numbers dc_look_numbers pm_look_numbers cd_look_numbers ct_look_numbers : Value}
    {f_look_zeros : Addr} {od_look_zeros an_look_zeros : Option Addr} {sl_look_zeros : Array (Option Value)} {oc_look_zeros kV_look_zeros dc_look_zeros pm_look_zeros cd_look_zeros ct_look_zeros : Value}
    {f_square_unit : Addr} {od_square_unit an_square_unit : Option Addr} {sl_square_unit : Array (Option Value)} {oc_square_unit kV_square_unit dc_square_unit pm_square_unit cd_square_unit ct_square_unit : Value}
    {f_odd_sign : Addr} {od_odd_sign an_odd_sign : Option Addr} {sl_odd_sign : Array (Option Value)} {oc_odd_sign kV_odd_sign dc_odd_sign pm_odd_sign cd_odd_sign ct_odd_sign : Value}
    {f_even_sign : Addr} {od_even_sign an_even_sign : Option Addr} {sl_even_sign : Array (Option Value)} {oc_even_sign kV_even_sign dc_even_sign pm_even_sign cd_even_sign ct_even_sign : Value}
    {f_symbol_of : Addr} {od_symbol_of an_symbol_of : Option Addr} {sl_symbol_of : Array (Option Value)} {oc_symbol_of kV_symbol_of dc_symbol_of pm_symbol_of cd_symbol_of ct_symbol_of : Value}
    {f_symbol : Addr} {od_symbol an_symbol : Option Addr} {sl_symbol : Array (Option Value)} {oc_symbol kV_symbol dc_symbol pm_symbol cd_symbol ct_symbol : Value}
    {f_unit_root : Addr} {od_unit_root an_unit_root : Option Addr} {sl_unit_root : Array (Option Value)} {oc_unit_root kV_unit_root dc_unit_root pm_unit_root cd_unit_root ct_unit_root : Value}
    {f_start_pair : Addr} {od_start_pair an_start_pair : Option Addr} {sl_start_pair : Array (Option Value)} {oc_start_pair kV_start_pair dc_start_pair pm_start_pair cd_start_pair ct_start_pair : Value}
    {f_first_point : Addr} {od_first_point an_first_point : Option Addr} {sl_first_point : Array (Option Value)} {oc_first_point kV_first_point dc_first_point pm_first_point cd_first_point ct_first_point : Value}
    {f_conic_point : Addr} {od_conic_point an_conic_point : Option Addr} {sl_conic_point : Array (Option Value)} {oc_conic_point kV_conic_point dc_conic_point pm_conic_point cd_conic_point ct_conic_point : Value}
    {f_primes_of : Addr} {od_primes_of an_primes_of : Option Addr} {sl_primes_of : Array (Option Value)} {oc_primes_of kV_primes_of dc_primes_of pm_primes_of cd_primes_of ct_primes_of : Value}
    {f_with_two : Addr} {od_with_two an_with_two : Option Addr} {sl_with_two : Array (Option Value)} {oc_with_two kV_with_two dc_with_two pm_with_two cd_with_two ct_with_two : Value}
    {f_conic_bars : Addr} {od_conic_bars an_conic_bars : Option Addr} {sl_conic_bars : Array (Option Value)} {oc_conic_bars kV_conic_bars dc_conic_bars pm_conic_bars cd_conic_bars ct_conic_bars : Value}
    {f_law_cells : Addr} {od_law_cells an_law_cells : Option Addr} {sl_law_cells : Array (Option Value)} {oc_law_cells kV_law_cells dc_law_cells pm_law_cells cd_law_cells ct_law_cells : Value}
    {f_law_draw : Addr} {od_law_draw an_law_draw : Option Addr} {sl_law_draw : Array (Option Value)} {oc_law_draw kV_law_draw dc_law_draw pm_law_draw cd_law_draw ct_law_draw : Value}
    {f_law_is_integer : Addr} {od_law_is_integer an_law_is_integer : Option Addr} {sl_law_is_integer : Array (Option Value)} {oc_law_is_integer kV_law_is_integer dc_law_is_integer pm_law_is_integer cd_law_is_integer ct_law_is_integer : Value}
    {f_law_power : Addr} {od_law_power an_law_power : Option Addr} {sl_law_power : Array (Option Value)} {oc_law_power kV_law_power dc_law_power pm_law_power cd_law_power ct_law_power : Value}
    {f_law_primes : Addr} {od_law_primes an_law_primes : Option Addr} {sl_law_primes : Array (Option Value)} {oc_law_primes kV_law_primes dc_law_primes pm_law_primes cd_law_primes ct_law_primes : Value}
    {f_law_number : Addr} {od_law_number an_law_number : Option Addr} {sl_law_number : Array (Option Value)} {oc_law_number kV_law_number dc_law_number pm_law_number cd_law_number ct_law_number : Value}
    {f_law_is_square : Addr} {od_law_is_square an_law_is_square : Option Addr} {sl_law_is_square : Array (Option Value)} {oc_law_is_square kV_law_is_square dc_law_is_square pm_law_is_square cd_law_is_square ct_law_is_square : Value}
    {f_law_walked : Addr} {od_law_walked an_law_walked : Option Addr} {sl_law_walked : Array (Option Value)} {oc_law_walked kV_law_walked dc_law_walked pm_law_walked cd_law_walked ct_law_walked : Value}
    {f_law_symbol : Addr} {od_law_symbol an_law_symbol : Option Addr} {sl_law_symbol : Array (Option Value)} {oc_law_symbol kV_law_symbol dc_law_symbol pm_law_symbol cd_law_symbol ct_law_symbol : Value}
    {f_law_bars : Addr} {od_law_bars an_law_bars : Option Addr} {sl_law_bars : Array (Option Value)} {oc_law_bars kV_law_bars dc_law_bars pm_law_bars cd_law_bars ct_law_bars : Value}
    {f_law_same_list : Addr} {od_law_same_list an_law_same_list : Option Addr} {sl_law_same_list : Array (Option Value)} {oc_law_same_list kV_law_same_list dc_law_same_list pm_law_same_list cd_law_same_list ct_law_same_list : Value}
    {f_law_point_right : Addr} {od_law_point_right an_law_point_right : Option Addr} {sl_law_point_right : Array (Option Value)} {oc_law_point_right kV_law_point_right dc_law_point_right pm_law_point_right cd_law_point_right ct_law_point_right : Value}
    {f_law_prime_right : Addr} {od_law_prime_right an_law_prime_right : Option Addr} {sl_law_prime_right : Array (Option Value)} {oc_law_prime_right kV_law_prime_right dc_law_prime_right pm_law_prime_right cd_law_prime_right ct_law_prime_right : Value}
    {f_law_refusal : Addr} {od_law_refusal an_law_refusal : Option Addr} {sl_law_refusal : Array (Option Value)} {oc_law_refusal kV_law_refusal dc_law_refusal pm_law_refusal cd_law_refusal ct_law_refusal : Value}
    {f_law_refused : Addr} {od_law_refused an_law_refused : Option Addr} {sl_law_refused : Array (Option Value)} {oc_law_refused kV_law_refused dc_law_refused pm_law_refused cd_law_refused ct_law_refused : Value}
    {f_law_refusals_right : Addr} {od_law_refusals_right an_law_refusals_right : Option Addr} {sl_law_refusals_right : Array (Option Value)} {oc_law_refusals_right kV_law_refusals_right dc_law_refusals_right pm_law_refusals_right cd_law_refusals_right ct_law_refusals_right : Value}
    {f_law : Addr} {od_law an_law : Option Addr} {sl_law : Array (Option Value)} {oc_law kV_law dc_law pm_law cd_law ct_law : Value}
    {tk_MOST_PARTED : Tok}
    {tk_MOST_NUMBER : Tok}
    {tk_MOST_DIGITS : Tok}
    {tk_LARGEST : Tok}
    {tk_MOST_PRIME : Tok}
    {aS : Addr} {dS : Option Addr} {itS : Array Value} {nS : Nat} {slS : Array (Option Value)}
    {C_PrimedeepError : Addr}
    {C_SizeError : Addr}
    {C_RangeError : Addr}
    {C_PrimeError : Addr}
    {C_DepthError : Addr}
    {C_ZeroError : Addr}
    {C_MixError : Addr}
    {C_BarError : Addr}
    {C_MonicError : Addr}
    {C_RepeatError : Addr}
    {C_FieldError : Addr}
    {C_EditError : Addr}
    {C_TextError : Addr}
    {C_HistoryError : Addr}
    {I_RangeError V_RangeError W_RangeError N_RangeError : Addr} {nm_RangeError q_RangeError : Str} {bs_RangeError bm_RangeError sub_RangeError : List Value} {sn_RangeError : List Str} {ab_RangeError : Bool} {col_RangeError : Option Bool} {dd_RangeError : Option Addr} {m0_RangeError m1_RangeError m2_RangeError m3_RangeError m5_RangeError : Option Value}
    {foc_RangeError fdoc_RangeError fpm_RangeError fct_RangeError : Value} {fod_RangeError fan_RangeError : Option Addr} {fsl_RangeError : Array (Option Value)} {fk_RangeError : Nat}
    {cl_RangeError ccl_RangeError : Value} {cld_RangeError cdd_RangeError : Option Addr} {csl_RangeError ccs_RangeError : Array (Option Value)} {cv_RangeError : Array Value} {cf_RangeError : Str} {tf_RangeError : Tok}
    {I_PrimeError V_PrimeError W_PrimeError N_PrimeError : Addr} {nm_PrimeError q_PrimeError : Str} {bs_PrimeError bm_PrimeError sub_PrimeError : List Value} {sn_PrimeError : List Str} {ab_PrimeError : Bool} {col_PrimeError : Option Bool} {dd_PrimeError : Option Addr} {m0_PrimeError m1_PrimeError m2_PrimeError m3_PrimeError m5_PrimeError : Option Value}
    {foc_PrimeError fdoc_PrimeError fpm_PrimeError fct_PrimeError : Value} {fod_PrimeError fan_PrimeError : Option Addr} {fsl_PrimeError : Array (Option Value)} {fk_PrimeError : Nat}
    {cl_PrimeError ccl_PrimeError : Value} {cld_PrimeError cdd_PrimeError : Option Addr} {csl_PrimeError ccs_PrimeError : Array (Option Value)} {cv_PrimeError : Array Value} {cf_PrimeError : Str} {tf_PrimeError : Tok}
    {I_ZeroError V_ZeroError W_ZeroError N_ZeroError : Addr} {nm_ZeroError q_ZeroError : Str} {bs_ZeroError bm_ZeroError sub_ZeroError : List Value} {sn_ZeroError : List Str} {ab_ZeroError : Bool} {col_ZeroError : Option Bool} {dd_ZeroError : Option Addr} {m0_ZeroError m1_ZeroError m2_ZeroError m3_ZeroError m5_ZeroError : Option Value}
    {foc_ZeroError fdoc_ZeroError fpm_ZeroError fct_ZeroError : Value} {fod_ZeroError fan_ZeroError : Option Addr} {fsl_ZeroError : Array (Option Value)} {fk_ZeroError : Nat}
    {cl_ZeroError ccl_ZeroError : Value} {cld_ZeroError cdd_ZeroError : Option Addr} {csl_ZeroError ccs_ZeroError : Array (Option Value)} {cv_ZeroError : Array Value} {cf_ZeroError : Str} {tf_ZeroError : Tok}
    (X : K.In h) (G : h.Ns mainGlobals mg) (hfa : mg "law" = some (.ref fa))
    (a_prime_parts : PySem.W.nsIn K mainGlobals "prime_parts" = some (some (.ref f_prime_parts)))
    (l_prime_parts : K.lookup f_prime_parts = some ⟨oc_prime_parts, od_prime_parts, .func (PySem.W.fnOf "prime_parts" "prime_parts" (defArgs s_prime_parts) (defBody s_prime_parts) (defScope s_prime_parts) .none kV_prime_parts dc_prime_parts pm_prime_parts an_prime_parts cd_prime_parts ct_prime_parts), sl_prime_parts⟩)
    (c_prime_parts : PySem.W.codeIn K cd_prime_parts "prime_parts" = true)
    (k_prime_parts : PySem.W.keepIn K (.ref f_prime_parts) = true)
    (a_look_prime : PySem.W.nsIn K mainGlobals "look_prime" = some (some (.ref f_look_prime)))
    (l_look_prime : K.lookup f_look_prime = some ⟨oc_look_prime, od_look_prime, .func (PySem.W.fnOf "look_prime" "look_prime" (defArgs s_look_prime) (defBody s_look_prime) (defScope s_look_prime) .none kV_look_prime dc_look_prime pm_look_prime an_look_prime cd_look_prime ct_look_prime), sl_look_prime⟩)
    (c_look_prime : PySem.W.codeIn K cd_look_prime "look_prime" = true)
    (k_look_prime : PySem.W.keepIn K (.ref f_look_prime) = true)
    (a_look_range : PySem.W.nsIn K mainGlobals "look_range" = some (some (.ref f_look_range)))
    (l_look_range : K.lookup f_look_range = some ⟨oc_look_range, od_look_range, .func (PySem.W.fnOf "look_range" "look_range" (defArgs s_look_range) (defBody s_look_range) (defScope s_look_range) .none kV_look_range dc_look_range pm_look_range an_look_range cd_look_range ct_look_range), sl_look_range⟩)
    (c_look_range : PySem.W.codeIn K cd_look_range "look_range" = true)
    (k_look_range : PySem.W.keepIn K (.ref f_look_range) = true)
    (a_power : PySem.W.nsIn K mainGlobals "power" = some (some (.ref f_power)))
    (l_power : K.lookup f_power = some ⟨oc_power, od_power, .func (PySem.W.fnOf "power" "power" (defArgs s_power) (defBody s_power) (defScope s_power) .none kV_power dc_power pm_power an_power cd_power ct_power), sl_power⟩)
    (c_power : PySem.W.codeIn K cd_power "power" = true)
    (k_power : PySem.W.keepIn K (.ref f_power) = true)
    (a_power_mod : PySem.W.nsIn K mainGlobals "power_mod" = some (some (.ref f_power_mod)))
    (l_power_mod : K.lookup f_power_mod = some ⟨oc_power_mod, od_power_mod, .func (PySem.W.fnOf "power_mod" "power_mod" (defArgs s_power_mod) (defBody s_power_mod) (defScope s_power_mod) .none kV_power_mod dc_power_mod pm_power_mod an_power_mod cd_power_mod ct_power_mod), sl_power_mod⟩)
    (c_power_mod : PySem.W.codeIn K cd_power_mod "power_mod" = true)
    (k_power_mod : PySem.W.keepIn K (.ref f_power_mod) = true)
    (a_inverse_mod : PySem.W.nsIn K mainGlobals "inverse_mod" = some (some (.ref f_inverse_mod)))
    (l_inverse_mod : K.lookup f_inverse_mod = some ⟨oc_inverse_mod, od_inverse_mod, .func (PySem.W.fnOf "inverse_mod" "inverse_mod" (defArgs s_inverse_mod) (defBody s_inverse_mod) (defScope s_inverse_mod) .none kV_inverse_mod dc_inverse_mod pm_inverse_mod an_inverse_mod cd_inverse_mod ct_inverse_mod), sl_inverse_mod⟩)
    (c_inverse_mod : PySem.W.codeIn K cd_inverse_mod "inverse_mod" = true)
    (k_inverse_mod : PySem.W.keepIn K (.ref f_inverse_mod) = true)
    (a_parted : PySem.W.nsIn K mainGlobals "parted" = some (some (.ref f_parted)))
    (l_parted : K.lookup f_parted = some ⟨oc_parted, od_parted, .func (PySem.W.fnOf "parted" "parted" (defArgs s_parted) (defBody s_parted) (defScope s_parted) .none kV_parted dc_parted pm_parted an_parted cd_parted ct_parted), sl_parted⟩)
    (c_parted : PySem.W.codeIn K cd_parted "parted" = true)
    (k_parted : PySem.W.keepIn K (.ref f_parted) = true)
    (a_int_depth : PySem.W.nsIn K mainGlobals "int_depth" = some (some (.ref f_int_depth)))
    (l_int_depth : K.lookup f_int_depth = some ⟨oc_int_depth, od_int_depth, .func (PySem.W.fnOf "int_depth" "int_depth" (defArgs s_int_depth) (defBody s_int_depth) (defScope s_int_depth) .none kV_int_depth dc_int_depth pm_int_depth an_int_depth cd_int_depth ct_int_depth), sl_int_depth⟩)
    (c_int_depth : PySem.W.codeIn K cd_int_depth "int_depth" = true)
    (k_int_depth : PySem.W.keepIn K (.ref f_int_depth) = true)
    (a_look_numbers : PySem.W.nsIn K mainGlobals "look_numbers" = some (some (.ref f_look_numbers)))
    (l_look_numbers : K.lookup f_look_numbers = some ⟨oc_look_numbers, od_look_numbers, .func (PySem.W.fnOf "look_numbers" "look_numbers" (defArgs s_look_numbers) (defBody s_look_numbers) (defScope s_look_numbers) .none kV_look_numbers dc_look_numbers pm_look_numbers an_look_numbers cd_look_numbers ct_look_numbers), sl_look_numbers⟩)
    (c_look_numbers : PySem.W.codeIn K cd_look_numbers "look_numbers" = true)
    (k_look_numbers : PySem.W.keepIn K (.ref f_look_numbers) = true)
    (a_look_zeros : PySem.W.nsIn K mainGlobals "look_zeros" = some (some (.ref f_look_zeros)))
    (l_look_zeros : K.lookup f_look_zeros = some ⟨oc_look_zeros, od_look_zeros, .func (PySem.W.fnOf "look_zeros" "look_zeros" (defArgs s_look_zeros) (defBody s_look_zeros) (defScope s_look_zeros) .none kV_look_zeros dc_look_zeros pm_look_zeros an_look_zeros cd_look_zeros ct_look_zeros), sl_look_zeros⟩)
    (c_look_zeros : PySem.W.codeIn K cd_look_zeros "look_zeros" = true)
    (k_look_zeros : PySem.W.keepIn K (.ref f_look_zeros) = true)
    (a_square_unit : PySem.W.nsIn K mainGlobals "square_unit" = some (some (.ref f_square_unit)))
    (l_square_unit : K.lookup f_square_unit = some ⟨oc_square_unit, od_square_unit, .func (PySem.W.fnOf "square_unit" "square_unit" (defArgs s_square_unit) (defBody s_square_unit) (defScope s_square_unit) .none kV_square_unit dc_square_unit pm_square_unit an_square_unit cd_square_unit ct_square_unit), sl_square_unit⟩)
    (c_square_unit : PySem.W.codeIn K cd_square_unit "square_unit" = true)
    (k_square_unit : PySem.W.keepIn K (.ref f_square_unit) = true)
    (a_odd_sign : PySem.W.nsIn K mainGlobals "odd_sign" = some (some (.ref f_odd_sign)))
    (l_odd_sign : K.lookup f_odd_sign = some ⟨oc_odd_sign, od_odd_sign, .func (PySem.W.fnOf "odd_sign" "odd_sign" (defArgs s_odd_sign) (defBody s_odd_sign) (defScope s_odd_sign) .none kV_odd_sign dc_odd_sign pm_odd_sign an_odd_sign cd_odd_sign ct_odd_sign), sl_odd_sign⟩)
    (c_odd_sign : PySem.W.codeIn K cd_odd_sign "odd_sign" = true)
    (k_odd_sign : PySem.W.keepIn K (.ref f_odd_sign) = true)
    (a_even_sign : PySem.W.nsIn K mainGlobals "even_sign" = some (some (.ref f_even_sign)))
    (l_even_sign : K.lookup f_even_sign = some ⟨oc_even_sign, od_even_sign, .func (PySem.W.fnOf "even_sign" "even_sign" (defArgs s_even_sign) (defBody s_even_sign) (defScope s_even_sign) .none kV_even_sign dc_even_sign pm_even_sign an_even_sign cd_even_sign ct_even_sign), sl_even_sign⟩)
    (c_even_sign : PySem.W.codeIn K cd_even_sign "even_sign" = true)
    (k_even_sign : PySem.W.keepIn K (.ref f_even_sign) = true)
    (a_symbol_of : PySem.W.nsIn K mainGlobals "symbol_of" = some (some (.ref f_symbol_of)))
    (l_symbol_of : K.lookup f_symbol_of = some ⟨oc_symbol_of, od_symbol_of, .func (PySem.W.fnOf "symbol_of" "symbol_of" (defArgs s_symbol_of) (defBody s_symbol_of) (defScope s_symbol_of) .none kV_symbol_of dc_symbol_of pm_symbol_of an_symbol_of cd_symbol_of ct_symbol_of), sl_symbol_of⟩)
    (c_symbol_of : PySem.W.codeIn K cd_symbol_of "symbol_of" = true)
    (k_symbol_of : PySem.W.keepIn K (.ref f_symbol_of) = true)
    (a_symbol : PySem.W.nsIn K mainGlobals "symbol" = some (some (.ref f_symbol)))
    (l_symbol : K.lookup f_symbol = some ⟨oc_symbol, od_symbol, .func (PySem.W.fnOf "symbol" "symbol" (defArgs s_symbol) (defBody s_symbol) (defScope s_symbol) .none kV_symbol dc_symbol pm_symbol an_symbol cd_symbol ct_symbol), sl_symbol⟩)
    (c_symbol : PySem.W.codeIn K cd_symbol "symbol" = true)
    (k_symbol : PySem.W.keepIn K (.ref f_symbol) = true)
    (a_unit_root : PySem.W.nsIn K mainGlobals "unit_root" = some (some (.ref f_unit_root)))
    (l_unit_root : K.lookup f_unit_root = some ⟨oc_unit_root, od_unit_root, .func (PySem.W.fnOf "unit_root" "unit_root" (defArgs s_unit_root) (defBody s_unit_root) (defScope s_unit_root) .none kV_unit_root dc_unit_root pm_unit_root an_unit_root cd_unit_root ct_unit_root), sl_unit_root⟩)
    (c_unit_root : PySem.W.codeIn K cd_unit_root "unit_root" = true)
    (k_unit_root : PySem.W.keepIn K (.ref f_unit_root) = true)
    (a_start_pair : PySem.W.nsIn K mainGlobals "start_pair" = some (some (.ref f_start_pair)))
    (l_start_pair : K.lookup f_start_pair = some ⟨oc_start_pair, od_start_pair, .func (PySem.W.fnOf "start_pair" "start_pair" (defArgs s_start_pair) (defBody s_start_pair) (defScope s_start_pair) .none kV_start_pair dc_start_pair pm_start_pair an_start_pair cd_start_pair ct_start_pair), sl_start_pair⟩)
    (c_start_pair : PySem.W.codeIn K cd_start_pair "start_pair" = true)
    (k_start_pair : PySem.W.keepIn K (.ref f_start_pair) = true)
    (a_first_point : PySem.W.nsIn K mainGlobals "first_point" = some (some (.ref f_first_point)))
    (l_first_point : K.lookup f_first_point = some ⟨oc_first_point, od_first_point, .func (PySem.W.fnOf "first_point" "first_point" (defArgs s_first_point) (defBody s_first_point) (defScope s_first_point) .none kV_first_point dc_first_point pm_first_point an_first_point cd_first_point ct_first_point), sl_first_point⟩)
    (c_first_point : PySem.W.codeIn K cd_first_point "first_point" = true)
    (k_first_point : PySem.W.keepIn K (.ref f_first_point) = true)
    (a_conic_point : PySem.W.nsIn K mainGlobals "conic_point" = some (some (.ref f_conic_point)))
    (l_conic_point : K.lookup f_conic_point = some ⟨oc_conic_point, od_conic_point, .func (PySem.W.fnOf "conic_point" "conic_point" (defArgs s_conic_point) (defBody s_conic_point) (defScope s_conic_point) .none kV_conic_point dc_conic_point pm_conic_point an_conic_point cd_conic_point ct_conic_point), sl_conic_point⟩)
    (c_conic_point : PySem.W.codeIn K cd_conic_point "conic_point" = true)
    (k_conic_point : PySem.W.keepIn K (.ref f_conic_point) = true)
    (a_primes_of : PySem.W.nsIn K mainGlobals "primes_of" = some (some (.ref f_primes_of)))
    (l_primes_of : K.lookup f_primes_of = some ⟨oc_primes_of, od_primes_of, .func (PySem.W.fnOf "primes_of" "primes_of" (defArgs s_primes_of) (defBody s_primes_of) (defScope s_primes_of) .none kV_primes_of dc_primes_of pm_primes_of an_primes_of cd_primes_of ct_primes_of), sl_primes_of⟩)
    (c_primes_of : PySem.W.codeIn K cd_primes_of "primes_of" = true)
    (k_primes_of : PySem.W.keepIn K (.ref f_primes_of) = true)
    (a_with_two : PySem.W.nsIn K mainGlobals "with_two" = some (some (.ref f_with_two)))
    (l_with_two : K.lookup f_with_two = some ⟨oc_with_two, od_with_two, .func (PySem.W.fnOf "with_two" "with_two" (defArgs s_with_two) (defBody s_with_two) (defScope s_with_two) .none kV_with_two dc_with_two pm_with_two an_with_two cd_with_two ct_with_two), sl_with_two⟩)
    (c_with_two : PySem.W.codeIn K cd_with_two "with_two" = true)
    (k_with_two : PySem.W.keepIn K (.ref f_with_two) = true)
    (a_conic_bars : PySem.W.nsIn K mainGlobals "conic_bars" = some (some (.ref f_conic_bars)))
    (l_conic_bars : K.lookup f_conic_bars = some ⟨oc_conic_bars, od_conic_bars, .func (PySem.W.fnOf "conic_bars" "conic_bars" (defArgs s_conic_bars) (defBody s_conic_bars) (defScope s_conic_bars) .none kV_conic_bars dc_conic_bars pm_conic_bars an_conic_bars cd_conic_bars ct_conic_bars), sl_conic_bars⟩)
    (c_conic_bars : PySem.W.codeIn K cd_conic_bars "conic_bars" = true)
    (k_conic_bars : PySem.W.keepIn K (.ref f_conic_bars) = true)
    (a_law_cells : PySem.W.nsIn K mainGlobals "_law_cells" = some (some (.ref f_law_cells)))
    (l_law_cells : K.lookup f_law_cells = some ⟨oc_law_cells, od_law_cells, .func (PySem.W.fnOf "_law_cells" "_law_cells" (defArgs s_law_cells) (defBody s_law_cells) (defScope s_law_cells) .none kV_law_cells dc_law_cells pm_law_cells an_law_cells cd_law_cells ct_law_cells), sl_law_cells⟩)
    (c_law_cells : PySem.W.codeIn K cd_law_cells "_law_cells" = true)
    (k_law_cells : PySem.W.keepIn K (.ref f_law_cells) = true)
    (a_law_draw : PySem.W.nsIn K mainGlobals "_law_draw" = some (some (.ref f_law_draw)))
    (l_law_draw : K.lookup f_law_draw = some ⟨oc_law_draw, od_law_draw, .func (PySem.W.fnOf "_law_draw" "_law_draw" (defArgs s_law_draw) (defBody s_law_draw) (defScope s_law_draw) .none kV_law_draw dc_law_draw pm_law_draw an_law_draw cd_law_draw ct_law_draw), sl_law_draw⟩)
    (c_law_draw : PySem.W.codeIn K cd_law_draw "_law_draw" = true)
    (k_law_draw : PySem.W.keepIn K (.ref f_law_draw) = true)
    (a_law_is_integer : PySem.W.nsIn K mainGlobals "_law_is_integer" = some (some (.ref f_law_is_integer)))
    (l_law_is_integer : K.lookup f_law_is_integer = some ⟨oc_law_is_integer, od_law_is_integer, .func (PySem.W.fnOf "_law_is_integer" "_law_is_integer" (defArgs s_law_is_integer) (defBody s_law_is_integer) (defScope s_law_is_integer) .none kV_law_is_integer dc_law_is_integer pm_law_is_integer an_law_is_integer cd_law_is_integer ct_law_is_integer), sl_law_is_integer⟩)
    (c_law_is_integer : PySem.W.codeIn K cd_law_is_integer "_law_is_integer" = true)
    (k_law_is_integer : PySem.W.keepIn K (.ref f_law_is_integer) = true)
    (a_law_power : PySem.W.nsIn K mainGlobals "_law_power" = some (some (.ref f_law_power)))
    (l_law_power : K.lookup f_law_power = some ⟨oc_law_power, od_law_power, .func (PySem.W.fnOf "_law_power" "_law_power" (defArgs s_law_power) (defBody s_law_power) (defScope s_law_power) .none kV_law_power dc_law_power pm_law_power an_law_power cd_law_power ct_law_power), sl_law_power⟩)
    (c_law_power : PySem.W.codeIn K cd_law_power "_law_power" = true)
    (k_law_power : PySem.W.keepIn K (.ref f_law_power) = true)
    (a_law_primes : PySem.W.nsIn K mainGlobals "_law_primes" = some (some (.ref f_law_primes)))
    (l_law_primes : K.lookup f_law_primes = some ⟨oc_law_primes, od_law_primes, .func (PySem.W.fnOf "_law_primes" "_law_primes" (defArgs s_law_primes) (defBody s_law_primes) (defScope s_law_primes) .none kV_law_primes dc_law_primes pm_law_primes an_law_primes cd_law_primes ct_law_primes), sl_law_primes⟩)
    (c_law_primes : PySem.W.codeIn K cd_law_primes "_law_primes" = true)
    (k_law_primes : PySem.W.keepIn K (.ref f_law_primes) = true)
    (a_law_number : PySem.W.nsIn K mainGlobals "_law_number" = some (some (.ref f_law_number)))
    (l_law_number : K.lookup f_law_number = some ⟨oc_law_number, od_law_number, .func (PySem.W.fnOf "_law_number" "_law_number" (defArgs s_law_number) (defBody s_law_number) (defScope s_law_number) .none kV_law_number dc_law_number pm_law_number an_law_number cd_law_number ct_law_number), sl_law_number⟩)
    (c_law_number : PySem.W.codeIn K cd_law_number "_law_number" = true)
    (k_law_number : PySem.W.keepIn K (.ref f_law_number) = true)
    (a_law_is_square : PySem.W.nsIn K mainGlobals "_law_is_square" = some (some (.ref f_law_is_square)))
    (l_law_is_square : K.lookup f_law_is_square = some ⟨oc_law_is_square, od_law_is_square, .func (PySem.W.fnOf "_law_is_square" "_law_is_square" (defArgs s_law_is_square) (defBody s_law_is_square) (defScope s_law_is_square) .none kV_law_is_square dc_law_is_square pm_law_is_square an_law_is_square cd_law_is_square ct_law_is_square), sl_law_is_square⟩)
    (c_law_is_square : PySem.W.codeIn K cd_law_is_square "_law_is_square" = true)
    (k_law_is_square : PySem.W.keepIn K (.ref f_law_is_square) = true)
    (a_law_walked : PySem.W.nsIn K mainGlobals "_law_walked" = some (some (.ref f_law_walked)))
    (l_law_walked : K.lookup f_law_walked = some ⟨oc_law_walked, od_law_walked, .func (PySem.W.fnOf "_law_walked" "_law_walked" (defArgs s_law_walked) (defBody s_law_walked) (defScope s_law_walked) .none kV_law_walked dc_law_walked pm_law_walked an_law_walked cd_law_walked ct_law_walked), sl_law_walked⟩)
    (c_law_walked : PySem.W.codeIn K cd_law_walked "_law_walked" = true)
    (k_law_walked : PySem.W.keepIn K (.ref f_law_walked) = true)
    (a_law_symbol : PySem.W.nsIn K mainGlobals "_law_symbol" = some (some (.ref f_law_symbol)))
    (l_law_symbol : K.lookup f_law_symbol = some ⟨oc_law_symbol, od_law_symbol, .func (PySem.W.fnOf "_law_symbol" "_law_symbol" (defArgs s_law_symbol) (defBody s_law_symbol) (defScope s_law_symbol) .none kV_law_symbol dc_law_symbol pm_law_symbol an_law_symbol cd_law_symbol ct_law_symbol), sl_law_symbol⟩)
    (c_law_symbol : PySem.W.codeIn K cd_law_symbol "_law_symbol" = true)
    (k_law_symbol : PySem.W.keepIn K (.ref f_law_symbol) = true)
    (a_law_bars : PySem.W.nsIn K mainGlobals "_law_bars" = some (some (.ref f_law_bars)))
    (l_law_bars : K.lookup f_law_bars = some ⟨oc_law_bars, od_law_bars, .func (PySem.W.fnOf "_law_bars" "_law_bars" (defArgs s_law_bars) (defBody s_law_bars) (defScope s_law_bars) .none kV_law_bars dc_law_bars pm_law_bars an_law_bars cd_law_bars ct_law_bars), sl_law_bars⟩)
    (c_law_bars : PySem.W.codeIn K cd_law_bars "_law_bars" = true)
    (k_law_bars : PySem.W.keepIn K (.ref f_law_bars) = true)
    (a_law_same_list : PySem.W.nsIn K mainGlobals "_law_same_list" = some (some (.ref f_law_same_list)))
    (l_law_same_list : K.lookup f_law_same_list = some ⟨oc_law_same_list, od_law_same_list, .func (PySem.W.fnOf "_law_same_list" "_law_same_list" (defArgs s_law_same_list) (defBody s_law_same_list) (defScope s_law_same_list) .none kV_law_same_list dc_law_same_list pm_law_same_list an_law_same_list cd_law_same_list ct_law_same_list), sl_law_same_list⟩)
    (c_law_same_list : PySem.W.codeIn K cd_law_same_list "_law_same_list" = true)
    (k_law_same_list : PySem.W.keepIn K (.ref f_law_same_list) = true)
    (a_law_point_right : PySem.W.nsIn K mainGlobals "_law_point_right" = some (some (.ref f_law_point_right)))
    (l_law_point_right : K.lookup f_law_point_right = some ⟨oc_law_point_right, od_law_point_right, .func (PySem.W.fnOf "_law_point_right" "_law_point_right" (defArgs s_law_point_right) (defBody s_law_point_right) (defScope s_law_point_right) .none kV_law_point_right dc_law_point_right pm_law_point_right an_law_point_right cd_law_point_right ct_law_point_right), sl_law_point_right⟩)
    (c_law_point_right : PySem.W.codeIn K cd_law_point_right "_law_point_right" = true)
    (k_law_point_right : PySem.W.keepIn K (.ref f_law_point_right) = true)
    (a_law_prime_right : PySem.W.nsIn K mainGlobals "_law_prime_right" = some (some (.ref f_law_prime_right)))
    (l_law_prime_right : K.lookup f_law_prime_right = some ⟨oc_law_prime_right, od_law_prime_right, .func (PySem.W.fnOf "_law_prime_right" "_law_prime_right" (defArgs s_law_prime_right) (defBody s_law_prime_right) (defScope s_law_prime_right) .none kV_law_prime_right dc_law_prime_right pm_law_prime_right an_law_prime_right cd_law_prime_right ct_law_prime_right), sl_law_prime_right⟩)
    (c_law_prime_right : PySem.W.codeIn K cd_law_prime_right "_law_prime_right" = true)
    (k_law_prime_right : PySem.W.keepIn K (.ref f_law_prime_right) = true)
    (a_law_refusal : PySem.W.nsIn K mainGlobals "_law_refusal" = some (some (.ref f_law_refusal)))
    (l_law_refusal : K.lookup f_law_refusal = some ⟨oc_law_refusal, od_law_refusal, .func (PySem.W.fnOf "_law_refusal" "_law_refusal" (defArgs s_law_refusal) (defBody s_law_refusal) (defScope s_law_refusal) .none kV_law_refusal dc_law_refusal pm_law_refusal an_law_refusal cd_law_refusal ct_law_refusal), sl_law_refusal⟩)
    (c_law_refusal : PySem.W.codeIn K cd_law_refusal "_law_refusal" = true)
    (k_law_refusal : PySem.W.keepIn K (.ref f_law_refusal) = true)
    (a_law_refused : PySem.W.nsIn K mainGlobals "_law_refused" = some (some (.ref f_law_refused)))
    (l_law_refused : K.lookup f_law_refused = some ⟨oc_law_refused, od_law_refused, .func (PySem.W.fnOf "_law_refused" "_law_refused" (defArgs s_law_refused) (defBody s_law_refused) (defScope s_law_refused) .none kV_law_refused dc_law_refused pm_law_refused an_law_refused cd_law_refused ct_law_refused), sl_law_refused⟩)
    (c_law_refused : PySem.W.codeIn K cd_law_refused "_law_refused" = true)
    (k_law_refused : PySem.W.keepIn K (.ref f_law_refused) = true)
    (a_law_refusals_right : PySem.W.nsIn K mainGlobals "_law_refusals_right" = some (some (.ref f_law_refusals_right)))
    (l_law_refusals_right : K.lookup f_law_refusals_right = some ⟨oc_law_refusals_right, od_law_refusals_right, .func (PySem.W.fnOf "_law_refusals_right" "_law_refusals_right" (defArgs s_law_refusals_right) (defBody s_law_refusals_right) (defScope s_law_refusals_right) .none kV_law_refusals_right dc_law_refusals_right pm_law_refusals_right an_law_refusals_right cd_law_refusals_right ct_law_refusals_right), sl_law_refusals_right⟩)
    (c_law_refusals_right : PySem.W.codeIn K cd_law_refusals_right "_law_refusals_right" = true)
    (k_law_refusals_right : PySem.W.keepIn K (.ref f_law_refusals_right) = true)
    (a_law : PySem.W.nsIn K mainGlobals "law" = some (some (.ref f_law)))
    (l_law : K.lookup f_law = some ⟨oc_law, od_law, .func (PySem.W.fnOf "law" "law" (defArgs s_law) (defBody s_law) (defScope s_law) .none kV_law dc_law pm_law an_law cd_law ct_law), sl_law⟩)
    (c_law : PySem.W.codeIn K cd_law "law" = true)
    (k_law : PySem.W.keepIn K (.ref f_law) = true)
    (n_len : PySem.W.nsIn K mainGlobals "len" = some none)
    (n_int : PySem.W.nsIn K mainGlobals "int" = some none)
    (n_bool : PySem.W.nsIn K mainGlobals "bool" = some none)
    (n_tuple : PySem.W.nsIn K mainGlobals "tuple" = some none)
    (n_list : PySem.W.nsIn K mainGlobals "list" = some none)
    (n_abs : PySem.W.nsIn K mainGlobals "abs" = some none)
    (n_isinstance : PySem.W.nsIn K mainGlobals "isinstance" = some none)
    (n_max : PySem.W.nsIn K mainGlobals "max" = some none)
    (n_min : PySem.W.nsIn K mainGlobals "min" = some none)
    (n_range : PySem.W.nsIn K mainGlobals "range" = some none)
    (n_sorted : PySem.W.nsIn K mainGlobals "sorted" = some none)
    (n_ValueError : PySem.W.nsIn K mainGlobals "ValueError" = some none)
    (c_MOST_PARTED : PySem.W.nsIn K mainGlobals "MOST_PARTED" = some (some (.int 1000000000 tk_MOST_PARTED)))
    (c_MOST_NUMBER : PySem.W.nsIn K mainGlobals "MOST_NUMBER" = some (some (.int 1000000000000 tk_MOST_NUMBER)))
    (c_MOST_DIGITS : PySem.W.nsIn K mainGlobals "MOST_DIGITS" = some (some (.int 60 tk_MOST_DIGITS)))
    (c_LARGEST : PySem.W.nsIn K mainGlobals "LARGEST" = some (some (.int 1000000000 tk_LARGEST)))
    (c_MOST_PRIME : PySem.W.nsIn K mainGlobals "MOST_PRIME" = some (some (.int 97 tk_MOST_PRIME)))
    (aSP : PySem.W.nsIn K mainGlobals "SMALL_PRIMES" = some (some (.ref aS)))
    (lSP : K.lookup aS = some ⟨.type "tuple", dS, .seq itS nS, slS⟩)
    (iSP : PySem.KX.intsOf itS.toList = primesL.map some)
    (zSP : itS.size ≤ 1000)
    (e_PrimedeepError : PySem.W.nsIn K mainGlobals "PrimedeepError" = some (some (.ref C_PrimedeepError)))
    (e_SizeError : PySem.W.nsIn K mainGlobals "SizeError" = some (some (.ref C_SizeError)))
    (e_RangeError : PySem.W.nsIn K mainGlobals "RangeError" = some (some (.ref C_RangeError)))
    (e_PrimeError : PySem.W.nsIn K mainGlobals "PrimeError" = some (some (.ref C_PrimeError)))
    (e_DepthError : PySem.W.nsIn K mainGlobals "DepthError" = some (some (.ref C_DepthError)))
    (e_ZeroError : PySem.W.nsIn K mainGlobals "ZeroError" = some (some (.ref C_ZeroError)))
    (e_MixError : PySem.W.nsIn K mainGlobals "MixError" = some (some (.ref C_MixError)))
    (e_BarError : PySem.W.nsIn K mainGlobals "BarError" = some (some (.ref C_BarError)))
    (e_MonicError : PySem.W.nsIn K mainGlobals "MonicError" = some (some (.ref C_MonicError)))
    (e_RepeatError : PySem.W.nsIn K mainGlobals "RepeatError" = some (some (.ref C_RepeatError)))
    (e_FieldError : PySem.W.nsIn K mainGlobals "FieldError" = some (some (.ref C_FieldError)))
    (e_EditError : PySem.W.nsIn K mainGlobals "EditError" = some (some (.ref C_EditError)))
    (e_TextError : PySem.W.nsIn K mainGlobals "TextError" = some (some (.ref C_TextError)))
    (e_HistoryError : PySem.W.nsIn K mainGlobals "HistoryError" = some (some (.ref C_HistoryError)))
    (tp : PySem.W.nsIn K cStatics "thirdparty.any" = some none)
    (sg : PySem.W.nsIn K mainGlobals "super" = some none)
    (topS_ : (prog.main.scope.names.lookup ("super" : Str)).isSome = false)
    (xc_RangeError : K.lookup C_RangeError = some (PySem.excClassObj nm_RangeError q_RangeError C_RangeError N_RangeError bs_RangeError bm_RangeError true sn_RangeError sub_RangeError ab_RangeError col_RangeError dd_RangeError m0_RangeError m1_RangeError m2_RangeError m3_RangeError m5_RangeError "ValueError.__new__"))
    (xr_RangeError : PySem.HandSPX.refsVE bm_RangeError = true)
    (xs_RangeError : PySem.W.findIn K (.ref C_RangeError) "__setattr__" = some (some (.builtin "object.__setattr__")))
    (xg_RangeError : PySem.W.findIn K (.ref C_RangeError) "__getattribute__" = some (some (.builtin "BaseException.__getattribute__")))
    (xgg_RangeError : PySem.W.findIn K (.ref C_RangeError) "__getattr__" = some (none))
    (xi_RangeError : PySem.W.findIn K (.ref C_RangeError) "__init__" = some (some (.ref I_RangeError)))
    (xt_RangeError : PySem.W.typeIn K (.ref I_RangeError) = some (.type "function"))
    (xk_RangeError : PySem.W.keepIn K (.ref C_RangeError) = true)
    (xe_RangeError : PySem.W.subIn K (.ref C_RangeError) (.type "BaseException") = some true)
    (xv_RangeError : PySem.W.subIn K (.ref C_RangeError) (.type "ValueError") = some true)
    (xy_RangeError : PySem.W.typeIn K (.ref C_RangeError) = some (.type "type"))
    (xh_RangeError : PySem.W.hasDictIn K C_RangeError = true)
    (xm_RangeError : PySem.W.mroIn K C_RangeError (.ref C_RangeError) = some true)
    (xu_RangeError : PySem.W.ks_superIn K C_RangeError C_RangeError "__init__" = some (some (.builtin "ValueError.__init__")))
    (xf_RangeError : K.lookup I_RangeError = some ⟨foc_RangeError, fod_RangeError, .func (PySem.W.ksFn "__init__" "RangeError.__init__" (PySem.KX.args1 "number" ⟨11, 17, 11, 21⟩ ⟨11, 23, 11, 29⟩) [PySem.KX.supS "integer out of bounds" fk_RangeError ⟨12, 8, 12, 13⟩ ⟨12, 8, 12, 15⟩ ⟨12, 8, 12, 24⟩ ⟨12, 25, 12, 48⟩ ⟨12, 8, 12, 49⟩ ⟨12, 8, 12, 49⟩, PySem.KX.fldS "number" ⟨13, 8, 13, 12⟩ ⟨13, 8, 13, 19⟩ ⟨13, 22, 13, 28⟩ ⟨13, 8, 13, 28⟩] (PySem.KX.scope1 "number") .none .none fdoc_RangeError fpm_RangeError fan_RangeError (.ref W_RangeError) fct_RangeError V_RangeError), fsl_RangeError⟩)
    (xd_RangeError : PySem.W.codeIn K (.ref W_RangeError) "RangeError.__init__" = true)
    (xn_RangeError : PySem.W.findIn K (.ref C_RangeError) "number" = some (none))
    (xl_RangeError : K.lookup V_RangeError = some ⟨cl_RangeError, cld_RangeError, .cell (some (.ref C_RangeError)), csl_RangeError⟩)
    (xw_RangeError : K.lookup W_RangeError = some ⟨ccl_RangeError, cdd_RangeError, .fields cv_RangeError, ccs_RangeError⟩)
    (xw2_RangeError : cv_RangeError[2]? = some (.str cf_RangeError tf_RangeError))
    (xw3_RangeError : ((prog.main.file : Str) == cf_RangeError) = true)
    (ic_RangeError : (PySem.W.clsIn K C_RangeError).isSome = true)
    (ih_RangeError : PySem.W.findIn K (.ref C_RangeError) "__class__" = some (some (.builtin "object.__class__")))
    (im_RangeError : PySem.W.mroIn K C_RangeError (.type "object") = some true)
    (ex_RangeError : PySem.W.exmOne K (.ref C_RangeError) (.ref C_PrimedeepError) = some true)
    (kv_RangeError : PySem.W.kitOne K (.ref C_RangeError) (.type "ValueError") = some true)
    (kt_RangeError_SizeError : PySem.W.kitOne K (.ref C_RangeError) (.ref C_SizeError) = some false)
    (kt_RangeError_RangeError : PySem.W.kitOne K (.ref C_RangeError) (.ref C_RangeError) = some true)
    (kt_RangeError_PrimeError : PySem.W.kitOne K (.ref C_RangeError) (.ref C_PrimeError) = some false)
    (kt_RangeError_DepthError : PySem.W.kitOne K (.ref C_RangeError) (.ref C_DepthError) = some false)
    (kt_RangeError_ZeroError : PySem.W.kitOne K (.ref C_RangeError) (.ref C_ZeroError) = some false)
    (kt_RangeError_MixError : PySem.W.kitOne K (.ref C_RangeError) (.ref C_MixError) = some false)
    (kt_RangeError_BarError : PySem.W.kitOne K (.ref C_RangeError) (.ref C_BarError) = some false)
    (kt_RangeError_MonicError : PySem.W.kitOne K (.ref C_RangeError) (.ref C_MonicError) = some false)
    (kt_RangeError_RepeatError : PySem.W.kitOne K (.ref C_RangeError) (.ref C_RepeatError) = some false)
    (kt_RangeError_FieldError : PySem.W.kitOne K (.ref C_RangeError) (.ref C_FieldError) = some false)
    (kt_RangeError_EditError : PySem.W.kitOne K (.ref C_RangeError) (.ref C_EditError) = some false)
    (kt_RangeError_TextError : PySem.W.kitOne K (.ref C_RangeError) (.ref C_TextError) = some false)
    (kt_RangeError_HistoryError : PySem.W.kitOne K (.ref C_RangeError) (.ref C_HistoryError) = some false)
    (xc_PrimeError : K.lookup C_PrimeError = some (PySem.excClassObj nm_PrimeError q_PrimeError C_PrimeError N_PrimeError bs_PrimeError bm_PrimeError true sn_PrimeError sub_PrimeError ab_PrimeError col_PrimeError dd_PrimeError m0_PrimeError m1_PrimeError m2_PrimeError m3_PrimeError m5_PrimeError "ValueError.__new__"))
    (xr_PrimeError : PySem.HandSPX.refsVE bm_PrimeError = true)
    (xs_PrimeError : PySem.W.findIn K (.ref C_PrimeError) "__setattr__" = some (some (.builtin "object.__setattr__")))
    (xg_PrimeError : PySem.W.findIn K (.ref C_PrimeError) "__getattribute__" = some (some (.builtin "BaseException.__getattribute__")))
    (xgg_PrimeError : PySem.W.findIn K (.ref C_PrimeError) "__getattr__" = some (none))
    (xi_PrimeError : PySem.W.findIn K (.ref C_PrimeError) "__init__" = some (some (.ref I_PrimeError)))
    (xt_PrimeError : PySem.W.typeIn K (.ref I_PrimeError) = some (.type "function"))
    (xk_PrimeError : PySem.W.keepIn K (.ref C_PrimeError) = true)
    (xe_PrimeError : PySem.W.subIn K (.ref C_PrimeError) (.type "BaseException") = some true)
    (xv_PrimeError : PySem.W.subIn K (.ref C_PrimeError) (.type "ValueError") = some true)
    (xy_PrimeError : PySem.W.typeIn K (.ref C_PrimeError) = some (.type "type"))
    (xh_PrimeError : PySem.W.hasDictIn K C_PrimeError = true)
    (xm_PrimeError : PySem.W.mroIn K C_PrimeError (.ref C_PrimeError) = some true)
    (xu_PrimeError : PySem.W.ks_superIn K C_PrimeError C_PrimeError "__init__" = some (some (.builtin "ValueError.__init__")))
    (xf_PrimeError : K.lookup I_PrimeError = some ⟨foc_PrimeError, fod_PrimeError, .func (PySem.W.ksFn "__init__" "PrimeError.__init__" (PySem.KX.args1 "number" ⟨16, 17, 16, 21⟩ ⟨16, 23, 16, 29⟩) [PySem.KX.supS "not an allowed prime" fk_PrimeError ⟨17, 8, 17, 13⟩ ⟨17, 8, 17, 15⟩ ⟨17, 8, 17, 24⟩ ⟨17, 25, 17, 47⟩ ⟨17, 8, 17, 48⟩ ⟨17, 8, 17, 48⟩, PySem.KX.fldS "number" ⟨18, 8, 18, 12⟩ ⟨18, 8, 18, 19⟩ ⟨18, 22, 18, 28⟩ ⟨18, 8, 18, 28⟩] (PySem.KX.scope1 "number") .none .none fdoc_PrimeError fpm_PrimeError fan_PrimeError (.ref W_PrimeError) fct_PrimeError V_PrimeError), fsl_PrimeError⟩)
    (xd_PrimeError : PySem.W.codeIn K (.ref W_PrimeError) "PrimeError.__init__" = true)
    (xn_PrimeError : PySem.W.findIn K (.ref C_PrimeError) "number" = some (none))
    (xl_PrimeError : K.lookup V_PrimeError = some ⟨cl_PrimeError, cld_PrimeError, .cell (some (.ref C_PrimeError)), csl_PrimeError⟩)
    (xw_PrimeError : K.lookup W_PrimeError = some ⟨ccl_PrimeError, cdd_PrimeError, .fields cv_PrimeError, ccs_PrimeError⟩)
    (xw2_PrimeError : cv_PrimeError[2]? = some (.str cf_PrimeError tf_PrimeError))
    (xw3_PrimeError : ((prog.main.file : Str) == cf_PrimeError) = true)
    (ic_PrimeError : (PySem.W.clsIn K C_PrimeError).isSome = true)
    (ih_PrimeError : PySem.W.findIn K (.ref C_PrimeError) "__class__" = some (some (.builtin "object.__class__")))
    (im_PrimeError : PySem.W.mroIn K C_PrimeError (.type "object") = some true)
    (ex_PrimeError : PySem.W.exmOne K (.ref C_PrimeError) (.ref C_PrimedeepError) = some true)
    (kv_PrimeError : PySem.W.kitOne K (.ref C_PrimeError) (.type "ValueError") = some true)
    (kt_PrimeError_SizeError : PySem.W.kitOne K (.ref C_PrimeError) (.ref C_SizeError) = some false)
    (kt_PrimeError_RangeError : PySem.W.kitOne K (.ref C_PrimeError) (.ref C_RangeError) = some false)
    (kt_PrimeError_PrimeError : PySem.W.kitOne K (.ref C_PrimeError) (.ref C_PrimeError) = some true)
    (kt_PrimeError_DepthError : PySem.W.kitOne K (.ref C_PrimeError) (.ref C_DepthError) = some false)
    (kt_PrimeError_ZeroError : PySem.W.kitOne K (.ref C_PrimeError) (.ref C_ZeroError) = some false)
    (kt_PrimeError_MixError : PySem.W.kitOne K (.ref C_PrimeError) (.ref C_MixError) = some false)
    (kt_PrimeError_BarError : PySem.W.kitOne K (.ref C_PrimeError) (.ref C_BarError) = some false)
    (kt_PrimeError_MonicError : PySem.W.kitOne K (.ref C_PrimeError) (.ref C_MonicError) = some false)
    (kt_PrimeError_RepeatError : PySem.W.kitOne K (.ref C_PrimeError) (.ref C_RepeatError) = some false)
    (kt_PrimeError_FieldError : PySem.W.kitOne K (.ref C_PrimeError) (.ref C_FieldError) = some false)
    (kt_PrimeError_EditError : PySem.W.kitOne K (.ref C_PrimeError) (.ref C_EditError) = some false)
    (kt_PrimeError_TextError : PySem.W.kitOne K (.ref C_PrimeError) (.ref C_TextError) = some false)
    (kt_PrimeError_HistoryError : PySem.W.kitOne K (.ref C_PrimeError) (.ref C_HistoryError) = some false)
    (xc_ZeroError : K.lookup C_ZeroError = some (PySem.excClassObj nm_ZeroError q_ZeroError C_ZeroError N_ZeroError bs_ZeroError bm_ZeroError true sn_ZeroError sub_ZeroError ab_ZeroError col_ZeroError dd_ZeroError m0_ZeroError m1_ZeroError m2_ZeroError m3_ZeroError m5_ZeroError "ValueError.__new__"))
    (xr_ZeroError : PySem.HandSPX.refsVE bm_ZeroError = true)
    (xs_ZeroError : PySem.W.findIn K (.ref C_ZeroError) "__setattr__" = some (some (.builtin "object.__setattr__")))
    (xg_ZeroError : PySem.W.findIn K (.ref C_ZeroError) "__getattribute__" = some (some (.builtin "BaseException.__getattribute__")))
    (xgg_ZeroError : PySem.W.findIn K (.ref C_ZeroError) "__getattr__" = some (none))
    (xi_ZeroError : PySem.W.findIn K (.ref C_ZeroError) "__init__" = some (some (.ref I_ZeroError)))
    (xt_ZeroError : PySem.W.typeIn K (.ref I_ZeroError) = some (.type "function"))
    (xk_ZeroError : PySem.W.keepIn K (.ref C_ZeroError) = true)
    (xe_ZeroError : PySem.W.subIn K (.ref C_ZeroError) (.type "BaseException") = some true)
    (xv_ZeroError : PySem.W.subIn K (.ref C_ZeroError) (.type "ValueError") = some true)
    (xy_ZeroError : PySem.W.typeIn K (.ref C_ZeroError) = some (.type "type"))
    (xh_ZeroError : PySem.W.hasDictIn K C_ZeroError = true)
    (xm_ZeroError : PySem.W.mroIn K C_ZeroError (.ref C_ZeroError) = some true)
    (xu_ZeroError : PySem.W.ks_superIn K C_ZeroError C_ZeroError "__init__" = some (some (.builtin "ValueError.__init__")))
    (xf_ZeroError : K.lookup I_ZeroError = some ⟨foc_ZeroError, fod_ZeroError, .func (PySem.W.ksFn "__init__" "ZeroError.__init__" (PySem.KX.args0 ⟨21, 17, 21, 21⟩) [PySem.KX.supS "must not be 0" fk_ZeroError ⟨22, 8, 22, 13⟩ ⟨22, 8, 22, 15⟩ ⟨22, 8, 22, 24⟩ ⟨22, 25, 22, 40⟩ ⟨22, 8, 22, 41⟩ ⟨22, 8, 22, 41⟩] PySem.KX.scope0 .none .none fdoc_ZeroError fpm_ZeroError fan_ZeroError (.ref W_ZeroError) fct_ZeroError V_ZeroError), fsl_ZeroError⟩)
    (xd_ZeroError : PySem.W.codeIn K (.ref W_ZeroError) "ZeroError.__init__" = true)
    (xl_ZeroError : K.lookup V_ZeroError = some ⟨cl_ZeroError, cld_ZeroError, .cell (some (.ref C_ZeroError)), csl_ZeroError⟩)
    (xw_ZeroError : K.lookup W_ZeroError = some ⟨ccl_ZeroError, cdd_ZeroError, .fields cv_ZeroError, ccs_ZeroError⟩)
    (xw2_ZeroError : cv_ZeroError[2]? = some (.str cf_ZeroError tf_ZeroError))
    (xw3_ZeroError : ((prog.main.file : Str) == cf_ZeroError) = true)
    (ic_ZeroError : (PySem.W.clsIn K C_ZeroError).isSome = true)
    (ih_ZeroError : PySem.W.findIn K (.ref C_ZeroError) "__class__" = some (some (.builtin "object.__class__")))
    (im_ZeroError : PySem.W.mroIn K C_ZeroError (.type "object") = some true)
    (ex_ZeroError : PySem.W.exmOne K (.ref C_ZeroError) (.ref C_PrimedeepError) = some true)
    (kv_ZeroError : PySem.W.kitOne K (.ref C_ZeroError) (.type "ValueError") = some true)
    (kt_ZeroError_SizeError : PySem.W.kitOne K (.ref C_ZeroError) (.ref C_SizeError) = some false)
    (kt_ZeroError_RangeError : PySem.W.kitOne K (.ref C_ZeroError) (.ref C_RangeError) = some false)
    (kt_ZeroError_PrimeError : PySem.W.kitOne K (.ref C_ZeroError) (.ref C_PrimeError) = some false)
    (kt_ZeroError_DepthError : PySem.W.kitOne K (.ref C_ZeroError) (.ref C_DepthError) = some false)
    (kt_ZeroError_ZeroError : PySem.W.kitOne K (.ref C_ZeroError) (.ref C_ZeroError) = some true)
    (kt_ZeroError_MixError : PySem.W.kitOne K (.ref C_ZeroError) (.ref C_MixError) = some false)
    (kt_ZeroError_BarError : PySem.W.kitOne K (.ref C_ZeroError) (.ref C_BarError) = some false)
    (kt_ZeroError_MonicError : PySem.W.kitOne K (.ref C_ZeroError) (.ref C_MonicError) = some false)
    (kt_ZeroError_RepeatError : PySem.W.kitOne K (.ref C_ZeroError) (.ref C_RepeatError) = some false)
    (kt_ZeroError_FieldError : PySem.W.kitOne K (.ref C_ZeroError) (.ref C_FieldError) = some false)
    (kt_ZeroError_EditError : PySem.W.kitOne K (.ref C_ZeroError) (.ref C_EditError) = some false)
    (kt_ZeroError_TextError : PySem.W.kitOne K (.ref C_ZeroError) (.ref C_TextError) = some false)
    (kt_ZeroError_HistoryError : PySem.W.kitOne K (.ref C_ZeroError) (.ref C_HistoryError) = some false)
    (icn : PySem.W.specialIn K (.builtin "object.__class__") "__get__" = some (some (.builtin "getset_descriptor.__get__")))
    (ict : PySem.W.takesIn K (.builtin "object.__class__") = some true) :
    ∃ fd : FuncData, (∀ (s : Shared) (v : Value), BindsTo s fd ⟨[v], []⟩ [("script", v)]) ∧ ∀ base : Heap, K.In base → base.Ns mainGlobals mg → FnOk prog w K mg base CX0 9 fa fd ["script"] (sp_law K) := by
  have e := hfa.symm.trans (PySem.W.mg_of X G a_law)
  cases e
  have T : Txt prog K mg ⟨f_prime_parts, _, f_look_prime, _, f_look_range, _, f_power, _, f_power_mod, _, f_inverse_mod, _, f_parted, _, f_int_depth, _, f_look_numbers, _, f_look_zeros, _, f_square_unit, _, f_odd_sign, _, f_even_sign, _, f_symbol_of, _, f_symbol, _, f_unit_root, _, f_start_pair, _, f_first_point, _, f_conic_point, _, f_primes_of, _, f_with_two, _, f_conic_bars, _, f_law_cells, _, f_law_draw, _, f_law_is_integer, _, f_law_power, _, f_law_primes, _, f_law_number, _, f_law_is_square, _, f_law_walked, _, f_law_symbol, _, f_law_bars, _, f_law_same_list, _, f_law_point_right, _, f_law_prime_right, _, f_law_refusal, _, f_law_refused, _, f_law_refusals_right, _, fa, _, aS, C_PrimedeepError, 0, 0, 0, C_SizeError, 0, 0, 0, C_RangeError, I_RangeError, V_RangeError, W_RangeError, C_PrimeError, I_PrimeError, V_PrimeError, W_PrimeError, C_DepthError, 0, 0, 0, C_ZeroError, I_ZeroError, V_ZeroError, W_ZeroError, C_MixError, 0, 0, 0, C_BarError, 0, 0, 0, C_MonicError, 0, 0, 0, C_RepeatError, 0, 0, 0, C_FieldError, 0, 0, 0, C_EditError, 0, 0, 0, C_TextError, 0, 0, 0, C_HistoryError, 0, 0, 0⟩ :=
    { F_prime_parts := fun_mk (st := s_prime_parts) l_prime_parts c_prime_parts k_prime_parts,
      g_prime_parts := PySem.W.mg_of X G a_prime_parts,
      F_look_prime := fun_mk (st := s_look_prime) l_look_prime c_look_prime k_look_prime,
      g_look_prime := PySem.W.mg_of X G a_look_prime,
      F_look_range := fun_mk (st := s_look_range) l_look_range c_look_range k_look_range,
      g_look_range := PySem.W.mg_of X G a_look_range,
      F_power := fun_mk (st := s_power) l_power c_power k_power,
      g_power := PySem.W.mg_of X G a_power,
      F_power_mod := fun_mk (st := s_power_mod) l_power_mod c_power_mod k_power_mod,
      g_power_mod := PySem.W.mg_of X G a_power_mod,
      F_inverse_mod := fun_mk (st := s_inverse_mod) l_inverse_mod c_inverse_mod k_inverse_mod,
      g_inverse_mod := PySem.W.mg_of X G a_inverse_mod,
      F_parted := fun_mk (st := s_parted) l_parted c_parted k_parted,
      g_parted := PySem.W.mg_of X G a_parted,
      F_int_depth := fun_mk (st := s_int_depth) l_int_depth c_int_depth k_int_depth,
      g_int_depth := PySem.W.mg_of X G a_int_depth,
      F_look_numbers := fun_mk (st := s_look_numbers) l_look_numbers c_look_numbers k_look_numbers,
      g_look_numbers := PySem.W.mg_of X G a_look_numbers,
      F_look_zeros := fun_mk (st := s_look_zeros) l_look_zeros c_look_zeros k_look_zeros,
      g_look_zeros := PySem.W.mg_of X G a_look_zeros,
      F_square_unit := fun_mk (st := s_square_unit) l_square_unit c_square_unit k_square_unit,
      g_square_unit := PySem.W.mg_of X G a_square_unit,
      F_odd_sign := fun_mk (st := s_odd_sign) l_odd_sign c_odd_sign k_odd_sign,
      g_odd_sign := PySem.W.mg_of X G a_odd_sign,
      F_even_sign := fun_mk (st := s_even_sign) l_even_sign c_even_sign k_even_sign,
      g_even_sign := PySem.W.mg_of X G a_even_sign,
      F_symbol_of := fun_mk (st := s_symbol_of) l_symbol_of c_symbol_of k_symbol_of,
      g_symbol_of := PySem.W.mg_of X G a_symbol_of,
      F_symbol := fun_mk (st := s_symbol) l_symbol c_symbol k_symbol,
      g_symbol := PySem.W.mg_of X G a_symbol,
      F_unit_root := fun_mk (st := s_unit_root) l_unit_root c_unit_root k_unit_root,
      g_unit_root := PySem.W.mg_of X G a_unit_root,
      F_start_pair := fun_mk (st := s_start_pair) l_start_pair c_start_pair k_start_pair,
      g_start_pair := PySem.W.mg_of X G a_start_pair,
      F_first_point := fun_mk (st := s_first_point) l_first_point c_first_point k_first_point,
      g_first_point := PySem.W.mg_of X G a_first_point,
      F_conic_point := fun_mk (st := s_conic_point) l_conic_point c_conic_point k_conic_point,
      g_conic_point := PySem.W.mg_of X G a_conic_point,
      F_primes_of := fun_mk (st := s_primes_of) l_primes_of c_primes_of k_primes_of,
      g_primes_of := PySem.W.mg_of X G a_primes_of,
      F_with_two := fun_mk (st := s_with_two) l_with_two c_with_two k_with_two,
      g_with_two := PySem.W.mg_of X G a_with_two,
      F_conic_bars := fun_mk (st := s_conic_bars) l_conic_bars c_conic_bars k_conic_bars,
      g_conic_bars := PySem.W.mg_of X G a_conic_bars,
      F_law_cells := fun_mk (st := s_law_cells) l_law_cells c_law_cells k_law_cells,
      g_law_cells := PySem.W.mg_of X G a_law_cells,
      F_law_draw := fun_mk (st := s_law_draw) l_law_draw c_law_draw k_law_draw,
      g_law_draw := PySem.W.mg_of X G a_law_draw,
      F_law_is_integer := fun_mk (st := s_law_is_integer) l_law_is_integer c_law_is_integer k_law_is_integer,
      g_law_is_integer := PySem.W.mg_of X G a_law_is_integer,
      F_law_power := fun_mk (st := s_law_power) l_law_power c_law_power k_law_power,
      g_law_power := PySem.W.mg_of X G a_law_power,
      F_law_primes := fun_mk (st := s_law_primes) l_law_primes c_law_primes k_law_primes,
      g_law_primes := PySem.W.mg_of X G a_law_primes,
      F_law_number := fun_mk (st := s_law_number) l_law_number c_law_number k_law_number,
      g_law_number := PySem.W.mg_of X G a_law_number,
      F_law_is_square := fun_mk (st := s_law_is_square) l_law_is_square c_law_is_square k_law_is_square,
      g_law_is_square := PySem.W.mg_of X G a_law_is_square,
      F_law_walked := fun_mk (st := s_law_walked) l_law_walked c_law_walked k_law_walked,
      g_law_walked := PySem.W.mg_of X G a_law_walked,
      F_law_symbol := fun_mk (st := s_law_symbol) l_law_symbol c_law_symbol k_law_symbol,
      g_law_symbol := PySem.W.mg_of X G a_law_symbol,
      F_law_bars := fun_mk (st := s_law_bars) l_law_bars c_law_bars k_law_bars,
      g_law_bars := PySem.W.mg_of X G a_law_bars,
      F_law_same_list := fun_mk (st := s_law_same_list) l_law_same_list c_law_same_list k_law_same_list,
      g_law_same_list := PySem.W.mg_of X G a_law_same_list,
      F_law_point_right := fun_mk (st := s_law_point_right) l_law_point_right c_law_point_right k_law_point_right,
      g_law_point_right := PySem.W.mg_of X G a_law_point_right,
      F_law_prime_right := fun_mk (st := s_law_prime_right) l_law_prime_right c_law_prime_right k_law_prime_right,
      g_law_prime_right := PySem.W.mg_of X G a_law_prime_right,
      F_law_refusal := fun_mk (st := s_law_refusal) l_law_refusal c_law_refusal k_law_refusal,
      g_law_refusal := PySem.W.mg_of X G a_law_refusal,
      F_law_refused := fun_mk (st := s_law_refused) l_law_refused c_law_refused k_law_refused,
      g_law_refused := PySem.W.mg_of X G a_law_refused,
      F_law_refusals_right := fun_mk (st := s_law_refusals_right) l_law_refusals_right c_law_refusals_right k_law_refusals_right,
      g_law_refusals_right := PySem.W.mg_of X G a_law_refusals_right,
      F_law := fun_mk (st := s_law) l_law c_law k_law,
      g_law := PySem.W.mg_of X G a_law,
      n_len := PySem.W.mg_none_of X G n_len,
      n_int := PySem.W.mg_none_of X G n_int,
      n_bool := PySem.W.mg_none_of X G n_bool,
      n_tuple := PySem.W.mg_none_of X G n_tuple,
      n_list := PySem.W.mg_none_of X G n_list,
      n_abs := PySem.W.mg_none_of X G n_abs,
      n_isinstance := PySem.W.mg_none_of X G n_isinstance,
      n_max := PySem.W.mg_none_of X G n_max,
      n_min := PySem.W.mg_none_of X G n_min,
      n_range := PySem.W.mg_none_of X G n_range,
      n_sorted := PySem.W.mg_none_of X G n_sorted,
      n_ValueError := PySem.W.mg_none_of X G n_ValueError,
      c_MOST_PARTED := ⟨_, PySem.W.mg_of X G c_MOST_PARTED⟩,
      c_MOST_NUMBER := ⟨_, PySem.W.mg_of X G c_MOST_NUMBER⟩,
      c_MOST_DIGITS := ⟨_, PySem.W.mg_of X G c_MOST_DIGITS⟩,
      c_LARGEST := ⟨_, PySem.W.mg_of X G c_LARGEST⟩,
      c_MOST_PRIME := ⟨_, PySem.W.mg_of X G c_MOST_PRIME⟩,
      c_SMALL_PRIMES := PySem.W.mg_of X G aSP,
      tSP := ⟨_, _, _, _, lSP, by rw [sizeLine_eq]; omega, PySem.KX.vals_of_ints iSP⟩,
      g_PrimedeepError := PySem.W.mg_of X G e_PrimedeepError,
      g_SizeError := PySem.W.mg_of X G e_SizeError,
      g_RangeError := PySem.W.mg_of X G e_RangeError,
      g_PrimeError := PySem.W.mg_of X G e_PrimeError,
      g_DepthError := PySem.W.mg_of X G e_DepthError,
      g_ZeroError := PySem.W.mg_of X G e_ZeroError,
      g_MixError := PySem.W.mg_of X G e_MixError,
      g_BarError := PySem.W.mg_of X G e_BarError,
      g_MonicError := PySem.W.mg_of X G e_MonicError,
      g_RepeatError := PySem.W.mg_of X G e_RepeatError,
      g_FieldError := PySem.W.mg_of X G e_FieldError,
      g_EditError := PySem.W.mg_of X G e_EditError,
      g_TextError := PySem.W.mg_of X G e_TextError,
      g_HistoryError := PySem.W.mg_of X G e_HistoryError,
      e_RangeError := PySem.KX.err1_mk X G e_RangeError xc_RangeError xr_RangeError xs_RangeError xg_RangeError xgg_RangeError xi_RangeError xt_RangeError xk_RangeError xe_RangeError xv_RangeError xy_RangeError xh_RangeError xm_RangeError xu_RangeError tp sg xl_RangeError xw_RangeError xw2_RangeError xw3_RangeError topS_ xn_RangeError (by decide) xf_RangeError xd_RangeError (fun _ _ => ⟨_, rfl⟩),
      ei_RangeError := ⟨ic_RangeError, xg_RangeError, xgg_RangeError, xe_RangeError, ih_RangeError, icn, ict, im_RangeError⟩,
      ex_RangeError := ex_RangeError,
      kv_RangeError := kv_RangeError,
      kt_RangeError_SizeError := kt_RangeError_SizeError,
      kt_RangeError_RangeError := kt_RangeError_RangeError,
      kt_RangeError_PrimeError := kt_RangeError_PrimeError,
      kt_RangeError_DepthError := kt_RangeError_DepthError,
      kt_RangeError_ZeroError := kt_RangeError_ZeroError,
      kt_RangeError_MixError := kt_RangeError_MixError,
      kt_RangeError_BarError := kt_RangeError_BarError,
      kt_RangeError_MonicError := kt_RangeError_MonicError,
      kt_RangeError_RepeatError := kt_RangeError_RepeatError,
      kt_RangeError_FieldError := kt_RangeError_FieldError,
      kt_RangeError_EditError := kt_RangeError_EditError,
      kt_RangeError_TextError := kt_RangeError_TextError,
      kt_RangeError_HistoryError := kt_RangeError_HistoryError,
      e_PrimeError := PySem.KX.err1_mk X G e_PrimeError xc_PrimeError xr_PrimeError xs_PrimeError xg_PrimeError xgg_PrimeError xi_PrimeError xt_PrimeError xk_PrimeError xe_PrimeError xv_PrimeError xy_PrimeError xh_PrimeError xm_PrimeError xu_PrimeError tp sg xl_PrimeError xw_PrimeError xw2_PrimeError xw3_PrimeError topS_ xn_PrimeError (by decide) xf_PrimeError xd_PrimeError (fun _ _ => ⟨_, rfl⟩),
      ei_PrimeError := ⟨ic_PrimeError, xg_PrimeError, xgg_PrimeError, xe_PrimeError, ih_PrimeError, icn, ict, im_PrimeError⟩,
      ex_PrimeError := ex_PrimeError,
      kv_PrimeError := kv_PrimeError,
      kt_PrimeError_SizeError := kt_PrimeError_SizeError,
      kt_PrimeError_RangeError := kt_PrimeError_RangeError,
      kt_PrimeError_PrimeError := kt_PrimeError_PrimeError,
      kt_PrimeError_DepthError := kt_PrimeError_DepthError,
      kt_PrimeError_ZeroError := kt_PrimeError_ZeroError,
      kt_PrimeError_MixError := kt_PrimeError_MixError,
      kt_PrimeError_BarError := kt_PrimeError_BarError,
      kt_PrimeError_MonicError := kt_PrimeError_MonicError,
      kt_PrimeError_RepeatError := kt_PrimeError_RepeatError,
      kt_PrimeError_FieldError := kt_PrimeError_FieldError,
      kt_PrimeError_EditError := kt_PrimeError_EditError,
      kt_PrimeError_TextError := kt_PrimeError_TextError,
      kt_PrimeError_HistoryError := kt_PrimeError_HistoryError,
      e_ZeroError := PySem.KX.err0_mk X G e_ZeroError xc_ZeroError xr_ZeroError xs_ZeroError xg_ZeroError xgg_ZeroError xi_ZeroError xt_ZeroError xk_ZeroError xe_ZeroError xv_ZeroError xy_ZeroError xh_ZeroError xm_ZeroError xu_ZeroError tp sg xl_ZeroError xw_ZeroError xw2_ZeroError xw3_ZeroError topS_ xf_ZeroError xd_ZeroError (fun _ _ => ⟨_, rfl⟩),
      ei_ZeroError := ⟨ic_ZeroError, xg_ZeroError, xgg_ZeroError, xe_ZeroError, ih_ZeroError, icn, ict, im_ZeroError⟩,
      ex_ZeroError := ex_ZeroError,
      kv_ZeroError := kv_ZeroError,
      kt_ZeroError_SizeError := kt_ZeroError_SizeError,
      kt_ZeroError_RangeError := kt_ZeroError_RangeError,
      kt_ZeroError_PrimeError := kt_ZeroError_PrimeError,
      kt_ZeroError_DepthError := kt_ZeroError_DepthError,
      kt_ZeroError_ZeroError := kt_ZeroError_ZeroError,
      kt_ZeroError_MixError := kt_ZeroError_MixError,
      kt_ZeroError_BarError := kt_ZeroError_BarError,
      kt_ZeroError_MonicError := kt_ZeroError_MonicError,
      kt_ZeroError_RepeatError := kt_ZeroError_RepeatError,
      kt_ZeroError_FieldError := kt_ZeroError_FieldError,
      kt_ZeroError_EditError := kt_ZeroError_EditError,
      kt_ZeroError_TextError := kt_ZeroError_TextError,
      kt_ZeroError_HistoryError := kt_ZeroError_HistoryError }
  exact ⟨_, fun s v => by obtain ⟨_, _, kV, doc, pm, an, cdv, ct, _, e, _⟩ := T.F_law.ex; exact .of_eq rfl, fun base _ _ => ok_law T⟩
end K9
open PySem PySem.W PyProof.Rows
theorem PySem.Challenge.cw_primedeep_k90_whole_conic_places_holds : PySem.Challenge.rw_primedeep_k90_whole_conic_places.Holds := by
  w_on; o_law; k_head; (case hw => w_witness2)
  k_fill
  refine L2.walk_of (l := PySem.Challenge.rw_primedeep_k90_whole_conic_places) (n := 63) (k := 9) (x := "script") (CX := fun _ => L2.CX0) (sp := fun w => K9.sp_law _) rfl (by decide) rfl ⟨rfl, by decide, by decide⟩ (fun w h Y => PySem.W.kIn_of Y) ?F (fun _ _ a ns hl _ hS => ⟨a, ns, rfl, hS, fun _ => rfl⟩) (fun _ _ _ _ _ h => h)
  case F =>
    intro w mg fa h KX G hmg
    refine' K9.all_mk KX G hmg ?a_prime_parts ?l_prime_parts ?c_prime_parts ?k_prime_parts ?a_look_prime ?l_look_prime ?c_look_prime ?k_look_prime ?a_look_range ?l_look_range ?c_look_range ?k_look_range ?a_power ?l_power ?c_power ?k_power ?a_power_mod ?l_power_mod ?c_power_mod ?k_power_mod ?a_inverse_mod ?l_inverse_mod ?c_inverse_mod ?k_inverse_mod ?a_parted ?l_parted ?c_parted ?k_parted ?a_int_depth ?l_int_depth ?c_int_depth ?k_int_depth ?a_look_numbers ?l_look_numbers ?c_look_numbers ?k_look_numbers ?a_look_zeros ?l_look_zeros ?c_look_zeros ?k_look_zeros ?a_square_unit ?l_square_unit ?c_square_unit ?k_square_unit ?a_odd_sign ?l_odd_sign ?c_odd_sign ?k_odd_sign ?a_even_sign ?l_even_sign ?c_even_sign ?k_even_sign ?a_symbol_of ?l_symbol_of ?c_symbol_of ?k_symbol_of ?a_symbol ?l_symbol ?c_symbol ?k_symbol ?a_unit_root ?l_unit_root ?c_unit_root ?k_unit_root ?a_start_pair ?l_start_pair ?c_start_pair ?k_start_pair ?a_first_point ?l_first_point ?c_first_point ?k_first_point ?a_conic_point ?l_conic_point ?c_conic_point ?k_conic_point ?a_primes_of ?l_primes_of ?c_primes_of ?k_primes_of ?a_with_two ?l_with_two ?c_with_two ?k_with_two ?a_conic_bars ?l_conic_bars ?c_conic_bars ?k_conic_bars ?a_law_cells ?l_law_cells ?c_law_cells ?k_law_cells ?a_law_draw ?l_law_draw ?c_law_draw ?k_law_draw ?a_law_is_integer ?l_law_is_integer ?c_law_is_integer ?k_law_is_integer ?a_law_power ?l_law_power ?c_law_power ?k_law_power ?a_law_primes ?l_law_primes ?c_law_primes ?k_law_primes ?a_law_number ?l_law_number ?c_law_number ?k_law_number ?a_law_is_square ?l_law_is_square ?c_law_is_square ?k_law_is_square ?a_law_walked ?l_law_walked ?c_law_walked ?k_law_walked ?a_law_symbol ?l_law_symbol ?c_law_symbol ?k_law_symbol ?a_law_bars ?l_law_bars ?c_law_bars ?k_law_bars ?a_law_same_list ?l_law_same_list ?c_law_same_list ?k_law_same_list ?a_law_point_right ?l_law_point_right ?c_law_point_right ?k_law_point_right ?a_law_prime_right ?l_law_prime_right ?c_law_prime_right ?k_law_prime_right ?a_law_refusal ?l_law_refusal ?c_law_refusal ?k_law_refusal ?a_law_refused ?l_law_refused ?c_law_refused ?k_law_refused ?a_law_refusals_right ?l_law_refusals_right ?c_law_refusals_right ?k_law_refusals_right ?a_law ?l_law ?c_law ?k_law ?n_len ?n_int ?n_bool ?n_tuple ?n_list ?n_abs ?n_isinstance ?n_max ?n_min ?n_range ?n_sorted ?n_ValueError ?c_MOST_PARTED ?c_MOST_NUMBER ?c_MOST_DIGITS ?c_LARGEST ?c_MOST_PRIME ?aSP ?lSP ?iSP ?zSP ?e_PrimedeepError ?e_SizeError ?e_RangeError ?e_PrimeError ?e_DepthError ?e_ZeroError ?e_MixError ?e_BarError ?e_MonicError ?e_RepeatError ?e_FieldError ?e_EditError ?e_TextError ?e_HistoryError ?tp ?sg ?topS_ ?xc_RangeError ?xr_RangeError ?xs_RangeError ?xg_RangeError ?xgg_RangeError ?xi_RangeError ?xt_RangeError ?xk_RangeError ?xe_RangeError ?xv_RangeError ?xy_RangeError ?xh_RangeError ?xm_RangeError ?xu_RangeError ?xf_RangeError ?xd_RangeError ?xn_RangeError ?xl_RangeError ?xw_RangeError ?xw2_RangeError ?xw3_RangeError ?ic_RangeError ?ih_RangeError ?im_RangeError ?ex_RangeError ?kv_RangeError ?kt_RangeError_SizeError ?kt_RangeError_RangeError ?kt_RangeError_PrimeError ?kt_RangeError_DepthError ?kt_RangeError_ZeroError ?kt_RangeError_MixError ?kt_RangeError_BarError ?kt_RangeError_MonicError ?kt_RangeError_RepeatError ?kt_RangeError_FieldError ?kt_RangeError_EditError ?kt_RangeError_TextError ?kt_RangeError_HistoryError ?xc_PrimeError ?xr_PrimeError ?xs_PrimeError ?xg_PrimeError ?xgg_PrimeError ?xi_PrimeError ?xt_PrimeError ?xk_PrimeError ?xe_PrimeError ?xv_PrimeError ?xy_PrimeError ?xh_PrimeError ?xm_PrimeError ?xu_PrimeError ?xf_PrimeError ?xd_PrimeError ?xn_PrimeError ?xl_PrimeError ?xw_PrimeError ?xw2_PrimeError ?xw3_PrimeError ?ic_PrimeError ?ih_PrimeError ?im_PrimeError ?ex_PrimeError ?kv_PrimeError ?kt_PrimeError_SizeError ?kt_PrimeError_RangeError ?kt_PrimeError_PrimeError ?kt_PrimeError_DepthError ?kt_PrimeError_ZeroError ?kt_PrimeError_MixError ?kt_PrimeError_BarError ?kt_PrimeError_MonicError ?kt_PrimeError_RepeatError ?kt_PrimeError_FieldError ?kt_PrimeError_EditError ?kt_PrimeError_TextError ?kt_PrimeError_HistoryError ?xc_ZeroError ?xr_ZeroError ?xs_ZeroError ?xg_ZeroError ?xgg_ZeroError ?xi_ZeroError ?xt_ZeroError ?xk_ZeroError ?xe_ZeroError ?xv_ZeroError ?xy_ZeroError ?xh_ZeroError ?xm_ZeroError ?xu_ZeroError ?xf_ZeroError ?xd_ZeroError ?xl_ZeroError ?xw_ZeroError ?xw2_ZeroError ?xw3_ZeroError ?ic_ZeroError ?ih_ZeroError ?im_ZeroError ?ex_ZeroError ?kv_ZeroError ?kt_ZeroError_SizeError ?kt_ZeroError_RangeError ?kt_ZeroError_PrimeError ?kt_ZeroError_DepthError ?kt_ZeroError_ZeroError ?kt_ZeroError_MixError ?kt_ZeroError_BarError ?kt_ZeroError_MonicError ?kt_ZeroError_RepeatError ?kt_ZeroError_FieldError ?kt_ZeroError_EditError ?kt_ZeroError_TextError ?kt_ZeroError_HistoryError ?icn ?ict
    (case a_prime_parts => k_is)
    (case l_prime_parts => k_is)
    (case c_prime_parts => k_is)
    (case k_prime_parts => k_is)
    (case a_look_prime => k_is)
    (case l_look_prime => k_is)
    (case c_look_prime => k_is)
    (case k_look_prime => k_is)
    (case a_look_range => k_is)
    (case l_look_range => k_is)
    (case c_look_range => k_is)
    (case k_look_range => k_is)
    (case a_power => k_is)
    (case l_power => k_is)
    (case c_power => k_is)
    (case k_power => k_is)
    (case a_power_mod => k_is)
    (case l_power_mod => k_is)
    (case c_power_mod => k_is)
    (case k_power_mod => k_is)
    (case a_inverse_mod => k_is)
    (case l_inverse_mod => k_is)
    (case c_inverse_mod => k_is)
    (case k_inverse_mod => k_is)
    (case a_parted => k_is)
    (case l_parted => k_is)
    (case c_parted => k_is)
    (case k_parted => k_is)
    (case a_int_depth => k_is)
    (case l_int_depth => k_is)
    (case c_int_depth => k_is)
    (case k_int_depth => k_is)
    (case a_look_numbers => k_is)
    (case l_look_numbers => k_is)
    (case c_look_numbers => k_is)
    (case k_look_numbers => k_is)
    (case a_look_zeros => k_is)
    (case l_look_zeros => k_is)
    (case c_look_zeros => k_is)
    (case k_look_zeros => k_is)
    (case a_square_unit => k_is)
    (case l_square_unit => k_is)
    (case c_square_unit => k_is)
    (case k_square_unit => k_is)
    (case a_odd_sign => k_is)
    (case l_odd_sign => k_is)
    (case c_odd_sign => k_is)
    (case k_odd_sign => k_is)
    (case a_even_sign => k_is)
    (case l_even_sign => k_is)
    (case c_even_sign => k_is)
    (case k_even_sign => k_is)
    (case a_symbol_of => k_is)
    (case l_symbol_of => k_is)
    (case c_symbol_of => k_is)
    (case k_symbol_of => k_is)
    (case a_symbol => k_is)
    (case l_symbol => k_is)
    (case c_symbol => k_is)
    (case k_symbol => k_is)
    (case a_unit_root => k_is)
    (case l_unit_root => k_is)
    (case c_unit_root => k_is)
    (case k_unit_root => k_is)
    (case a_start_pair => k_is)
    (case l_start_pair => k_is)
    (case c_start_pair => k_is)
    (case k_start_pair => k_is)
    (case a_first_point => k_is)
    (case l_first_point => k_is)
    (case c_first_point => k_is)
    (case k_first_point => k_is)
    (case a_conic_point => k_is)
    (case l_conic_point => k_is)
    (case c_conic_point => k_is)
    (case k_conic_point => k_is)
    (case a_primes_of => k_is)
    (case l_primes_of => k_is)
    (case c_primes_of => k_is)
    (case k_primes_of => k_is)
    (case a_with_two => k_is)
    (case l_with_two => k_is)
    (case c_with_two => k_is)
    (case k_with_two => k_is)
    (case a_conic_bars => k_is)
    (case l_conic_bars => k_is)
    (case c_conic_bars => k_is)
    (case k_conic_bars => k_is)
    (case a_law_cells => k_is)
    (case l_law_cells => k_is)
    (case c_law_cells => k_is)
    (case k_law_cells => k_is)
    (case a_law_draw => k_is)
    (case l_law_draw => k_is)
    (case c_law_draw => k_is)
    (case k_law_draw => k_is)
    (case a_law_is_integer => k_is)
    (case l_law_is_integer => k_is)
    (case c_law_is_integer => k_is)
    (case k_law_is_integer => k_is)
    (case a_law_power => k_is)
    (case l_law_power => k_is)
    (case c_law_power => k_is)
    (case k_law_power => k_is)
    (case a_law_primes => k_is)
    (case l_law_primes => k_is)
    (case c_law_primes => k_is)
    (case k_law_primes => k_is)
    (case a_law_number => k_is)
    (case l_law_number => k_is)
    (case c_law_number => k_is)
    (case k_law_number => k_is)
    (case a_law_is_square => k_is)
    (case l_law_is_square => k_is)
    (case c_law_is_square => k_is)
    (case k_law_is_square => k_is)
    (case a_law_walked => k_is)
    (case l_law_walked => k_is)
    (case c_law_walked => k_is)
    (case k_law_walked => k_is)
    (case a_law_symbol => k_is)
    (case l_law_symbol => k_is)
    (case c_law_symbol => k_is)
    (case k_law_symbol => k_is)
    (case a_law_bars => k_is)
    (case l_law_bars => k_is)
    (case c_law_bars => k_is)
    (case k_law_bars => k_is)
    (case a_law_same_list => k_is)
    (case l_law_same_list => k_is)
    (case c_law_same_list => k_is)
    (case k_law_same_list => k_is)
    (case a_law_point_right => k_is)
    (case l_law_point_right => k_is)
    (case c_law_point_right => k_is)
    (case k_law_point_right => k_is)
    (case a_law_prime_right => k_is)
    (case l_law_prime_right => k_is)
    (case c_law_prime_right => k_is)
    (case k_law_prime_right => k_is)
    (case a_law_refusal => k_is)
    (case l_law_refusal => k_is)
    (case c_law_refusal => k_is)
    (case k_law_refusal => k_is)
    (case a_law_refused => k_is)
    (case l_law_refused => k_is)
    (case c_law_refused => k_is)
    (case k_law_refused => k_is)
    (case a_law_refusals_right => k_is)
    (case l_law_refusals_right => k_is)
    (case c_law_refusals_right => k_is)
    (case k_law_refusals_right => k_is)
    (case a_law => k_is)
    (case l_law => k_is)
    (case c_law => k_is)
    (case k_law => k_is)
    (case n_len => k_is)
    (case n_int => k_is)
    (case n_bool => k_is)
    (case n_tuple => k_is)
    (case n_list => k_is)
    (case n_abs => k_is)
    (case n_isinstance => k_is)
    (case n_max => k_is)
    (case n_min => k_is)
    (case n_range => k_is)
    (case n_sorted => k_is)
    (case n_ValueError => k_is)
    (case c_MOST_PARTED => k_is)
    (case c_MOST_NUMBER => k_is)
    (case c_MOST_DIGITS => k_is)
    (case c_LARGEST => k_is)
    (case c_MOST_PRIME => k_is)
    (case aSP => k_is)
    (case lSP => k_is)
    (case iSP => rfl)
    (case zSP => decide +kernel)
    (case e_PrimedeepError => k_is)
    (case e_SizeError => k_is)
    (case e_RangeError => k_is)
    (case e_PrimeError => k_is)
    (case e_DepthError => k_is)
    (case e_ZeroError => k_is)
    (case e_MixError => k_is)
    (case e_BarError => k_is)
    (case e_MonicError => k_is)
    (case e_RepeatError => k_is)
    (case e_FieldError => k_is)
    (case e_EditError => k_is)
    (case e_TextError => k_is)
    (case e_HistoryError => k_is)
    (case tp => k_is)
    (case sg => k_is)
    (case topS_ => kernel_rfl)
    (case xc_RangeError => k_is)
    (case xr_RangeError => decide +kernel)
    (case xs_RangeError => k_is)
    (case xg_RangeError => k_is)
    (case xgg_RangeError => k_is)
    (case xi_RangeError => k_is)
    (case xt_RangeError => k_is)
    (case xk_RangeError => k_is)
    (case xe_RangeError => k_is)
    (case xv_RangeError => k_is)
    (case xy_RangeError => k_is)
    (case xh_RangeError => k_is)
    (case xm_RangeError => k_is)
    (case xu_RangeError => kernel_rfl)
    (case xf_RangeError => k_is)
    (case xd_RangeError => k_is)
    (case xn_RangeError => k_is)
    (case xl_RangeError => k_is)
    (case xw_RangeError => k_is)
    (case xw2_RangeError => rfl)
    (case xw3_RangeError => kernel_rfl)
    (case ic_RangeError => kernel_rfl)
    (case ih_RangeError => k_is)
    (case im_RangeError => k_is)
    (case ex_RangeError => kernel_rfl)
    (case kv_RangeError => kernel_rfl)
    (case kt_RangeError_SizeError => kernel_rfl)
    (case kt_RangeError_RangeError => kernel_rfl)
    (case kt_RangeError_PrimeError => kernel_rfl)
    (case kt_RangeError_DepthError => kernel_rfl)
    (case kt_RangeError_ZeroError => kernel_rfl)
    (case kt_RangeError_MixError => kernel_rfl)
    (case kt_RangeError_BarError => kernel_rfl)
    (case kt_RangeError_MonicError => kernel_rfl)
    (case kt_RangeError_RepeatError => kernel_rfl)
    (case kt_RangeError_FieldError => kernel_rfl)
    (case kt_RangeError_EditError => kernel_rfl)
    (case kt_RangeError_TextError => kernel_rfl)
    (case kt_RangeError_HistoryError => kernel_rfl)
    (case xc_PrimeError => k_is)
    (case xr_PrimeError => decide +kernel)
    (case xs_PrimeError => k_is)
    (case xg_PrimeError => k_is)
    (case xgg_PrimeError => k_is)
    (case xi_PrimeError => k_is)
    (case xt_PrimeError => k_is)
    (case xk_PrimeError => k_is)
    (case xe_PrimeError => k_is)
    (case xv_PrimeError => k_is)
    (case xy_PrimeError => k_is)
    (case xh_PrimeError => k_is)
    (case xm_PrimeError => k_is)
    (case xu_PrimeError => kernel_rfl)
    (case xf_PrimeError => k_is)
    (case xd_PrimeError => k_is)
    (case xn_PrimeError => k_is)
    (case xl_PrimeError => k_is)
    (case xw_PrimeError => k_is)
    (case xw2_PrimeError => rfl)
    (case xw3_PrimeError => kernel_rfl)
    (case ic_PrimeError => kernel_rfl)
    (case ih_PrimeError => k_is)
    (case im_PrimeError => k_is)
    (case ex_PrimeError => kernel_rfl)
    (case kv_PrimeError => kernel_rfl)
    (case kt_PrimeError_SizeError => kernel_rfl)
    (case kt_PrimeError_RangeError => kernel_rfl)
    (case kt_PrimeError_PrimeError => kernel_rfl)
    (case kt_PrimeError_DepthError => kernel_rfl)
    (case kt_PrimeError_ZeroError => kernel_rfl)
    (case kt_PrimeError_MixError => kernel_rfl)
    (case kt_PrimeError_BarError => kernel_rfl)
    (case kt_PrimeError_MonicError => kernel_rfl)
    (case kt_PrimeError_RepeatError => kernel_rfl)
    (case kt_PrimeError_FieldError => kernel_rfl)
    (case kt_PrimeError_EditError => kernel_rfl)
    (case kt_PrimeError_TextError => kernel_rfl)
    (case kt_PrimeError_HistoryError => kernel_rfl)
    (case xc_ZeroError => k_is)
    (case xr_ZeroError => decide +kernel)
    (case xs_ZeroError => k_is)
    (case xg_ZeroError => k_is)
    (case xgg_ZeroError => k_is)
    (case xi_ZeroError => k_is)
    (case xt_ZeroError => k_is)
    (case xk_ZeroError => k_is)
    (case xe_ZeroError => k_is)
    (case xv_ZeroError => k_is)
    (case xy_ZeroError => k_is)
    (case xh_ZeroError => k_is)
    (case xm_ZeroError => k_is)
    (case xu_ZeroError => kernel_rfl)
    (case xf_ZeroError => k_is)
    (case xd_ZeroError => k_is)
    (case xl_ZeroError => k_is)
    (case xw_ZeroError => k_is)
    (case xw2_ZeroError => rfl)
    (case xw3_ZeroError => kernel_rfl)
    (case ic_ZeroError => kernel_rfl)
    (case ih_ZeroError => k_is)
    (case im_ZeroError => k_is)
    (case ex_ZeroError => kernel_rfl)
    (case kv_ZeroError => kernel_rfl)
    (case kt_ZeroError_SizeError => kernel_rfl)
    (case kt_ZeroError_RangeError => kernel_rfl)
    (case kt_ZeroError_PrimeError => kernel_rfl)
    (case kt_ZeroError_DepthError => kernel_rfl)
    (case kt_ZeroError_ZeroError => kernel_rfl)
    (case kt_ZeroError_MixError => kernel_rfl)
    (case kt_ZeroError_BarError => kernel_rfl)
    (case kt_ZeroError_MonicError => kernel_rfl)
    (case kt_ZeroError_RepeatError => kernel_rfl)
    (case kt_ZeroError_FieldError => kernel_rfl)
    (case kt_ZeroError_EditError => kernel_rfl)
    (case kt_ZeroError_TextError => kernel_rfl)
    (case kt_ZeroError_HistoryError => kernel_rfl)
    (case icn => k_is)
    (case ict => k_is)
