import PyProof.Rows.All
import Wide.All
import OpenK.AllK
import Wide.FinOn
import KE.KSuper
import KE.KExcSuper
import PyProof.FString
import PyProof.Rows.RegStrFacts
import HandS.Base
import HandS.Call
import HandS.Exc
import HandS.ExcInit
import HandS.List
import HandS.Comp
import HandS.Dict
import HandS.Iter
import HandS.Text
import HandS.Walk
import HandS.Wide
import HandS.TupAny
import HandS.AnyAll
import HandS.WordsExc
import HandS.HeadHook1
import HandS.IsInst
import HandS.Conv
import HandS.Deep
import HandS.Small
import HandS.Zip
import HandS.More
import HandS.ExcOwn
import HandS.Defaults
import HandS.TupMul
import HandS.Style
import KE.KRevSl
import KE.GoesEnum
import HandS.SortInts
import KE.SortData
import HandS.HeadHook4
import HandS.ExcIs
import KE.KExcIs
import PyProof.ListStr
import PyProof.StrOps2
import KE.KDictPairs
import HandS.DictTup
import PyProof.GenCompD
import HandS.Ends
import KE.DataCmp
import HandS.EndTab
import HandS.Head0
import HandS.Head1
import HandS.Head2
import HandS.HeadEnd
import HandS.Words
import KE.KNestM
import PyProof.TupleOfStr
import PyProof.Rows.StrInSeq
import HandS.Strs
import PyProof.StrWalks
import PyProof.SumWalkG
import HandS.Steps
import HandS.SetFor
import KE.KAssignIn
import KE.KItemsList
import HandS.ListItems
import PySem.Challenge.RW_mailways_k77_whole_bags_in_bags
set_option Elab.async false
set_option linter.all false
set_option maxRecDepth 100000
set_option maxHeartbeats 2000000
/-! own exceptions whose __init__ says super().__init__(f'..') and stores its arguments -/
namespace XI
open PySem PySem.W PySem.Calls PyProof.Rows PySem.HandSPX
section
variable {prog : Program} {w : World} {A : Around} {E : Value → Shared → Prop} {K : Frag} {mg : Str → Option Value} {C fI cc cda : Addr} {q : Str} {scope : Scope}
theorem kept_but {h h' : Heap} {x : Addr} (X : K.In h) (hx : K.lookup x = none) (k : ∀ b o, b ≠ x → h.get? b = some o → h'.get? b = some o) : K.In h' := fun a o e =>
  k a o (fun z => by rw [z, hx] at e; cases e) (X a o e)
/-- what the written part says of the class at C (its __init__ at fI: with a cell for __class__ at cc, its code object at cda) -/
structure Txt (prog : Program) (K : Frag) (mg : Str → Option Value) (C fI cc cda : Addr) : Prop where
  cls : ∃ nm q N bs bm sn sub ab col dd k0 k1 k2 k3 k5, K.lookup C = some (excClassObj nm q C N bs bm true sn sub ab col dd k0 k1 k2 k3 k5 "ValueError.__new__") ∧ refsVE bm = true
  cell : ∃ cl cld csl, K.lookup cc = some ⟨cl, cld, .cell (some (.ref C)), csl⟩
  code : ∃ (vs : Array Value) (file : Str) (tf : Tok) (ccl : Value) (cdd : Option Addr) (ccs : Array (Option Value)), K.lookup cda = some ⟨ccl, cdd, .fields vs, ccs⟩ ∧ vs[2]? = some (.str file tf) ∧ ((prog.main.file : Str) == file) = true
  self : mroIn K C (.ref C) = some true
  sup : ks_superIn K C C "__init__" = some (some (.builtin "ValueError.__init__"))
  subV : subIn K (.ref C) (.type "ValueError") = some true
  stat : nsIn K cStatics "thirdparty.any" = some none
  top : (prog.main.scope.names.lookup ("super" : Str)).isSome = false
  noS : mg "super" = none
/-- super().__init__(e), e one value that leaves the heap as it is -/
theorem super_row (T : Txt prog K mg C fI cc cda) {s : Shared} {fd : FuncData} {oc : Value} {od : Option Addr} {osl : Array (Option Value)} {ar : Arg} {x t0 L : Addr} {m mb : Str → Option Value} {e : Expr} {body : List Stmt} {p0 p1 p2 p3 p4 : Pos} {Q : Flow → Shared → Prop} {pl : Sem Bool}
    (X : K.In s.heap) (hG : s.heap.Ns mainGlobals mg) (hB : s.heap.Ns builtinsNs mb) (hb : mb "super" = some (.type "super"))
    (hf : K.lookup fI = some ⟨oc, od, .func fd, osl⟩) (hp : (fd.params.posonlyargs ++ fd.params.args).head? = some ar) (hn : s.heap.Ns L m) (hv : m ar.arg = some (.ref x))
    (hx : s.heap.get? x = some (excO C t0)) (hnx : K.lookup x = none)
    (hks : scope.names.lookup ("super" : Str) = some .globalImplicit) (hkc : scope.names.lookup ("__class__" : Str) = some .free) (hka : scope.names.lookup ar.arg = some .local) (hk : scope.kind = .function)
    (he : ∀ (s1 : Shared) (R : Value → Shared → Prop) (E' : Value → Shared → Prop), (∀ b o, s.heap.get? b = some o → s1.heap.get? b = some o) → s1.heap.Ns L m → (∀ v tk, R v { s1 with toks := tk }) → wpAny (model prog w) A (eval e (ksEnv q scope L fI (.ref cda) cc)) R E' s1)
    (hpl : starEach [e] (ksEnv q scope L fI (.ref cda) cc) = [(false, eval e (ksEnv q scope L fI (.ref cda) cc))])
    (hsw : swapsWith (.Call (.Attribute (.Call (.Name "super" p0) [] [] p1) "__init__" p2) [e] [] p3) none p4.line (ksEnv q scope L fI (.ref cda) cc) = pure false)
    (hi : interactive (ksEnv q scope L fI (.ref cda) cc) = false)
    (hmc : eval (.Call (.Attribute (.Call (.Name "super" p0) [] [] p1) "__init__" p2) [e] [] p3) (ksEnv q scope L fI (.ref cda) cc) = (do
      let ov ← attributeBase (.Call (.Name "super" p0) [] [] p1) "__init__" (ksEnv q scope L fI (.ref cda) cc) (eval (.Call (.Name "super" p0) [] [] p1) (ksEnv q scope L fI (.ref cda) cc))
      standAt p2.atName
      let (f, first) ← holding [ov] (getMethod ov "__init__" pl)
      callWith p3 f first (backTo p3 (starEach [e] (ksEnv q scope L fI (.ref cda) cc))) []))
    (hq : ∀ h' tk t1, (∀ b o, b ≠ x → s.heap.get? b = some o → h'.get? b = some o) → h'.get? x = some (excO C t1) → s.heap.objs.size ≤ h'.objs.size → Q .next { s with heap := h', toks := tk }) :
    _root_.PySem.wpAt (model prog w) A (.func body (ksEnv q scope L fI (.ref cda) cc)) (exec (.Expr (.Call (.Attribute (.Call (.Name "super" p0) [] [] p1) "__init__" p2) [e] [] p3) p4) (ksEnv q scope L fI (.ref cda) cc)) Q E s := by
  obtain ⟨nm, qn, N, bs, bm, sn, sub, ab, col, dd, k0, k1, k2, k3, k5, hC, hbm⟩ := T.cls
  obtain ⟨cl, cld, csl, hcell⟩ := T.cell
  obtain ⟨vs, file, tf, ccl, cdd, ccs, hcode, hvs, hfile⟩ := T.code
  refine ks_wpAt_Expr_any (ks_wpAt_MethodCall (pl := pl) ?_ hmc) hi hsw
  obtain ⟨hh, g, d, tk, os⟩ := s
  have hcl : clsIn K C = some { name := nm, bases := bs, mro := .ref C :: bm, ns := N, qualname := qn, hasDict := true, slotNames := sn, subclasses := sub, abstract := ab, collection := col, hasDel := false } := by unfold clsIn; rw [hC] <;> rfl
  have hxC : x ≠ C := fun z => by rw [z, hC] at hnx; cases hnx
  have hD1 := X _ _ hC
  refine ks_wpAt_super_base (env := ksEnv q scope L fI (.ref cda) cc) hks hkc rfl rfl (X _ _ hf) rfl hp rfl (X _ _ hcode) rfl hvs hfile T.top ?_
  refine ks_loadName_global hk hks (loadGlobal_builtin (env := ksEnv q scope L fI (.ref cda) cc) hG T.noS hB hb ⟨rfl, ?_⟩)
  refine wpAny_loadName_free hk hkc rfl ⟨_, X _ _ hcell, rfl⟩ ?_
  refine wpAny_loadName_local hk hka hn hv ?_
  refine ks_wpAny_isType_cls hD1 rfl ⟨rfl, ?_⟩
  refine ks_wpAny_call_super hD1 rfl hx rfl (fun c z => by cases z) (looks_mroIn X T.self) (fun h1 e1 k1' => ?_)
  have X1 : K.In h1 := X.keeps k1'
  have I1 : InstAt h1 x (excO C t0) C none := ⟨k1' _ _ hx, rfl, rfl, trivial⟩
  have hI : Looks (model prog w) h1 (isInstance (.ref x) (.type "ValueError")) true := I1.type.andThen (looks_subIn X1 T.subV)
  have hsup := T.sup
  unfold ks_superIn at hsup
  rw [hcl] at hsup
  refine kxs_getMethod kxs_ValueError e1 (looks_opaque X1 T.stat) (l₀ := .ref C :: bm) (fun A Q E s k q => wpAny_bind ((looks_clsIn X1 hcl) A _ E s k (wpAny_pure q))) rfl X1 hsup hI hxC rfl ?_
  rw [hpl]
  refine kxs_callWith (i := "ValueError.__init__") (x := x) (by rfl) (evalArgs_plain ?_)
  refine Calls.spliced_cons (he _ _ _ (fun b o z => Heap.get?_push_of_some _ (k1' b o z)) ?_ fun v tk2 => Calls.spliced_nil ⟨Heap.get?_push_size _ rfl, ?_⟩)
  · obtain ⟨oL, es, ep, hL, r⟩ := hn
    exact ⟨oL, es, ep, Heap.get?_push_of_some _ (k1' _ _ hL), r⟩
  · have F := PySem.F.excBase_ValueError
    have hx2 : (h1.push (kxs_mw "ValueError.__init__" x)).get? x = some (excO C t0) := Heap.get?_push_of_some _ (k1' _ _ hx)
    have hC2 : (h1.push (kxs_mw "ValueError.__init__" x)).get? C = some _ := Heap.get?_push_of_some _ (k1' _ _ hD1)
    have hu : (h1.push (kxs_mw "ValueError.__init__" x)).get? h1.objs.size = some (kxs_mw "ValueError.__init__" x) := Heap.get?_push_size _ rfl
    refine wpAny_call (codeAny_of_tree ?_)
    show wpAny _ A.in1 (callAny (.ref h1.objs.size) ⟨[v], []⟩) _ _ _
    simp only [callAny]
    refine wpAny_bind (wpAny_load hu ?_)
    simp only [kxs_mw, show (Value.type "method-wrapper" == Value.type "method" || Value.type "method-wrapper" == Value.type "builtin_function_or_method" || Value.type "method-wrapper" == Value.type "method-wrapper") = true by decide, if_true]
    refine KFB.if_so (by decide) ?_
    refine wpAny_bind (check_bound_init F.toExcCallFacts hC2 hx2 rfl (wpAny_bind (wpAny_pure (wpAny_pure ⟨plainId_quiet F.init.plain _, codeAny_builtin F.initEntry ?_⟩))))
    refine exc_init_tree (cls := .ref C) (t0 := t0) (dv := none) (c2 := .none) (c3 := .none) (b4 := .bool false) hx2 (by rw [sizeLine_eq]; exact (by decide : 1 ≤ 16777216)) fun h3 k3 e3 t3 => ?_
    refine hq h3 _ _ (fun b o hb z => k3 b o hb (Heap.get?_push_of_some _ (k1' b o z))) e3 ?_
    have z1 : hh.objs.size < h1.objs.size := Heap.lt_size e1
    have z2 : (h1.push (kxs_mw "ValueError.__init__" x)).objs.size < h3.objs.size := Heap.lt_size t3
    rw [Heap.size_push] at z2
    show hh.objs.size ≤ h3.objs.size
    omega
/-- self.f = f, the exception without a dict -/
theorem field_new (T : Txt prog K mg C fI cc cda) {s : Shared} {x t0 L : Addr} {m : Str → Option Value} {v : Value} {f : Str} {env : Env} {q1 q2 q3 q4 : Pos} {Q : Flow → Shared → Prop} (X : K.In s.heap) (hn : s.heap.Ns env.locals m) (hv : m f = some v) (hs : m "self" = some (.ref x)) (hx : s.heap.get? x = some (excO C t0))
    (noN : findIn K (.ref C) f = some none) (sa : findIn K (.ref C) "__setattr__" = some (some (.builtin "object.__setattr__"))) (hk : env.scope.kind = .function) (hl : env.kindOf f = some .local) (hl2 : env.kindOf "self" = some .local) (hd : (f == ("__debug__" : Str)) = false)
    (hsw : swapsWith (.Name f q3) (some (.Attribute (.Name "self" q1) f q2)) q4.line env = pure false)
    (hq : ∀ h' tk dx, (∀ b o, b ≠ x → s.heap.get? b = some o → h'.get? b = some o) → s.heap.objs.size ≤ dx → dx ≠ x → h'.get? x = some { cls := .ref C, dict := some dx, data := .fields #[.ref t0, .none, .none, .none, .bool false, .none] } → h'.Ns1 dx (fun y => if y = f then some v else none) → Q .next { s with heap := h', toks := tk }) :
    wpAny (model prog w) A (exec (.Assign [.Attribute (.Name "self" q1) f q2] (.Name f q3) q4) env) Q E s := by
  obtain ⟨nm, qn, N, bs, bm, sn, sub, ab, col, dd, k0, k1, k2, k3, k5, hC, hbm⟩ := T.cls
  have hcl : clsIn K C = some { name := nm, bases := bs, mro := .ref C :: bm, ns := N, qualname := qn, hasDict := true, slotNames := sn, subclasses := sub, abstract := ab, collection := col, hasDel := false } := by unfold clsIn; rw [hC] <;> rfl
  refine plainObj_wpAny_Assign_Attribute ?_ hsw
  refine wpAny_Name (wpAny_loadName_local hk hl hn hv ?_) hd
  refine wpAny_Name (wpAny_loadName_local hk hl2 hn hs ?_) (by decide)
  refine set_plain X (ox := excO C t0) (od := none) ⟨hx, rfl, rfl, trivial⟩ sa ?_
  exact exc_osa X hx hcl (show refsVE (.ref C :: bm) = true from hbm) rfl noN fun h3 tk3 dx k3 dn dne hx3 hn3 => hq h3 tk3 dx k3 dn dne hx3 hn3
/-- .. with its dict -/
theorem field_old (T : Txt prog K mg C fI cc cda) {s : Shared} {x t0 L dx : Addr} {m m0 : Str → Option Value} {v : Value} {f : Str} {nl : List Str} {env : Env} {q1 q2 q3 q4 : Pos} {Q : Flow → Shared → Prop} (X : K.In s.heap) (hn : s.heap.Ns env.locals m) (hv : m f = some v) (hs : m "self" = some (.ref x))
    (hx : s.heap.get? x = some { cls := .ref C, dict := some dx, data := .fields #[.ref t0, .none, .none, .none, .bool false, .none] }) (hns : s.heap.Ns1 dx m0) (hw : Within m0 nl) (hz : nl.length ≤ 1000)
    (noN : findIn K (.ref C) f = some none) (sa : findIn K (.ref C) "__setattr__" = some (some (.builtin "object.__setattr__"))) (hk : env.scope.kind = .function) (hl : env.kindOf f = some .local) (hl2 : env.kindOf "self" = some .local) (hd : (f == ("__debug__" : Str)) = false)
    (hsw : swapsWith (.Name f q3) (some (.Attribute (.Name "self" q1) f q2)) q4.line env = pure false)
    (hq : ∀ h' tk, (∀ b o, b ≠ dx → s.heap.get? b = some o → h'.get? b = some o) → h'.Ns1 dx (fun y => if y = f then some v else m0 y) → Q .next { s with heap := h', toks := tk }) :
    wpAny (model prog w) A (exec (.Assign [.Attribute (.Name "self" q1) f q2] (.Name f q3) q4) env) Q E s := by
  obtain ⟨nm, qn, N, bs, bm, sn, sub, ab, col, dd, k0, k1, k2, k3, k5, hC, hbm⟩ := T.cls
  have hcl : clsIn K C = some { name := nm, bases := bs, mro := .ref C :: bm, ns := N, qualname := qn, hasDict := true, slotNames := sn, subclasses := sub, abstract := ab, collection := col, hasDel := false } := by unfold clsIn; rw [hC] <;> rfl
  obtain ⟨oD, esD, epD, hoD, hdD, _⟩ := hns.count hw
  refine plainObj_wpAny_Assign_Attribute ?_ hsw
  refine wpAny_Name (wpAny_loadName_local hk hl hn hv ?_) hd
  refine wpAny_Name (wpAny_loadName_local hk hl2 hn hs ?_) (by decide)
  refine set_plain X (ox := { cls := .ref C, dict := some dx, data := .fields #[.ref t0, .none, .none, .none, .bool false, .none] }) (od := some oD) ⟨hx, rfl, rfl, hoD⟩ sa ?_
  exact OEX.osa_old X hx hns hw hz hcl (show refsVE (.ref C :: bm) = true from hbm) rfl noN fun h3 tk3 k3 hn3 => hq h3 tk3 k3 hn3
/-! the message -/
/-- a piece: a text of at most n signs, the heap as it is -/
def Piece (prog : Program) (w : World) (A : Around) (E : Value → Shared → Prop) (env : Env) (m : Str → Option Value) (n : Nat) (e : Expr) : Prop :=
  ∀ (s : Shared) (Q : Value → Shared → Prop), s.heap.Ns env.locals m → (∀ y t tk, y.length ≤ n → Q (.str y t) { s with toks := tk }) → wpAny (model prog w) A (eval e env) Q E s
theorem piece_txt {env : Env} {m : Str → Option Value} {z : Str} {k n : Nat} {pos : Pos} (h : z.length ≤ n) : Piece prog w A E env m n (.Constant (.str z) k pos) := fun s Q _ q => by
  obtain ⟨hp, g, d, tk, os⟩ := s
  exact wpAny_Constant_str (q z _ _ h)
theorem piece_int {env : Env} {m : Str → Option Value} {x : Str} {i : Int} {t : Tok} {pos p2 : Pos} (hv : m x = some (.int i t)) (hi : i.natAbs.log2 < 1920) (hk : env.scope.kind = .function) (hl : env.kindOf x = some .local) (hd : (x == ("__debug__" : Str)) = false) :
    Piece prog w A E env m 1921 (.FormattedValue (.Name x pos) (-1) none p2) := fun s Q hn q => by
  refine wpAny_FormattedValue_plain (wpAny_Name (wpAny_loadName_local hk hl hn hv ?_) hd)
  exact wpAny_formatField_int hi (q _ _ _ (int_text_len_1921 hi))
theorem piece_str {env : Env} {m : Str → Option Value} {x z : Str} {t : Tok} {n : Nat} {pos p2 : Pos} (hv : m x = some (.str z t)) (hz : z.length ≤ n) (hn : n ≤ sizeLine) (hk : env.scope.kind = .function) (hl : env.kindOf x = some .local) (hd : (x == ("__debug__" : Str)) = false) :
    Piece prog w A E env m n (.FormattedValue (.Name x pos) (-1) none p2) := fun s Q hns q => by
  refine wpAny_FormattedValue_plain (wpAny_Name (wpAny_loadName_local hk hl hns hv ?_) hd)
  exact wpAny_formatField_str (q _ _ s.toks hz) (q _ _ _ hz) (Nat.le_trans hz hn)
theorem joins {env : Env} {m : Str → Option Value} : ∀ (es : List (Nat × Expr)) (acc : Str) (s : Shared) (Q : Str → Shared → Prop), (∀ p ∈ es, Piece prog w A E env m p.1 p.2) → s.heap.Ns env.locals m → acc.length + (es.map (·.1)).sum ≤ sizeLine →
    (∀ y tk, y.length ≤ sizeLine → Q y { s with toks := tk }) → Joins (model prog w) A E (es.map fun p => eval p.2 env) acc Q s
  | [], acc, s, Q, _, _, hz, q => q acc s.toks (by simpa using hz)
  | p :: es, acc, s, Q, h, hn, hz, q => by
    rw [List.map_cons, List.sum_cons] at hz
    refine h p (by simp) s _ hn fun y t tk hy => ⟨y, t, rfl, ?_, ?_⟩
    · rw [strLen_append]; omega
    · exact joins es (acc ++ y) { s with toks := tk } Q (fun p hp => h p (by simp [hp])) hn (by rw [strLen_append]; omega) fun y tk hy => q y tk hy
/-! ### the texts -/
def iArg (x : Str) (p : Pos) : Arg := { arg := x, annotation := none, pos := p }
def iAs (l : List Arg) : Arguments := { posonlyargs := [], args := l, vararg := none, kwonlyargs := [], kw_defaults := [], kwarg := none, defaults := [] }
def iSc (l : List Str) : Scope := { kind := .function, names := (l.map fun x => (x, NameKind.local)) ++ [(PySem.Str.ofString "__class__", .free), (PySem.Str.ofString "super", .globalImplicit)], isGenerator := false, isCoroutine := false, more := [] }
def iR (e : Expr) (p0 p1 p2 p3 p4 : Pos) : Stmt := .Expr (.Call (.Attribute (.Call (.Name "super" p0) [] [] p1) "__init__" p2) [e] [] p3) p4
def iF (f : Str) (q1 q2 q3 q4 : Pos) : Stmt := .Assign [.Attribute (.Name "self" q1) f q2] (.Name f q3) q4
/-- a field's value: what the message can tell -/
def Short (v : Value) : Prop := (∃ i t, v = .int i t ∧ i.natAbs.log2 < 1920) ∨ ∃ z t, v = .str z t ∧ z.length ≤ 1000000
theorem piece_fld {env : Env} {m : Str → Option Value} {x : Str} {v : Value} {pos p2 : Pos} (hv : m x = some v) (hs : Short v) (hk : env.scope.kind = .function) (hl : env.kindOf x = some .local) (hd : (x == ("__debug__" : Str)) = false) :
    Piece prog w A E env m 1000000 (.FormattedValue (.Name x pos) (-1) none p2) := by
  rcases hs with ⟨i, t, rfl, hi⟩ | ⟨z, t, rfl, hz⟩
  · intro s Q hn q
    exact piece_int hv hi hk hl hd s Q hn fun y t tk hy => q y t tk (Nat.le_trans hy (by omega))
  · exact piece_str hv hz (by rw [sizeLine_eq]; show 1000000 ≤ 16777216; omega) hk hl hd
theorem joinsM {env : Env} {m : Str → Option Value} {s : Shared} {R : Value → Shared → Prop} {es : List Expr} (hl : es.length ≤ 8) (h : ∀ e ∈ es, Piece prog w A E env m 1000000 e) (hn : s.heap.Ns env.locals m) (q : ∀ v tk, R v { s with toks := tk }) :
    Joins (model prog w) A E (es.map fun e => eval e env) Str.empty (fun y s1 => y.length ≤ sizeLine ∧ R (.str y s1.toks) { s1 with toks := s1.toks + 1 }) s := by
  have e1 : es.map (fun e => eval e env) = (es.map fun e => (1000000, e)).map fun p : Nat × Expr => eval p.2 env := by simp
  rw [e1]
  refine joins (es.map fun e => (1000000, e)) Str.empty s _ (fun p hp => ?_) hn ?_ fun y tk hy => ⟨hy, q _ _⟩
  · obtain ⟨e, he, rfl⟩ := List.mem_map.mp hp
    exact h e he
  · have e0 : Str.empty.length = 0 := rfl
    have e2 : ((es.map fun e => (1000000, e)).map fun p : Nat × Expr => p.1) = List.replicate es.length 1000000 := by
      rw [List.map_map]
      exact List.eq_replicate_iff.mpr ⟨by simp, fun b hb => by
      have z : (∃ x, x ∈ es) ∧ 1000000 = b := by simpa using hb
      exact z.2.symm⟩
    rw [e0, e2, List.sum_replicate_nat, sizeLine_eq]
    omega

/-- the call of __init__ over super() -/
theorem mc {e : Expr} {p0 p1 p2 p3 : Pos} {env : Env} (hst : starEach [e] env = [(false, eval e env)]) (hl : (p2.endLine == p3.line) = true) :
    eval (.Call (.Attribute (.Call (.Name "super" p0) [] [] p1) "__init__" p2) [e] [] p3) env = (do
      let ov ← attributeBase (.Call (.Name "super" p0) [] [] p1) "__init__" env (eval (.Call (.Name "super" p0) [] [] p1) env)
      standAt p2.atName
      let (f, first) ← holding [ov] (getMethod ov "__init__" (do return (← importBound (.Call (.Name "super" p0) [] [] p1) env).getD true))
      callWith p3 f first (backTo p3 (starEach [e] env)) []) := by
  show (do
    let ov ← attributeBase (.Call (.Name "super" p0) [] [] p1) "__init__" env (eval (.Call (.Name "super" p0) [] [] p1) env)
    standAt p2.atName
    methodCall (.Call (.Name "super" p0) [] [] p1) "__init__" p2 p3 env ov 1 (backTo p3 (starEach [e] env)) (backToKw p3 (keywordEach [] env))) = _
  rw [hst]
  have h1 : methodCallForm 1 (backTo p3 [(false, eval e env)]) (backToKw p3 (keywordEach [] env)) = true := rfl
  unfold methodCall
  rw [h1]
  unfold methodCallPos calleeOf
  rw [hl]
  rfl
/-- what __init__ leaves of a fresh exception at x -/
structure InitEnd (h h' : Heap) (x C dx t1 : Addr) (f : Str → Option Value) : Prop where
  keep : ∀ b o, b ≠ x → h.get? b = some o → h'.get? b = some o
  obj : h'.get? x = some { cls := .ref C, dict := some dx, data := .fields #[.ref t1, .none, .none, .none, .bool false, .none] }
  dbig : h.objs.size ≤ dx
  dne : dx ≠ x
  ns : h'.Ns1 dx f
/-- the message is told, whatever stands in the place of the fields -/
def Tells (prog : Program) (w : World) (A : Around) (E : Value → Shared → Prop) (env : Env) (m : Str → Option Value) (e : Expr) : Prop :=
  ∀ (s1 : Shared) (R : Value → Shared → Prop), s1.heap.Ns env.locals m → (∀ v tk, R v { s1 with toks := tk }) → wpAny (model prog w) A (eval e env) R E s1
theorem init1 (T : Txt prog K mg C fI cc cda) {s : Shared} {R : Result → Shared → Prop} {x t0 : Addr} {f : Str} {e : Expr} {v : Value} {mb : Str → Option Value} {oc doc pm ct : Value} {od an : Option Addr} {osl : Array (Option Value)} {a1 a2 p0 p1 p2 p3 p4 u1 u2 u3 u4 : Pos}
    (hf : f = "line" ∨ f = "place" ∨ f = "tick" ∨ f = "amount")
    (ho : K.lookup fI = some ⟨oc, od, .func (ksFn "__init__" q (iAs [iArg "self" a1, iArg f a2]) [iR e p0 p1 p2 p3 p4, iF f u1 u2 u3 u4] (iSc ["self", f]) .none .none doc pm an (.ref cda) ct cc), osl⟩) (hcd : codeIn K (.ref cda) q = true)
    (sa : findIn K (.ref C) "__setattr__" = some (some (.builtin "object.__setattr__"))) (n1 : findIn K (.ref C) f = some none)
    (hst : ∀ env, starEach [e] env = [(false, eval e env)]) (hl : (p2.endLine == p3.line) = true) (hsw : ∀ env, swapsWith (.Call (.Attribute (.Call (.Name "super" p0) [] [] p1) "__init__" p2) [e] [] p3) none p4.line env = pure false) (hmsg : ∀ A E L m, m f = some v → Tells prog w A E (ksEnv q (iSc ["self", f]) L fI (.ref cda) cc) m e)
    (X : K.In s.heap) (hG : s.heap.Ns mainGlobals mg) (hB : s.heap.Ns builtinsNs mb) (hb : mb "super" = some (.type "super")) (hlim : s.heap.NoLimit) (hroom : A.depth < recursionLimit) (hx : s.heap.get? x = some (excO C t0)) (hnx : K.lookup x = none)
    (hq : ∀ h' tk dx t1', InitEnd s.heap h' x C dx t1' (fun y => if y = f then some v else none) → R (.ok (.ret .none)) { s with heap := h', toks := tk }) :
    codeAny (model prog w) A (.call (.ref fI) ⟨[.ref x, v], []⟩) R s := by
  rcases hf with rfl | rfl | rfl | rfl
  all_goals
    refine ks_codeAny_call_defAt (binds := [("self", .ref x), (_, v)]) hroom (X _ _ ho) rfl hlim (codeRec_of X hcd) rfl (BindsTo.of_eq (by first | rfl | with_unfolding_all rfl)) (show ∀ y ∈ (iSc _).names, y.2 ≠ .cell by decide) (fun y hy => by
      simp only [List.mem_cons, List.not_mem_nil, or_false] at hy
      rcases hy with rfl | rfl <;> rfl) (fun g0 hns k => ?_) rfl rfl rfl
    have X0 : K.In g0 := X.keeps k
    have hxL : s.heap.objs.size ≠ x := Nat.ne_of_gt (Heap.lt_size hx)
    refine ks_wpAt_execs_cons (super_row (q := q) T X0 (hG.keeps k) (hB.keeps k) hb ho rfl hns rfl (k _ _ hx) hnx rfl rfl rfl rfl (fun s1 R' E' k' hn1 qq => hmsg _ _ _ _ (by rfl) s1 R' hn1 qq) (hst _) (hsw _) rfl (mc (hst _) hl) fun h2 tk2 t2 k2 hx2 hs2 => ?_)
    have hns2 : h2.Ns s.heap.objs.size _ := hns.at fun o z => k2 _ _ hxL z
    refine ks_wpAt_execs_cons (wpAt_of_wpAny (field_new (L := 0) T (kept_but X0 hnx k2) hns2 (by rfl) (by rfl) hx2 n1 sa rfl rfl rfl (by decide) rfl fun h3 tk3 dx k3 dbig dne hx3 hn3 => ?_))
    have z : s.heap.objs.size < g0.objs.size := hns.lt
    exact wpAt_of_wpAny (wpAny_execs_nil (hq h3 _ dx t2 ⟨fun b o hb e => k3 b o hb (k2 b o hb (k b o e)), hx3, Nat.le_trans (Nat.le_of_lt z) (Nat.le_trans hs2 dbig), dne, hn3⟩))

theorem init0 (T : Txt prog K mg C fI cc cda) {s : Shared} {R : Result → Shared → Prop} {x t0 : Addr} {e : Expr} {mb : Str → Option Value} {oc doc pm ct : Value} {od an : Option Addr} {osl : Array (Option Value)} {a1 p0 p1 p2 p3 p4 : Pos}
    (ho : K.lookup fI = some ⟨oc, od, .func (ksFn "__init__" q (iAs [iArg "self" a1]) [iR e p0 p1 p2 p3 p4] (iSc ["self"]) .none .none doc pm an (.ref cda) ct cc), osl⟩) (hcd : codeIn K (.ref cda) q = true)
    (hst : ∀ env, starEach [e] env = [(false, eval e env)]) (hl : (p2.endLine == p3.line) = true) (hsw : ∀ env, swapsWith (.Call (.Attribute (.Call (.Name "super" p0) [] [] p1) "__init__" p2) [e] [] p3) none p4.line env = pure false) (hmsg : ∀ A E L m, Tells prog w A E (ksEnv q (iSc ["self"]) L fI (.ref cda) cc) m e)
    (X : K.In s.heap) (hG : s.heap.Ns mainGlobals mg) (hB : s.heap.Ns builtinsNs mb) (hb : mb "super" = some (.type "super")) (hlim : s.heap.NoLimit) (hroom : A.depth < recursionLimit) (hx : s.heap.get? x = some (excO C t0)) (hnx : K.lookup x = none)
    (hq : ∀ h' tk t1', (∀ b o, b ≠ x → s.heap.get? b = some o → h'.get? b = some o) → h'.get? x = some (excO C t1') → R (.ok (.ret .none)) { s with heap := h', toks := tk }) :
    codeAny (model prog w) A (.call (.ref fI) ⟨[.ref x], []⟩) R s := by
  refine ks_codeAny_call_defAt (binds := [("self", .ref x)]) hroom (X _ _ ho) rfl hlim (codeRec_of X hcd) rfl (BindsTo.of_eq (by first | rfl | with_unfolding_all rfl)) (show ∀ y ∈ (iSc _).names, y.2 ≠ .cell by decide) (fun y hy => by
    simp only [List.mem_cons, List.not_mem_nil, or_false] at hy
    rcases hy with rfl <;> rfl) (fun g0 hns k => ?_) rfl rfl rfl
  have X0 : K.In g0 := X.keeps k
  refine ks_wpAt_execs_cons (super_row (q := q) T X0 (hG.keeps k) (hB.keeps k) hb ho rfl hns rfl (k _ _ hx) hnx rfl rfl rfl rfl (fun s1 R' E' k' hn1 qq => hmsg _ _ _ _ s1 R' hn1 qq) (hst _) (hsw _) rfl (mc (hst _) hl) fun h2 tk2 t2 k2 hx2 hs2 => ?_)
  exact wpAt_of_wpAny (wpAny_execs_nil (hq h2 _ t2 (fun b o hb e => k2 b o hb (k b o e)) hx2))
theorem init2 (T : Txt prog K mg C fI cc cda) {s : Shared} {R : Result → Shared → Prop} {x t0 : Addr} {e : Expr} {v v2 : Value} {mb : Str → Option Value} {oc doc pm ct : Value} {od an : Option Addr} {osl : Array (Option Value)} {a1 a2 a3 p0 p1 p2 p3 p4 u1 u2 u3 u4 u5 u6 u7 u8 : Pos}
    (ho : K.lookup fI = some ⟨oc, od, .func (ksFn "__init__" q (iAs [iArg "self" a1, iArg "place" a2, iArg "fault" a3]) [iR e p0 p1 p2 p3 p4, iF "place" u1 u2 u3 u4, iF "fault" u5 u6 u7 u8] (iSc ["self", "place", "fault"]) .none .none doc pm an (.ref cda) ct cc), osl⟩) (hcd : codeIn K (.ref cda) q = true)
    (sa : findIn K (.ref C) "__setattr__" = some (some (.builtin "object.__setattr__"))) (n1 : findIn K (.ref C) "place" = some none) (n2 : findIn K (.ref C) "fault" = some none)
    (hst : ∀ env, starEach [e] env = [(false, eval e env)]) (hl : (p2.endLine == p3.line) = true) (hsw : ∀ env, swapsWith (.Call (.Attribute (.Call (.Name "super" p0) [] [] p1) "__init__" p2) [e] [] p3) none p4.line env = pure false)
    (hmsg : ∀ A E L m, m "place" = some v → m "fault" = some v2 → Tells prog w A E (ksEnv q (iSc ["self", "place", "fault"]) L fI (.ref cda) cc) m e)
    (X : K.In s.heap) (hG : s.heap.Ns mainGlobals mg) (hB : s.heap.Ns builtinsNs mb) (hb : mb "super" = some (.type "super")) (hlim : s.heap.NoLimit) (hroom : A.depth < recursionLimit) (hx : s.heap.get? x = some (excO C t0)) (hnx : K.lookup x = none)
    (hq : ∀ h' tk dx t1', InitEnd s.heap h' x C dx t1' (fun y => if y = "fault" then some v2 else if y = "place" then some v else none) → R (.ok (.ret .none)) { s with heap := h', toks := tk }) :
    codeAny (model prog w) A (.call (.ref fI) ⟨[.ref x, v, v2], []⟩) R s := by
  refine ks_codeAny_call_defAt (binds := [("self", .ref x), ("place", v), ("fault", v2)]) hroom (X _ _ ho) rfl hlim (codeRec_of X hcd) rfl (BindsTo.of_eq (by first | rfl | with_unfolding_all rfl)) (show ∀ y ∈ (iSc _).names, y.2 ≠ .cell by decide) (fun y hy => by
    simp only [List.mem_cons, List.not_mem_nil, or_false] at hy
    rcases hy with rfl | rfl | rfl <;> rfl) (fun g0 hns k => ?_) rfl rfl rfl
  have X0 : K.In g0 := X.keeps k
  have hxL : s.heap.objs.size ≠ x := Nat.ne_of_gt (Heap.lt_size hx)
  refine ks_wpAt_execs_cons (super_row (q := q) T X0 (hG.keeps k) (hB.keeps k) hb ho rfl hns rfl (k _ _ hx) hnx rfl rfl rfl rfl (fun s1 R' E' k' hn1 qq => hmsg _ _ _ _ (by rfl) (by rfl) s1 R' hn1 qq) (hst _) (hsw _) rfl (mc (hst _) hl) fun h2 tk2 t2 k2 hx2 hs2 => ?_)
  have hns2 : h2.Ns s.heap.objs.size _ := hns.at fun o z => k2 _ _ hxL z
  have X2 := kept_but X0 hnx k2
  refine ks_wpAt_execs_cons (wpAt_of_wpAny (field_new (L := 0) T X2 hns2 (by rfl) (by rfl) hx2 n1 sa rfl rfl rfl (by decide) rfl fun h3 tk3 dx k3 dbig dne hx3 hn3 => ?_))
  have z : s.heap.objs.size < g0.objs.size := hns.lt
  have hns3 : h3.Ns s.heap.objs.size _ := hns2.at fun o z => k3 _ _ hxL z
  refine ks_wpAt_execs_cons (wpAt_of_wpAny (field_old (L := 0) (nl := ["place"]) T (kept_but X2 hnx k3) hns3 (by rfl) (by rfl) hx3 hn3 (fun y hy => ?_) (by decide) n2 sa rfl rfl rfl (by decide) rfl fun h4 tk4 k4 hn4 => ?_))
  · by_cases hp : y = "place"
    · rw [hp]; decide
    · rw [if_neg hp] at hy; exact absurd rfl hy
  exact wpAt_of_wpAny (wpAny_execs_nil (hq h4 _ dx t2 ⟨fun b o hb e => k4 b o (fun q => by
    rw [q] at e
    exact absurd (Nat.lt_of_lt_of_le (Heap.lt_size e) (Nat.le_trans (Nat.le_of_lt z) (Nat.le_trans hs2 dbig))) (Nat.lt_irrefl _)) (k3 b o hb (k2 b o hb (k b o e))), k4 _ _ (Ne.symm dne) hx3, Nat.le_trans (Nat.le_of_lt z) (Nat.le_trans hs2 dbig), dne, hn4⟩))
end
end XI
namespace VL
open PySem L2

/-- plain data: what a value is worth, without addresses -/
inductive D where
  | non | bl (b : Bool) | int (i : Int) | str (s : List Nat)
  | tup (l : List D) | lst (l : List D)
  | dct (ks : List Key) (l : List D)
  | scr (l : List Int) | loc (n : Nat) | obj (a : Addr)
  | exn (a : Addr) (d : Option Addr) (ks : List Str) (l : List D)

abbrev sv (s : List Nat) : V := .str ⟨s.toArray⟩

/-- a pair -/
def isPr : D → Bool
  | .tup [_, _] => true
  | _ => false
/-- all are pairs -/
def prs (l : List D) : Bool := l.all isPr
/-- a tuple that is known to have no dict -/
def Pl (G : Hp) (a : Addr) (vs : List V) : Prop := ∃ o, G a = some (.frz o (.tup vs)) ∧ o.dict = none
/-- a tuple of such data: a row of pairs has no dict -/
structure SqP (K : PySem.W.Frag) (G : Hp) (l : List D) (a : Addr) (vs : List V) : Prop where
  sq : SqT K G a vs
  pl : prs l = true → Pl G a vs
theorem SqP.new {K : PySem.W.Frag} {G : Hp} {l : List D} {a : Addr} {vs : List V} {o : Obj} (h : o.dict = none) : SqP K (upd G a (.frz o (.tup vs))) l a vs := ⟨.inl (.inr ⟨o, upd_same⟩), fun _ => ⟨o, upd_same, h⟩⟩
theorem SqP.odd {K : PySem.W.Frag} {G : Hp} {l : List D} {a : Addr} {vs : List V} (h : SqT K G a vs) (n : prs l = false) : SqP K G l a vs := ⟨h, fun e => by rw [n] at e; cases e⟩
mutual
def At (K : PySem.W.Frag) (th : List Addr) (G : Hp) : D → V → Prop
  | .non, v => v = .non
  | .bl b, v => v = .bl b
  | .int i, v => v = .int i
  | .str s, v => v = sv s
  | .tup l, v => ∃ a vs, v = .ref a ∧ SqP K G l a vs ∧ AtL K th G l vs
  | .lst l, v => ∃ a vs, v = .ref a ∧ G a = some (.lst vs) ∧ AtL K th G l vs
  | .dct ks l, v => ∃ a kvs, v = .ref a ∧ Rd G a (.dK kvs) ∧ kvs.map (·.1) = ks ∧ AtL K th G l (kvs.map (·.2))
  | .scr l, v => ∃ a, v = .ref a ∧ SqL K G a (l.map V.int)
  | .loc n, v => ∃ a, th[n]? = some a ∧ v = .ref a
  | .obj a, v => v = .ref a
  | .exn a d ks l, v => v = .ref a ∧ ∃ vs, AtL K th G l vs ∧ vs.length = ks.length ∧ (d = none → ks = []) ∧ ∀ dd, d = some dd → G dd = some (.xd (ks.zip vs))
def AtL (K : PySem.W.Frag) (th : List Addr) (G : Hp) : List D → List V → Prop
  | [], vs => vs = []
  | d :: l, vs => ∃ v r, vs = v :: r ∧ At K th G d v ∧ AtL K th G l r
end

/-- an own object of a running def, by its data -/
inductive Ob where
  | lst (l : List D) | dct (l : List (Key × D)) | ins (c : Str) (l : List (Str × D)) | dead

def KeepO (o : HO) (x : Option HO) : Prop := match o with
  | .tbl _ => ∃ ps, x = some (.tbl ps)
  | .dK kvs => x = some (.dK kvs) ∨ ∃ u, x = some (.frz u (.dK kvs))
  | _ => x = some o
/-- all that G knows stands in H (tables of code objects may grow) -/
def Ex (G H : Hp) : Prop := ∀ a o, G a = some o → KeepO o (H a)

theorem keepO_self (o : HO) : KeepO o (some o) := by cases o <;> first | rfl | exact ⟨_, rfl⟩ | exact .inl rfl
theorem keepO_some {o : HO} {x : Option HO} (h : KeepO o x) : ∃ u, x = some u := by
  cases o <;> first | exact ⟨_, h⟩ | (obtain ⟨ps, e⟩ := h; exact ⟨_, e⟩) | (rcases h with e | ⟨u, e⟩ <;> exact ⟨_, e⟩)
theorem keepO_trans {o : HO} {x y : Option HO} (h : KeepO o x) (k : ∀ u, x = some u → KeepO u y) : KeepO o y := by
  cases o with
  | tbl _ => obtain ⟨ps, e⟩ := h; exact (show ∃ qs, y = some (.tbl qs) from k (.tbl ps) e)
  | dK kvs =>
    rcases h with e | ⟨u, e⟩
    · exact k (.dK kvs) e
    · exact .inr ⟨u, (show y = some (.frz u (.dK kvs)) from k (.frz u (.dK kvs)) e)⟩
  | _ => exact k _ h
/-- .. and so does whatever is nobody's -/
def KeepF (o : HO) (x : Option HO) : Prop := match o with
  | .tbl _ => ∃ ps, x = some (.tbl ps)
  | _ => x = some o
theorem keepF_self (o : HO) : KeepF o (some o) := by cases o <;> first | rfl | exact ⟨_, rfl⟩
theorem keepF_some {o : HO} {x : Option HO} (h : KeepF o x) : ∃ u, x = some u := by
  cases o <;> first | exact ⟨_, h⟩ | (obtain ⟨ps, e⟩ := h; exact ⟨_, e⟩)
theorem keepF_trans {o : HO} {x y : Option HO} (h : KeepF o x) (k : ∀ u, x = some u → KeepF u y) : KeepF o y := by
  cases o with
  | tbl _ => obtain ⟨ps, e⟩ := h; exact (show ∃ qs, y = some (.tbl qs) from k (.tbl ps) e)
  | _ => exact k _ h
theorem Ex.refl (H : Hp) : Ex H H := fun a o h => by rw [h]; exact keepO_self o
theorem Ex.trans {A B C : Hp} (p : Ex A B) (q : Ex B C) : Ex A C := fun a o h => keepO_trans (p a o h) fun u e => q a u e
theorem Ex.none_back {G H : Hp} (e : Ex G H) {a : Addr} (h : H a = none) : G a = none := by
  cases h1 : G a with
  | none => rfl
  | some o =>
    obtain ⟨u, hu⟩ := keepO_some (e a o h1)
    rw [h] at hu; cases hu
theorem Ex.lst {G H : Hp} (e : Ex G H) {a : Addr} {xs : List V} (h : G a = some (.lst xs)) : H a = some (.lst xs) := e a _ h
theorem Ex.tup {G H : Hp} (e : Ex G H) {a : Addr} {xs : List V} (h : G a = some (.tup xs)) : H a = some (.tup xs) := e a _ h
theorem Ex.rdK {G H : Hp} (e : Ex G H) {a : Addr} {xs : List (Key × V)} (h : Rd G a (.dK xs)) : Rd H a (.dK xs) := by
  rcases h with h | ⟨o, h⟩
  · exact e a _ h
  · exact .inr ⟨o, e a _ h⟩
theorem Ex.rd {G H : Hp} (e : Ex G H) {a : Addr} {xs : List V} (h : Rd G a (.lst xs)) : Rd H a (.lst xs) := by
  rcases h with h | ⟨o, h⟩
  · exact .inl (e a _ h)
  · exact .inr ⟨o, e a _ h⟩
theorem Ex.rdT {G H : Hp} (e : Ex G H) {a : Addr} {xs : List V} (h : Rd G a (.tup xs)) : Rd H a (.tup xs) := by
  rcases h with h | ⟨o, h⟩
  · exact .inl (e a _ h)
  · exact .inr ⟨o, e a _ h⟩
theorem Ex.sqL {K : PySem.W.Frag} {G H : Hp} (e : Ex G H) {a : Addr} {xs : List V} (h : SqL K G a xs) : SqL K H a xs := by
  rcases h with h | h
  · exact .inl (e.rd h)
  · exact .inr h
theorem Ex.sqT {K : PySem.W.Frag} {G H : Hp} (e : Ex G H) {a : Addr} {xs : List V} (h : SqT K G a xs) : SqT K H a xs := by
  rcases h with h | h
  · exact .inl (e.rdT h)
  · exact .inr h
theorem Ex.new {H : Hp} {p : Addr} {o : HO} (h : H p = none) : Ex H (upd H p o) := fun a u e => by
  rw [upd_ne (ne_of_none e h), e]; exact keepO_self u
/-- what G does not know may change -/
theorem Ex.mut {G H : Hp} {p : Addr} {o : HO} (e : Ex G H) (h : G p = none) : Ex G (upd H p o) := fun a u ha => by
  rw [upd_ne (ne_of_none ha h)]
  exact e a u ha
/-- both learn the same -/
theorem Ex.both {G H : Hp} {p : Addr} {o : HO} (e : Ex G H) : Ex (upd G p o) (upd H p o) := fun a u ha => by
  by_cases hb : a = p
  · subst hb
    rw [upd_same] at ha ⊢
    cases ha
    exact keepO_self _
  · rw [upd_ne hb] at ha ⊢
    exact e a u ha

/-- one heap of data within another -/
def Sub (G G' : Hp) : Prop := ∀ a o, G a = some o → G' a = some o
theorem Sub.refl (G : Hp) : Sub G G := fun _ _ h => h
theorem Sub.trans {A B C : Hp} (p : Sub A B) (q : Sub B C) : Sub A C := fun a o h => q a o (p a o h)
theorem Sub.new {G : Hp} {p : Addr} {o : HO} (h : G p = none) : Sub G (upd G p o) := fun a u e => by
  rw [upd_ne (ne_of_none e h)]; exact e
theorem Sub.rd {G H : Hp} (e : Sub G H) {a : Addr} {u : HO} (h : Rd G a u) : Rd H a u := by
  rcases h with h | ⟨o, h⟩
  · exact .inl (e a _ h)
  · exact .inr ⟨o, e a _ h⟩
theorem Sub.sqL {K : PySem.W.Frag} {G H : Hp} (e : Sub G H) {a : Addr} {xs : List V} (h : SqL K G a xs) : SqL K H a xs := by
  rcases h with h | h
  · exact .inl (e.rd h)
  · exact .inr h
theorem Sub.sqT {K : PySem.W.Frag} {G H : Hp} (e : Sub G H) {a : Addr} {xs : List V} (h : SqT K G a xs) : SqT K H a xs := by
  rcases h with h | h
  · exact .inl (e.rd h)
  · exact .inr h

theorem Pl.mono {G H : Hp} (e : Sub G H) {a : Addr} {xs : List V} (h : Pl G a xs) : Pl H a xs := h.imp fun o q => ⟨e a _ q.1, q.2⟩
theorem Pl.ex {G H : Hp} (e : Ex G H) {a : Addr} {xs : List V} (h : Pl G a xs) : Pl H a xs := h.imp fun o q => ⟨(show H a = some (.frz o (.tup xs)) from e a (.frz o (.tup xs)) q.1), q.2⟩
theorem SqP.mono {K : PySem.W.Frag} {G H : Hp} (e : Sub G H) {l : List D} {a : Addr} {xs : List V} (h : SqP K G l a xs) : SqP K H l a xs := ⟨e.sqT h.sq, fun z => (h.pl z).mono e⟩
section
variable {K : PySem.W.Frag} {th th' : List Addr} {G G' : Hp}
theorem pre_get {l m : List Addr} {n : Nat} {a : Addr} (h : l <+: m) (e : l[n]? = some a) : m[n]? = some a := by
  obtain ⟨r, rfl⟩ := h
  obtain ⟨h1, _⟩ := List.getElem?_eq_some_iff.mp e
  rw [List.getElem?_append_left h1]; exact e
mutual
theorem At.mono (ht : th <+: th') (e : Sub G G') : ∀ {d : D} {v : V}, At K th G d v → At K th' G' d v
  | .non, _, h => h
  | .bl _, _, h => h
  | .int _, _, h => h
  | .str _, _, h => h
  | .tup _, _, h => by obtain ⟨a, vs, e1, q, r⟩ := h; exact ⟨a, vs, e1, q.mono e, AtL.mono ht e r⟩
  | .lst _, _, h => by obtain ⟨a, vs, e1, q, r⟩ := h; exact ⟨a, vs, e1, e _ _ q, AtL.mono ht e r⟩
  | .dct _ _, _, h => by obtain ⟨a, vs, e1, q, z, r⟩ := h; exact ⟨a, vs, e1, e.rd q, z, AtL.mono ht e r⟩
  | .scr _, _, h => by obtain ⟨a, e1, q⟩ := h; exact ⟨a, e1, e.sqL q⟩
  | .loc _, _, h => by obtain ⟨a, e1, q⟩ := h; exact ⟨a, pre_get ht e1, q⟩
  | .obj _, _, h => h
  | .exn _ _ _ _, _, h => by obtain ⟨e1, vs, q, z, n, r⟩ := h; exact ⟨e1, vs, AtL.mono ht e q, z, n, fun dd hd => e _ _ (r dd hd)⟩
theorem AtL.mono (ht : th <+: th') (e : Sub G G') : ∀ {l : List D} {vs : List V}, AtL K th G l vs → AtL K th' G' l vs
  | [], _, h => h
  | _ :: _, _, h => by obtain ⟨v, r, e1, q, z⟩ := h; exact ⟨v, r, e1, At.mono ht e q, AtL.mono ht e z⟩
end
theorem AtL.length : ∀ {l : List D} {vs : List V}, AtL K th G l vs → vs.length = l.length
  | [], _, h => by cases h; rfl
  | _ :: _, _, h => by obtain ⟨v, r, rfl, q, z⟩ := h; simp [AtL.length z]
theorem AtL.get : ∀ {l : List D} {vs : List V} {i : Nat} {d : D}, AtL K th G l vs → l[i]? = some d → ∃ v, vs[i]? = some v ∧ At K th G d v
  | [], _, _, _, _, e => by simp at e
  | _ :: _, _, 0, d, h, e => by
    obtain ⟨v, r, rfl, q, z⟩ := h
    simp at e; subst e
    exact ⟨v, rfl, q⟩
  | _ :: _, _, i + 1, d, h, e => by
    obtain ⟨v, r, rfl, q, z⟩ := h
    simp at e
    obtain ⟨u, h1, h2⟩ := AtL.get z e
    exact ⟨u, by simpa using h1, h2⟩
theorem AtL.get2 : ∀ {l : List D} {vs : List V} {i : Nat} {v : V}, AtL K th G l vs → vs[i]? = some v → ∃ d, l[i]? = some d ∧ At K th G d v := fun {l vs i v} h e => by
  have hl := h.length
  have hi : i < vs.length := (List.getElem?_eq_some_iff.mp e).1
  have hd : i < l.length := by omega
  obtain ⟨u, h1, h2⟩ := h.get (List.getElem?_eq_getElem hd)
  rw [h1] at e; cases e
  exact ⟨_, List.getElem?_eq_getElem hd, h2⟩
theorem AtL.append : ∀ {l m : List D} {vs ws : List V}, AtL K th G l vs → AtL K th G m ws → AtL K th G (l ++ m) (vs ++ ws)
  | [], _, _, _, h, h2 => by cases h; exact h2
  | _ :: _, _, _, _, h, h2 => by
    obtain ⟨v, r, rfl, q, z⟩ := h
    exact ⟨v, r ++ _, rfl, q, AtL.append z h2⟩
theorem AtL.cons {d : D} {v : V} {l : List D} {vs : List V} (h : At K th G d v) (t : AtL K th G l vs) : AtL K th G (d :: l) (v :: vs) := ⟨v, vs, rfl, h, t⟩
theorem AtL.one {d : D} {v : V} (h : At K th G d v) : AtL K th G [d] [v] := ⟨v, [], rfl, h, rfl⟩
theorem AtL.drop : ∀ {l : List D} {vs : List V} (n : Nat), AtL K th G l vs → AtL K th G (l.drop n) (vs.drop n)
  | _, _, 0, h => h
  | [], _, n + 1, h => by cases h; exact rfl
  | _ :: _, _, n + 1, h => by obtain ⟨v, r, rfl, q, z⟩ := h; exact AtL.drop n z
theorem AtL.take : ∀ {l : List D} {vs : List V} (n : Nat), AtL K th G l vs → AtL K th G (l.take n) (vs.take n)
  | _, _, 0, h => rfl
  | [], _, n + 1, h => by cases h; exact rfl
  | _ :: _, _, n + 1, h => by obtain ⟨v, r, rfl, q, z⟩ := h; exact ⟨v, _, rfl, q, AtL.take n z⟩
theorem AtL.set : ∀ {l : List D} {vs : List V} {d : D} {v : V} (n : Nat), AtL K th G l vs → At K th G d v → AtL K th G (l.set n d) (vs.set n v)
  | [], _, _, _, _, h, _ => by cases h; exact rfl
  | _ :: _, _, _, _, 0, h, h2 => by obtain ⟨v, r, rfl, q, z⟩ := h; exact ⟨_, r, rfl, h2, z⟩
  | _ :: _, _, _, _, n + 1, h, h2 => by obtain ⟨v, r, rfl, q, z⟩ := h; exact ⟨v, _, rfl, q, AtL.set n z h2⟩
theorem AtL.eraseIdx : ∀ {l : List D} {vs : List V} (n : Nat), AtL K th G l vs → AtL K th G (l.eraseIdx n) (vs.eraseIdx n)
  | [], _, _, h => by cases h; exact rfl
  | _ :: _, _, 0, h => by obtain ⟨v, r, rfl, q, z⟩ := h; exact z
  | _ :: _, _, n + 1, h => by obtain ⟨v, r, rfl, q, z⟩ := h; exact ⟨v, _, rfl, q, AtL.eraseIdx n z⟩
theorem AtL.reverse {l : List D} {vs : List V} (h : AtL K th G l vs) : AtL K th G l.reverse vs.reverse := by
  induction l generalizing vs with
  | nil => cases h; exact rfl
  | cons d l ih =>
    obtain ⟨v, r, rfl, q, z⟩ := h
    rw [List.reverse_cons, List.reverse_cons]
    exact (ih z).append (.one q)
theorem AtL.ints : ∀ {ns : List Int} {vs : List V}, AtL K th G (ns.map D.int) vs → vs = ns.map V.int
  | [], _, h => h
  | _ :: _, _, h => by obtain ⟨v, r, rfl, q, z⟩ := h; cases q; rw [AtL.ints z]; rfl
theorem AtL.strs : ∀ {ns : List (List Nat)} {vs : List V}, AtL K th G (ns.map D.str) vs → vs = ns.map sv
  | [], _, h => h
  | _ :: _, _, h => by obtain ⟨v, r, rfl, q, z⟩ := h; cases q; rw [AtL.strs z]; rfl
theorem AtL.bls : ∀ {ns : List Bool} {vs : List V}, AtL K th G (ns.map D.bl) vs → vs = ns.map V.bl
  | [], _, h => h
  | _ :: _, _, h => by obtain ⟨v, r, rfl, q, z⟩ := h; cases q; rw [AtL.bls z]; rfl
theorem AtL.rep {l : List D} {vs : List V} (h : AtL K th G l vs) : ∀ n : Nat, AtL K th G (List.replicate n l).flatten (List.replicate n vs).flatten
  | 0 => rfl
  | n + 1 => by
    rw [List.replicate_succ, List.replicate_succ, List.flatten_cons, List.flatten_cons]
    exact h.append (AtL.rep h n)
end

/-- what stands at an own place -/
def ObAt (K : PySem.W.Frag) (th : List Addr) (G : Hp) (H : Hp) (a : Addr) : Ob → Prop
  | .lst l => G a = none ∧ ∃ vs, H a = some (.lst vs) ∧ AtL K th G l vs
  | .dct l => G a = none ∧ ∃ kvs : List (Key × V), H a = some (.dK kvs) ∧ kvs.map (·.1) = l.map (·.1) ∧ AtL K th G (l.map (·.2)) (kvs.map (·.2))
  | .ins C l => G a = none ∧ ∃ dx fs, H a = some (.ins (He.ga K C) dx fs) ∧ fs.map (·.1) = l.map (·.1) ∧ AtL K th G (l.map (·.2)) (fs.map (·.2))
  | .dead => True

structure Exn where
  c : Str
  fs : List (Str × D)

/-- slots and own objects -/
structure S where
  r : List (Option D)
  m : List Ob

inductive R (α : Type) where
  | ok (a : α) | ex (e : Exn) (s : S) | no

/-- the tables of code objects that may grow, the classes by name -/
structure Bs where
  Tb : Addr → Prop
  cl : Str → Addr

structure Rep (K : PySem.W.Frag) (B : Bs) (th : List Addr) (G : Hp) (s : S) (σ : St) (H : Hp) : Prop where
  len : s.r.length = σ.length
  slot : ∀ (i : Nat) (d : D), s.r[i]? = some (some d) → ∃ v : V, σ[i]? = some (some v) ∧ At K th G d v
  eG : Ex G H
  tb : ∀ P, B.Tb P → GxR.TabG H P
  tl : th.length = s.m.length
  nd : th.Nodup
  al : ∀ a ∈ th, H a ≠ none
  st : ∀ (n : Nat) ob a, s.m[n]? = some ob → th[n]? = some a → ObAt K th G H a ob

/-- later: places and data stay, and so does whatever else stands -/
structure Le (th : List Addr) (G H : Hp) (th' : List Addr) (G' H' : Hp) : Prop where
  pre : th <+: th'
  ex : Sub G G'
  fr : ∀ a o, H a = some o → G a = none → a ∉ th → KeepF o (H' a) ∧ G' a = none ∧ a ∉ th'
theorem Le.refl (th : List Addr) (G H : Hp) : Le th G H th G H := ⟨List.prefix_rfl, Sub.refl G, fun a o e g n => ⟨by rw [e]; exact keepF_self o, g, n⟩⟩
theorem Le.trans {t1 t2 t3 : List Addr} {G1 G2 G3 H1 H2 H3 : Hp} (p : Le t1 G1 H1 t2 G2 H2) (q : Le t2 G2 H2 t3 G3 H3) : Le t1 G1 H1 t3 G3 H3 :=
  ⟨p.pre.trans q.pre, p.ex.trans q.ex, fun a o e g n => by
    obtain ⟨h1, h2, h3⟩ := p.fr a o e g n
    obtain ⟨u, hu⟩ := keepF_some h1
    obtain ⟨k1, k2, k3⟩ := q.fr a u hu h2 h3
    exact ⟨keepF_trans h1 fun u' e' => by rw [hu] at e'; cases e'; exact k1, k2, k3⟩⟩

section
variable {K : PySem.W.Frag} {B : Bs} {th : List Addr} {G : Hp} {s : S} {σ : St} {H : Hp}

theorem tab_upd {P p : Addr} {o : HO} (h : GxR.TabG H P) (hp : H p = none) : GxR.TabG (upd H p o) P := by
  obtain ⟨ps, e, t⟩ := h
  exact ⟨ps, by rw [upd_ne (ne_of_none e hp)]; exact e, t⟩
theorem ne_none {a p : Addr} (ha : H a ≠ none) (hp : H p = none) : a ≠ p := fun z => ha (by rw [z]; exact hp)
theorem some_ne {a : Addr} {o : HO} (h : H a = some o) : H a ≠ none := fun z => by rw [h] at z; cases z
theorem Rep.thne (R : Rep K B th G s σ H) {p : Addr} (hp : H p = none) : p ∉ th := fun hm => R.al p hm hp
theorem Rep.gnone (R : Rep K B th G s σ H) {p : Addr} (hp : H p = none) : G p = none := R.eG.none_back hp
theorem Le.new {p : Addr} {o : HO} (hp : H p = none) (e : Ex G H) : Le th G H th (upd G p o) (upd H p o) :=
  ⟨List.prefix_rfl, Sub.new (e.none_back hp), fun a u ha g n => by
    have hne := ne_none (some_ne ha) hp
    exact ⟨by rw [upd_ne hne, ha]; exact keepF_self u, by rw [upd_ne hne]; exact g, n⟩⟩

theorem ObAt.mono {th' : List Addr} {G' H' : Hp} {a : Addr} {ob : Ob} (ht : th <+: th') (e : Sub G G') (hg : ob ≠ .dead → G a = none → G' a = none) (hh : ob ≠ .dead → ∀ o, H a = some o → H' a = some o) (h : ObAt K th G H a ob) : ObAt K th' G' H' a ob := by
  cases ob with
  | lst l => obtain ⟨g, vs, e1, q⟩ := h; exact ⟨hg (fun z => nomatch z) g, vs, hh (fun z => nomatch z) _ e1, q.mono ht e⟩
  | dct l => obtain ⟨g, vs, e1, z, q⟩ := h; exact ⟨hg (fun z => nomatch z) g, vs, hh (fun z => nomatch z) _ e1, z, q.mono ht e⟩
  | ins C l => obtain ⟨g, dx, vs, e1, z, q⟩ := h; exact ⟨hg (fun z => nomatch z) g, dx, vs, hh (fun z => nomatch z) _ e1, z, q.mono ht e⟩
  | dead => exact trivial

/-- a new thing that is data from now on -/
theorem Rep.frz (R : Rep K B th G s σ H) {p : Addr} (hp : H p = none) (o : HO) : Rep K B th (upd G p o) s σ (upd H p o) where
  len := R.len
  slot := fun i d e => by
    obtain ⟨v, h1, h2⟩ := R.slot i d e
    exact ⟨v, h1, h2.mono List.prefix_rfl (Sub.new (R.gnone hp))⟩
  eG := R.eG.both
  tb := fun P h => tab_upd (R.tb P h) hp
  tl := R.tl
  nd := R.nd
  al := fun a h => by
    rw [upd_ne (ne_none (R.al a h) hp)]
    exact R.al a h
  st := fun n ob a e1 e2 => by
    have hne : a ≠ p := ne_none (R.al a (List.mem_of_getElem? e2)) hp
    refine (R.st n ob a e1 e2).mono List.prefix_rfl (Sub.new (R.gnone hp)) (fun _ g => ?_) (fun _ o h => ?_)
    · rw [upd_ne hne]; exact g
    · rw [upd_ne hne]; exact h

/-- a thing of nobody's is laid or changed aside -/
theorem Rep.side (R : Rep K B th G s σ H) {p : Addr} (o : HO) (hg : G p = none) (ht : p ∉ th) (hb : ∀ P, B.Tb P → P ≠ p) : Rep K B th G s σ (upd H p o) where
  len := R.len
  slot := R.slot
  eG := R.eG.mut hg
  tb := fun P h => by
    obtain ⟨ps, e, t⟩ := R.tb P h
    exact ⟨ps, by rw [upd_ne (hb P h)]; exact e, t⟩
  tl := R.tl
  nd := R.nd
  al := fun a h => by
    have hne : a ≠ p := fun z => ht (z ▸ h)
    rw [upd_ne hne]
    exact R.al a h
  st := fun n ob a e1 e2 => by
    have hne : a ≠ p := fun z => ht (z ▸ List.mem_of_getElem? e2)
    refine (R.st n ob a e1 e2).mono List.prefix_rfl (Sub.refl _) (fun _ g => g) (fun _ o h => ?_)
    rw [upd_ne hne]; exact h

/-- a new thing that is our own -/
theorem Rep.own (R : Rep K B th G s σ H) {p : Addr} (hl : H p ≠ none) (hn : p ∉ th) {ob : Ob} (ho : ObAt K (th ++ [p]) G H p ob) : Rep K B (th ++ [p]) G { s with m := s.m ++ [ob] } σ H where
  len := R.len
  slot := fun i d e => by
    obtain ⟨v, h1, h2⟩ := R.slot i d e
    exact ⟨v, h1, h2.mono (List.prefix_append _ _) (Sub.refl _)⟩
  eG := R.eG
  tb := R.tb
  tl := by simp [R.tl]
  nd := by
    rw [List.nodup_append]
    refine ⟨R.nd, by simp, fun a ha b hb => ?_⟩
    have : b = p := by simpa using hb
    subst this
    exact fun z => hn (z ▸ ha)
  al := fun a h => by
    rcases List.mem_append.mp h with h | h
    · exact R.al a h
    · have : a = p := by simpa using h
      rw [this]; exact hl
  st := fun n ob' a e1 e2 => by
    by_cases hn : n < th.length
    · rw [List.getElem?_append_left hn] at e2
      rw [List.getElem?_append_left (by rw [← R.tl]; exact hn)] at e1
      exact (R.st n ob' a e1 e2).mono (List.prefix_append _ _) (Sub.refl _) (fun _ g => g) (fun _ o h => h)
    · rw [List.getElem?_append_right (by omega)] at e2
      rw [List.getElem?_append_right (by rw [← R.tl]; omega), ← R.tl] at e1
      cases hk : n - th.length with
      | zero =>
        rw [hk] at e1 e2
        simp at e1 e2
        subst e1; subst e2
        exact ho
      | succ k => rw [hk] at e2; simp at e2

theorem nodup_get {l : List Addr} (h : l.Nodup) {i j : Nat} {a : Addr} (e1 : l[i]? = some a) (e2 : l[j]? = some a) : i = j := by
  obtain ⟨h1, q1⟩ := List.getElem?_eq_some_iff.mp e1
  obtain ⟨h2, q2⟩ := List.getElem?_eq_some_iff.mp e2
  exact (List.getElem_inj h).mp (q1.trans q2.symm)

/-- an own thing is changed -/
theorem Rep.put (R : Rep K B th G s σ H) {n : Nat} {a : Addr} {o : HO} {ob : Ob} (ha : th[n]? = some a) (hg : G a = none) (ho : ObAt K th G (upd H a o) a ob) (nt : ∀ P, B.Tb P → P ≠ a) : Rep K B th G { s with m := s.m.set n ob } σ (upd H a o) where
  len := R.len
  slot := R.slot
  eG := R.eG.mut hg
  tb := fun P h => by
    obtain ⟨ps, e, t⟩ := R.tb P h
    exact ⟨ps, by rw [upd_ne (nt P h)]; exact e, t⟩
  tl := by simp [R.tl]
  nd := R.nd
  al := fun b h => by
    by_cases hb : b = a
    · rw [hb, upd_same]; exact fun z => by cases z
    · rw [upd_ne hb]; exact R.al b h
  st := fun k ob' b e1 e2 => by
    by_cases hk : k = n
    · subst hk
      rw [ha] at e2; cases e2
      have hlt : k < s.m.length := by
        have := (List.getElem?_eq_some_iff.mp ha).1
        rw [R.tl] at this; exact this
      simp only [List.getElem?_set_self hlt] at e1
      cases e1
      exact ho
    · have hne : b ≠ a := fun z => hk (nodup_get R.nd (z ▸ e2) ha)
      simp only [List.getElem?_set_ne (Ne.symm hk)] at e1
      refine (R.st k ob' b e1 e2).mono List.prefix_rfl (Sub.refl _) (fun _ g => g) (fun _ u h => ?_)
      rw [upd_ne hne]; exact h
theorem Le.put {n : Nat} {a : Addr} {o : HO} (ha : th[n]? = some a) : Le th G H th G (upd H a o) :=
  ⟨List.prefix_rfl, Sub.refl G, fun b u hb g hn => by
    have hne : b ≠ a := fun z => hn (z ▸ List.mem_of_getElem? ha)
    exact ⟨by rw [upd_ne hne, hb]; exact keepF_self u, g, hn⟩⟩

/-- an own thing is data from now on -/
theorem Rep.still (R : Rep K B th G s σ H) {n : Nat} {a : Addr} {o : HO} (ha : th[n]? = some a) (hH : H a = some o) (hg : G a = none) : Rep K B th (upd G a o) { s with m := s.m.set n .dead } σ H where
  len := R.len
  slot := fun i d e => by
    obtain ⟨v, h1, h2⟩ := R.slot i d e
    exact ⟨v, h1, h2.mono List.prefix_rfl (Sub.new hg)⟩
  eG := fun b u e => by
    by_cases hb : b = a
    · rw [hb, upd_same] at e
      cases e
      rw [hb, hH]; exact keepO_self _
    · rw [upd_ne hb] at e
      exact R.eG b u e
  tb := R.tb
  tl := by simp [R.tl]
  nd := R.nd
  al := R.al
  st := fun k ob' b e1 e2 => by
    by_cases hk : k = n
    · subst hk
      have hlt : k < s.m.length := by
        have := (List.getElem?_eq_some_iff.mp ha).1
        rw [R.tl] at this; exact this
      simp only [List.getElem?_set_self hlt] at e1
      cases e1
      exact trivial
    · have hne : b ≠ a := fun z => hk (nodup_get R.nd (z ▸ e2) ha)
      simp only [List.getElem?_set_ne (Ne.symm hk)] at e1
      refine (R.st k ob' b e1 e2).mono List.prefix_rfl (Sub.new hg) (fun _ g => ?_) (fun _ u h => h)
      rw [upd_ne hne]; exact g
theorem Le.still {n : Nat} {a : Addr} {o : HO} (ha : th[n]? = some a) (hg : G a = none) : Le th G H th (upd G a o) H :=
  ⟨List.prefix_rfl, Sub.new hg, fun b u hb g hn => by
    have hne : b ≠ a := fun z => hn (z ▸ List.mem_of_getElem? ha)
    exact ⟨by rw [hb]; exact keepF_self u, by rw [upd_ne hne]; exact g, hn⟩⟩

/-- a thing of nobody's becomes data -/
theorem Rep.take (R : Rep K B th G s σ H) {a : Addr} {o : HO} (hH : H a = some o) (hg : G a = none) (hn : a ∉ th) : Rep K B th (upd G a o) s σ H where
  len := R.len
  slot := fun i d e => by
    obtain ⟨v, h1, h2⟩ := R.slot i d e
    exact ⟨v, h1, h2.mono List.prefix_rfl (Sub.new hg)⟩
  eG := fun b u e => by
    by_cases hb : b = a
    · rw [hb, upd_same] at e
      cases e
      rw [hb, hH]; exact keepO_self _
    · rw [upd_ne hb] at e
      exact R.eG b u e
  tb := R.tb
  tl := R.tl
  nd := R.nd
  al := R.al
  st := fun k ob' b e1 e2 => by
    have hne : b ≠ a := fun z => hn (z ▸ List.mem_of_getElem? e2)
    refine (R.st k ob' b e1 e2).mono List.prefix_rfl (Sub.new hg) (fun _ g => ?_) (fun _ u h => h)
    rw [upd_ne hne]; exact g

theorem set_get {r : List (Option D)} {i j : Nat} {x : Option D} {d : D} (h : (r.set i x)[j]? = some (some d)) : (i = j ∧ x = some d) ∨ (i ≠ j ∧ r[j]? = some (some d)) := by
  by_cases e : i = j
  · subst e
    by_cases hl : i < r.length
    · rw [List.getElem?_set_self hl] at h; exact .inl ⟨rfl, Option.some.inj h⟩
    · rw [List.getElem?_eq_none (by simpa using hl)] at h; cases h
  · rw [List.getElem?_set_ne e] at h; exact .inr ⟨e, h⟩

/-- a slot is stored -/
theorem Rep.sets (R : Rep K B th G s σ H) {i : Nat} {d : D} {v : V} (h : At K th G d v) : Rep K B th G { s with r := s.r.set i (some d) } (σ.set i (some v)) H where
  len := by simp [R.len]
  slot := fun j d' e => by
    rcases set_get e with ⟨hj, e'⟩ | ⟨hj, e'⟩
    · subst hj
      cases e'
      have hl : i < s.r.length := by
        have := (List.getElem?_eq_some_iff.mp e).1
        simpa using this
      exact ⟨v, List.getElem?_set_self (by rw [← R.len]; exact hl), h⟩
    · obtain ⟨u, h1, h2⟩ := R.slot j d' e'
      exact ⟨u, by rw [List.getElem?_set_ne hj]; exact h1, h2⟩
  eG := R.eG
  tb := R.tb
  tl := R.tl
  nd := R.nd
  al := R.al
  st := R.st
/-- other slots over the same things -/
theorem Rep.slots (R : Rep K B th G s σ H) {r' : List (Option D)} {σ' : St} (hl : r'.length = σ'.length) (h : ∀ (i : Nat) (d : D), r'[i]? = some (some d) → ∃ v : V, σ'[i]? = some (some v) ∧ At K th G d v) : Rep K B th G { s with r := r' } σ' H :=
  ⟨hl, h, R.eG, R.tb, R.tl, R.nd, R.al, R.st⟩
theorem Rep.tbne (R : Rep K B th G s σ H) {a : Addr} {o : HO} (h : H a = some o) (ho : ∀ ps, o ≠ .tbl ps) : ∀ P, B.Tb P → P ≠ a := fun P hP z => by
  obtain ⟨ps, e, _⟩ := R.tb P hP
  rw [z, h] at e
  exact ho ps (Option.some.inj e)
theorem Rep.tbnew (R : Rep K B th G s σ H) {a : Addr} (h : H a = none) : ∀ P, B.Tb P → P ≠ a := fun P hP z => by
  obtain ⟨ps, e, _⟩ := R.tb P hP
  rw [z, h] at e
  cases e
end
end VL
namespace VL
open PySem L2

def R.bind {α β : Type} (x : R (α × S)) (k : α → S → R β) : R β := match x with
  | .ok (a, s) => k a s
  | .ex e s => .ex e s
  | .no => .no
@[simp] theorem R.bind_ok {α β : Type} (a : α) (s : S) (k : α → S → R β) : R.bind (.ok (a, s)) k = k a s := id rfl
@[simp] theorem R.bind_ex {α β : Type} (e : Exn) (s : S) (k : α → S → R β) : R.bind (.ex e s) k = .ex e s := id rfl
@[simp] theorem R.bind_no {α β : Type} (k : α → S → R β) : R.bind .no k = .no := id rfl
theorem R.bind_assoc {α β γ : Type} (x : R (α × S)) (k : α → S → R (β × S)) (l : β → S → R γ) : (x.bind k).bind l = x.bind fun a s => (k a s).bind l := by
  cases x with
  | ok a => obtain ⟨a, s⟩ := a; rfl
  | ex e s => rfl
  | no => rfl

abbrev ME := S → R (D × S)
abbrev MT := S → R (Bool × S)
abbrev MA := S → R (List D × S)
abbrev MF := S → R (Ob × S)
/-- the first heap: the one at the start -/
abbrev Rel (α β : Type) := Hp → List Addr → Hp → Hp → α → β → Prop
class MonoR {α β : Type} (rel : Rel α β) : Prop where
  mono : ∀ {H H1 : Hp} {th : List Addr} {G H' : Hp} {a : α} {b : β}, (∀ p, H1 p = none → H p = none) → rel H1 th G H' a b → rel H th G H' a b
abbrev Tr (β : Type) := St → Hp → (β → Hp → Prop) → Prop

def ExAt (K : PySem.W.Frag) (B : Bs) (th : List Addr) (G H : Hp) (e : Exn) (cls : Value) (d : Option Addr) : Prop :=
  cls = .ref (B.cl e.c) ∧ ∃ vs, AtL K th G (e.fs.map (·.2)) vs ∧ vs.length = e.fs.length ∧ (d = none → e.fs = []) ∧ ∀ dd, d = some dd → G dd = some (.xd ((e.fs.map (·.1)).zip vs))

section
variable (K : PySem.W.Frag) (B : Bs) (W : WX)
def Post {α β : Type} (σ : St) (th : List Addr) (G H : Hp) (rel : Rel α β) (x : R (α × S)) (Q : β → Hp → Prop) : Prop := match x with
  | .ok (a, s') => ∀ th' G' H' b, Le th G H th' G' H' → Rep K B th' G' s' σ H' → rel H th' G' H' a b → Q b H'
  | .ex e s' => ∀ th' G' H' cls d, Le th G H th' G' H' → Rep K B th' G' s' σ H' → ExAt K B th' G' H' e cls d → W cls d σ H'
  | .no => False
def Sem {α β : Type} (rel : Rel α β) (t : Tr β) (m : S → R (α × S)) : Prop :=
  ∀ s th G σ H Q, Rep K B th G s σ H → Post K B W σ th G H rel (m s) Q → t σ H Q
end

def relE (K : PySem.W.Frag) : Rel D V := fun _ th G _ d v => At K th G d v
def relT : Rel Bool Bool := fun _ _ _ _ a b => b = a
def relO : Rel (Option Int) (Option Int) := fun _ _ _ _ a b => b = a
def relA (K : PySem.W.Frag) : Rel (List D) (List V) := fun _ th G _ l vs => AtL K th G l vs
/-- a fresh thing of nobody's -/
def relF (K : PySem.W.Frag) : Rel Ob V := fun H0 th G H ob v => ∃ p, v = .ref p ∧ ob ≠ .dead ∧ ObAt K th G H p ob ∧ p ∉ th ∧ H0 p = none
/-- an iterator's walk over data -/
def relI (K : PySem.W.Frag) : Rel (List D) It := fun _ th G H l J => ∀ th1 G1 H1 i, Le th G H th1 G1 H1 → Ex G1 H1 →
  (l.length ≤ i → J.stop i H1) ∧ ∀ d, l[i]? = some d → J.go i H1 ∧ ∀ x H2, J.yld i H1 x H2 → ∃ G2, ((H2 = H1 ∧ G2 = G1) ∨ ∃ p o, H1 p = none ∧ H2 = upd H1 p o ∧ G2 = upd G1 p o) ∧ At K th1 G2 d x
instance {K : PySem.W.Frag} : MonoR (relE K) := ⟨fun _ h => h⟩
instance : MonoR relT := ⟨fun _ h => h⟩
instance : MonoR relO := ⟨fun _ h => h⟩
instance {K : PySem.W.Frag} : MonoR (relA K) := ⟨fun _ h => h⟩
instance {K : PySem.W.Frag} : MonoR (relI K) := ⟨fun _ h => h⟩
instance {K : PySem.W.Frag} : MonoR (relF K) := ⟨fun k h => by obtain ⟨p, e, d, o, n, z⟩ := h; exact ⟨p, e, d, o, n, k p z⟩⟩

theorem Le.none_back {th th' : List Addr} {G G' H H' : Hp} (l : Le th G H th' G' H') (hx : Ex G' H') (ha : ∀ a ∈ th', H' a ≠ none) {p : Addr} (h : H' p = none) : H p = none := by
  cases e : H p with
  | none => rfl
  | some o =>
    by_cases hg : G p = none
    · by_cases ht : p ∈ th
      · exact absurd h (ha p (l.pre.subset ht))
      · obtain ⟨u, hu⟩ := keepF_some (l.fr p o e hg ht).1
        rw [h] at hu; cases hu
    · cases e2 : G p with
      | none => exact absurd e2 hg
      | some u =>
        have := hx.none_back h
        rw [l.ex p u e2] at this; cases this

section
variable {K : PySem.W.Frag} {B : Bs} {W : WX} {α β γ δ : Type} {σ : St} {th : List Addr} {G H : Hp}
theorem Post.later {rel : Rel α β} [MonoR rel] {x : R (α × S)} {Q : β → Hp → Prop} {th1 : List Addr} {G1 H1 : Hp} {s1 : S} (l : Le th G H th1 G1 H1) (R1 : Rep K B th1 G1 s1 σ H1) (P : Post K B W σ th G H rel x Q) : Post K B W σ th1 G1 H1 rel x Q := by
  cases x with
  | ok a => obtain ⟨a, s⟩ := a; exact fun th' G' H' b l' R r => P th' G' H' b (l.trans l') R (MonoR.mono (fun p h => l.none_back R1.eG R1.al h) r)
  | ex e s => exact fun th' G' H' cls d l' R r => P th' G' H' cls d (l.trans l') R r
  | no => exact P
theorem Post.bind {rel : Rel α β} {rel3 : Rel γ δ} [MonoR rel3] {x : R (α × S)} {k : α → S → R (γ × S)} {Q : δ → Hp → Prop} {Q2 : β → Hp → Prop} (P : Post K B W σ th G H rel3 (x.bind k) Q)
    (h : ∀ a s' th' G' H' b, Le th G H th' G' H' → Rep K B th' G' s' σ H' → rel H th' G' H' a b → Post K B W σ th' G' H' rel3 (k a s') Q → Q2 b H') : Post K B W σ th G H rel x Q2 := by
  cases x with
  | ok a => obtain ⟨a, s⟩ := a; exact fun th' G' H' b l R r => h a s th' G' H' b l R r (P.later l R)
  | ex e s => exact P
  | no => exact P
/-- .. what follows still seen from the start -/
theorem Post.bind0 {rel : Rel α β} {rel3 : Rel γ δ} {x : R (α × S)} {k : α → S → R (γ × S)} {Q : δ → Hp → Prop} {Q2 : β → Hp → Prop} (P : Post K B W σ th G H rel3 (x.bind k) Q)
    (h : ∀ a s' th' G' H' b, Le th G H th' G' H' → Rep K B th' G' s' σ H' → rel H th' G' H' a b → Post K B W σ th G H rel3 (k a s') Q → Q2 b H') : Post K B W σ th G H rel x Q2 := by
  cases x with
  | ok a => obtain ⟨a, s⟩ := a; exact fun th' G' H' b l R r => h a s th' G' H' b l R r P
  | ex e s => exact P
  | no => exact P
theorem Post.ok {rel : Rel α β} {a : α} {s : S} {b : β} {Q : β → Hp → Prop} (P : Post K B W σ th G H rel (.ok (a, s)) Q) (R : Rep K B th G s σ H) (r : rel H th G H a b) : Q b H := P th G H b (Le.refl _ _ _) R r
/-- the wish, weakened -/
theorem Post.mono {rel : Rel α β} {x : R (α × S)} {Q Q' : β → Hp → Prop} (P : Post K B W σ th G H rel x Q) (h : ∀ b H', Q b H' → Q' b H') : Post K B W σ th G H rel x Q' := by
  cases x with
  | ok a => obtain ⟨a, s⟩ := a; exact fun th' G' H' b l R r => h _ _ (P th' G' H' b l R r)
  | ex e s => exact P
  | no => exact P
end

/-! ### the judgements: a rule of the hand layer with what it is worth -/
structure VE (X : Cx) (B : Bs) (W : WX) (e : Expr) (t : TE) (m : ME) : Prop where
  pe : PE X e t
  sem : Sem X.K B W (relE X.K) t m
structure VF (X : Cx) (B : Bs) (W : WX) (e : Expr) (t : TE) (m : MF) : Prop where
  pe : PE X e t
  sem : Sem X.K B W (relF X.K) t m
structure VT (X : Cx) (B : Bs) (W : WX) (e : Expr) (t : TT) (m : MT) : Prop where
  pt : PT X e t
  sem : Sem X.K B W relT t m
structure VW (X : Cx) (B : Bs) (W : WX) (e : Expr) (t : TT) (m : MT) : Prop where
  pw : PW X e t
  sem : Sem X.K B W relT t m
structure VA (X : Cx) (B : Bs) (W : WX) (es : List Expr) (t : TA) (m : MA) : Prop where
  pa : PA X es t
  sem : Sem X.K B W (relA X.K) t m
structure VI (X : Cx) (B : Bs) (W : WX) (tg e : Expr) (t : TI) (m : MA) : Prop where
  pi : PI X tg e t
  sem : Sem X.K B W (relI X.K) t m
/-- an optional part of a slice -/
structure VO (X : Cx) (B : Bs) (W : WX) (e : Option Expr) (t : TO) (m : S → R (Option Int × S)) : Prop where
  po : PO X e t
  sem : Sem X.K B W relO t m

/-! ### names, constants -/
def eV (i : Nat) : ME := fun s => match s.r[i]? with
  | some (some d) => .ok (d, s)
  | _ => .no
def eC (d : D) : ME := fun s => .ok (d, s)
section
variable {X : Cx} {B : Bs} {W : WX} {e a b c : Expr} {te ta tb tc : TE} {m ma mb mc : ME} {pos : Pos}
theorem ve_v {x : Str} (i : Nat) (hN : X.N[i]? = some x := by rfl) (hv : Vis X.env.scope x := by first | exact Or.inl rfl | exact Or.inr (Or.inl rfl) | exact Or.inr (Or.inr rfl)) (hd : (x == ("__debug__" : Str)) = false := by decide)
    (hcd : (x == ("__classdict__" : Str)) = false := by decide) : VE X B W (.Name x pos) (tVar i) (eV i) := by
  refine ⟨pv i hN hv hd hcd, fun s th G σ H Q R P => ?_⟩
  unfold eV at P
  cases h : s.r[i]? with
  | none => rw [h] at P; exact P.elim
  | some o =>
    cases o with
    | none => rw [h] at P; exact P.elim
    | some d =>
      rw [h] at P
      obtain ⟨v, h1, h2⟩ := R.slot i d h
      exact ⟨v, h1, P.ok R h2⟩
theorem sem_c {K : PySem.W.Frag} {v : V} {d : D} (h : ∀ th G, At K th G d v) : Sem K B W (relE K) (tC v) (eC d) := fun s th G σ H Q R P => Post.ok (rel := relE K) P R (h th G)
theorem ve_int {i : Int} {j : Nat} : VE X B W (.Constant (.int i) j pos) (tC (.int i)) (eC (.int i)) := ⟨pe_int, sem_c fun _ _ => rfl⟩
theorem ve_bl {i : Bool} {j : Nat} : VE X B W (.Constant (.bool i) j pos) (tC (.bl i)) (eC (.bl i)) := ⟨pe_bl, sem_c fun _ _ => rfl⟩
theorem ve_non {j : Nat} : VE X B W (.Constant .none j pos) (tC .non) (eC .non) := ⟨pe_non, sem_c fun _ _ => rfl⟩
theorem ve_str {x : Str} {l : List Nat} {j : Nat} (h : x.cps = l.toArray := by rfl) : VE X B W (.Constant (.str x) j pos) (tC (.str x)) (eC (.str l)) := ⟨pe_str, sem_c fun _ _ => by
  obtain ⟨c⟩ := x
  have h : c = l.toArray := h
  subst h; rfl⟩
/-- a built-in class or a class of the program as a value -/
theorem ve_gobj {x : Str} {ad : Addr} (hg : Gl X x) (hm : X.mg x = some (.ref ad)) (hd : (x == ("__debug__" : Str)) = false := by decide) : VE X B W (.Name x pos) (tC (.ref ad)) (eC (.obj ad)) := ⟨pe_glob hg hm rfl hd, sem_c fun _ _ => rfl⟩

/-! ### two operands -/
def eOp (f : D → D → S → R (D × S)) (a b : ME) : ME := fun s => (a s).bind fun x s => (b s).bind fun y s => f x y s
/-- what an operation by values is worth -/
def SemR (K : PySem.W.Frag) (B : Bs) (W : WX) (r : R2) (f : D → D → S → R (D × S)) : Prop :=
  ∀ s th G σ H Q x y vx vy, Rep K B th G s σ H → At K th G x vx → At K th G y vy → Post K B W σ th G H (relE K) (f x y s) Q → r vx vy H Q
theorem sem_op {K : PySem.W.Frag} {r : R2} {f : D → D → S → R (D × S)} (hf : SemR K B W r f) (ha : Sem K B W (relE K) ta ma) (hb : Sem K B W (relE K) tb mb) : Sem K B W (relE K) (tOp r ta tb) (eOp f ma mb) := fun s th G σ H Q R P =>
  ha s th G σ H _ R (P.bind fun x s1 th1 G1 H1 vx l1 R1 r1 P1 => hb s1 th1 G1 σ H1 _ R1 (P1.bind fun y s2 th2 G2 H2 vy l2 R2 r2 P2 =>
    hf s2 th2 G2 σ H2 Q x y vx vy R2 (At.mono l2.pre l2.ex r1) r2 P2))
/-- a value reckoned from two, the heap as it was -/
def fP (g : D → D → Option D) : D → D → S → R (D × S) := fun x y s => match g x y with
  | some d => .ok (d, s)
  | none => .no
theorem semR_P {K : PySem.W.Frag} {r : R2} {g : D → D → Option D} (h : ∀ th G H (Q : VK) x y vx vy d, At K th G x vx → At K th G y vy → g x y = some d → (∀ v, At K th G d v → Q v H) → r vx vy H Q) : SemR K B W r (fP g) := fun s th G σ H Q x y vx vy R rx ry P => by
  unfold fP at P
  cases e : g x y with
  | none => rw [e] at P; exact P.elim
  | some d =>
    rw [e] at P
    exact h th G H Q x y vx vy d rx ry e fun v hv => Post.ok (rel := relE K) P R hv

theorem PE.or {t u : TE} (h : PE X e t) (k : PE X e u) : PE X e (fun σ H Q => t σ H Q ∨ u σ H Q) := ⟨fun pins s σ H Q I hw => by
  rcases hw with hw | hw
  · exact h.run pins s σ H Q I hw
  · exact k.run pins s σ H Q I hw⟩

/-- an operation on ints by its condition and its value -/
def gI (C : Int → Int → Bool) (g : Int → Int → D) : D → D → Option D
  | .int i, .int j => if C i j then some (g i j) else none
  | _, _ => none
theorem semR_I {K : PySem.W.Frag} {C : Int → Int → Prop} {Cb : Int → Int → Bool} {gv : Int → Int → V} {g : Int → Int → D} (hc : ∀ i j, Cb i j = true → C i j) (hg : ∀ th G i j, At K th G (g i j) (gv i j)) : SemR K B W (rI C gv) (fP (gI Cb g)) :=
  semR_P fun th G H Q x y vx vy d rx ry e q => by
    cases x <;> cases y <;> first
      | (simp only [gI] at e
         split at e
         · rename_i i j hij
           cases e; cases rx; cases ry
           exact ⟨_, _, rfl, rfl, hc _ _ hij, q _ (hg _ _ _ _)⟩
         · cases e)
      | (simp [gI] at e)
theorem semR_I0 {K : PySem.W.Frag} {gv : Int → Int → V} {g : Int → Int → D} (hg : ∀ th G i j, At K th G (g i j) (gv i j)) : SemR K B W (rI0 gv) (fP (gI (fun _ _ => true) g)) :=
  semR_P fun th G H Q x y vx vy d rx ry e q => by
    cases x <;> cases y <;> first
      | (simp [gI] at e; subst e; cases rx; cases ry; exact ⟨_, _, rfl, rfl, q _ (hg _ _ _ _)⟩)
      | (simp [gI] at e)
end
end VL
set_option maxHeartbeats 4000000
/-! tuples that are made here are known to have no dict -/
namespace L2
open PySem PySem.Spec PyProof.Rows HT
/-- a new tuple, of which nothing but its items is known but that it has no dict -/
def NewT (H : Hp) (xs : List V) (Q : VK) : Prop := ∀ p o, H p = none → o.dict = none → Q (.ref p) (upd H p (.frz o (.tup xs)))
section
variable {X : Cx} {e : Expr} {es : List Expr} {te : TE} {t : TA} {pos : Pos}
theorem new_tup {pins : List (Addr × Obj)} {σ : List (Option V)} {H : Hp} {s : Shared} {xs : List V} {us : List Value} {Q : VK} (I : Inv X pins σ H s) (r : Vals xs us) (hz : xs.length ≤ sizeLine) (q : NewT H xs Q) (tk : Nat) :
    EP X pins σ Q (.ref s.heap.objs.size) { s with heap := s.heap.push { cls := .type "tuple", data := .seq us.toArray }, toks := tk } :=
  ⟨.ref s.heap.objs.size, _, I.laid (t' := tk) (o := .frz { cls := .type "tuple", data := .seq us.toArray } (.tup xs)) (fun b ob q => Heap.get?_push_of_some _ q) (Nat.le_refl _)
    ⟨Heap.get?_push_size _ rfl, hz, _, r, IsTup.new _ _⟩, rfl, q _ _ (I.hok.fresh (Nat.le_refl _)) rfl⟩
def tTupF (t : TA) : TE := fun σ H Q => t σ H fun xs H1 => xs.length ≤ sizeLine ∧ NewT H1 xs Q
theorem pe_tupF {x1} (h : PA X es t) : PE X (.Tuple es x1 pos) (tTupF t) := by
  refine ⟨fun pins s σ H Q I hq => ?_⟩
  refine wpAny_Tuple_spliced (thn (h.run pos pins s σ H _ I hq) fun us s1 ⟨xs, H1, I1, r, z, q⟩ => ⟨by rw [← r.length]; exact z, ?_⟩)
  exact new_tup I1 r z q s1.toks
/-- t + u -/
def rCatF (K : PySem.W.Frag) : R2 := fun x y H Q => ∃ a b xs ys, x = .ref a ∧ y = .ref b ∧ SqT K H a xs ∧ SqT K H b ys ∧ xs.length + ys.length ≤ sizeLine ∧
  (xs = [] → Q (.ref b) H) ∧ (xs ≠ [] → ys = [] → Q (.ref a) H) ∧ (xs ≠ [] → ys ≠ [] → NewT H (xs ++ ys) Q)
theorem op_catF : OpR X (binaryOp .Add) (rCatF X.K) := by
  intro pins s σ H x y v u Q I rx ry h
  obtain ⟨a, b, xs, ys, rfl, rfl, ha, hb, hz, q0, q1, q2⟩ := h
  cases rx
  cases ry
  obtain ⟨its, r1, p1, _⟩ := I.tuple ha
  obtain ⟨its2, r2, p2, _⟩ := I.tuple hb
  by_cases hx : xs = []
  · subst hx
    cases r1
    exact cat_tup0 p1 p2 ⟨.ref b, H, I, rfl, q0 rfl⟩
  · refine HT.cat_tup p1 p2 (fun z => hx (r1.nil_iff.mp z)) (fun z => ⟨.ref a, H, I, rfl, q1 hx (r2.nil_iff.mp z)⟩) (fun z => ?_) (by rw [← r1.length, ← r2.length]; exact hz)
    exact new_tup I (r1.append r2) (by rw [List.length_append]; exact hz) (q2 hx fun w => z (r2.nil_iff.mpr w)) s.toks
/-- t[lo:hi]: the whole of it is t itself -/
def rSlF (K : PySem.W.Frag) : V → Option Int → Option Int → Hp → VK → Prop := fun x lo hi H Q => ∃ a xs, x = .ref a ∧ SqT K H a xs ∧
  (HT.sIx xs.length 0 lo = 0 ∧ HT.sIx xs.length xs.length hi = xs.length → Q (.ref a) H) ∧ (¬ (HT.sIx xs.length 0 lo = 0 ∧ HT.sIx xs.length xs.length hi = xs.length) → NewT H (cutV xs lo hi) Q)
theorem sl_tupF : SlR X (rSlF X.K) := by
  intro pins s σ H x v vl vu lo hi sl Q I rx hs pl pu h
  obtain ⟨a, xs, rfl, hx, q1, q2⟩ := h
  cases rx
  obtain ⟨its, r, ht, hz⟩ := I.tuple hx
  have hlen : its.toArray.size = xs.length := by rw [List.size_toArray]; exact r.length.symm
  refine ⟨"tuple", _, PyProof.Rows.slot_tuple_getitem.lookup, ht.typeIs, ?_⟩
  by_cases hw : HT.sIx xs.length 0 lo = 0 ∧ HT.sIx xs.length xs.length hi = xs.length
  · exact getItem_tuple_whole ht hs pl pu (by rw [hlen]; exact hw) ⟨.ref a, H, I, rfl, q1 hw⟩
  · refine HT.getItem_tuple_cut ht hs pl pu (by rw [hlen]; exact hw) ?_ (by rw [hlen]; exact hz)
    rw [hlen]
    exact new_tup I ((r.drop (HT.sIx xs.length 0 lo)).take (HT.sIx xs.length xs.length hi - HT.sIx xs.length 0 lo)) (Nat.le_trans (cutV_length xs lo hi) hz) (q2 hw) s.toks
/-- tuple(x) -/
theorem call_tupleF : CallR X (.type "tuple") (fun xs H Q => ∃ p ys, xs = [.ref p] ∧ ((SqL X.K H p ys ∧ NewT H ys Q) ∨ (SqT X.K H p ys ∧ Q (.ref p) H))) := by
  intro pins s σ H xs us Q I r h
  obtain ⟨p, ys, rfl, h⟩ := h
  obtain ⟨u, rfl, rx⟩ := vals1 r
  cases rx
  rcases h with ⟨hq, q⟩ | ⟨hq, q⟩
  · obtain ⟨its, r', pl, hz⟩ := I.list hq
    have hlen := r'.length
    refine call_tuple_list pl.isList (fun h' kp => ?_) (by simp only [List.size_toArray] <;> omega)
    have I1 : Inv X pins σ H { s with heap := h' } := I.kept (t' := s.toks) kp
    exact new_tup I1 r' hz q s.toks
  · obtain ⟨its, r', pl, hz⟩ := I.tuple hq
    exact call_tuple_same pl ⟨.ref p, H, I, rfl, q⟩
end
end L2
namespace VL
open PySem L2

/-! ### reading sequences -/
/-- a list: data, or an own place -/
def lstOf (s : S) : D → Option (List D)
  | .lst l => some l
  | .loc n => match s.m[n]? with
    | some (.lst l) => some l
    | _ => none
  | _ => none
def seqOf (s : S) : D → Option (List D)
  | .tup l => some l
  | .scr l => some (l.map D.int)
  | d => lstOf s d
section
variable {K : PySem.W.Frag} {B : Bs} {th : List Addr} {G : Hp} {s : S} {σ : St} {H : Hp}
theorem atL_ints (ns : List Int) : AtL K th G (ns.map D.int) (ns.map V.int) := by
  induction ns with
  | nil => exact rfl
  | cons n ns ih => exact .cons (d := .int n) (v := .int n) rfl ih
theorem Rep.lst_of (R : Rep K B th G s σ H) {d : D} {v : V} {l : List D} (h : At K th G d v) (e : lstOf s d = some l) : ∃ a vs, v = .ref a ∧ H a = some (.lst vs) ∧ AtL K th G l vs := by
  cases d with
  | lst m =>
    simp only [lstOf] at e; cases e
    obtain ⟨a, vs, e1, q, r⟩ := h
    exact ⟨a, vs, e1, R.eG.lst q, r⟩
  | loc n =>
    simp only [lstOf] at e
    obtain ⟨a, ha, e1⟩ := h
    cases hm : s.m[n]? with
    | none => rw [hm] at e; cases e
    | some ob =>
      rw [hm] at e
      cases ob with
      | lst m =>
        cases e
        obtain ⟨g, vs, q, r⟩ := R.st n _ a hm ha
        exact ⟨a, vs, e1, q, r⟩
      | _ => cases e
  | _ => simp [lstOf] at e
theorem Rep.seq_of (R : Rep K B th G s σ H) {d : D} {v : V} {l : List D} (h : At K th G d v) (e : seqOf s d = some l) : ∃ a vs, v = .ref a ∧ (SqL K H a vs ∨ SqT K H a vs) ∧ AtL K th G l vs := by
  cases d with
  | tup m =>
    simp only [seqOf] at e; cases e
    obtain ⟨a, vs, e1, q, r⟩ := h
    exact ⟨a, vs, e1, .inr (R.eG.sqT q.sq), r⟩
  | scr m =>
    simp only [seqOf] at e; cases e
    obtain ⟨a, e1, q⟩ := h
    exact ⟨a, _, e1, .inl (R.eG.sqL q), atL_ints m⟩
  | lst m =>
    obtain ⟨a, vs, e1, q, r⟩ := R.lst_of h e
    exact ⟨a, vs, e1, .inl (SqL.of q), r⟩
  | loc n =>
    obtain ⟨a, vs, e1, q, r⟩ := R.lst_of h e
    exact ⟨a, vs, e1, .inl (SqL.of q), r⟩
  | _ => simp [seqOf, lstOf] at e
theorem ixN_eq {α β : Type} {l : List α} {m : List β} (h : m.length = l.length) (i : Int) : ixN m.length i = ixN l.length i := by rw [h]
theorem AtL.atI {l : List D} {vs : List V} {i : Int} {d : D} (h : AtL K th G l vs) (e : L2.atI l i = some d) : ∃ v, L2.atI vs i = some v ∧ At K th G d v := by
  unfold L2.atI at e ⊢
  rw [h.length]
  cases hn : ixN l.length i with
  | none => rw [hn] at e; cases e
  | some j =>
    rw [hn] at e
    exact h.get (by simpa using e)
end

/-! ### sizes -/
def SZ : Nat := 16777216
theorem SZ_eq : sizeLine = SZ := sizeLine_eq

section
variable {X : Cx} {B : Bs} {W : WX} {e a b c : Expr} {te ta tb tc : TE} {m ma mb mc : ME} {pos : Pos} {th : List Addr} {G H : Hp} {s : S} {σ : St}
/-- the value's place, as data, in a heap that learns of it -/
theorem post_tup {K : PySem.W.Frag} {l : List D} {vs : List V} {Q : VK} (R : Rep K B th G s σ H) (P : Post K B W σ th G H (relE K) (.ok (.tup l, s)) Q) (r : AtL K th G l vs) : NewT H vs Q := fun p o hp ho =>
  P th (upd G p (.frz o (.tup vs))) (upd H p (.frz o (.tup vs))) (.ref p) (Le.new hp R.eG) (R.frz hp _) ⟨p, vs, rfl, .new ho, r.mono List.prefix_rfl (Sub.new (R.gnone hp))⟩
/-- .. a tuple that is no row of pairs -/
theorem post_tupO {K : PySem.W.Frag} {l : List D} {vs : List V} {Q : VK} {p : Addr} (n : prs l = false) (R : Rep K B th G s σ H) (P : Post K B W σ th G H (relE K) (.ok (.tup l, s)) Q) (r : AtL K th G l vs) (hp : H p = none) : Q (.ref p) (upd H p (.tup vs)) :=
  P th (upd G p (.tup vs)) (upd H p (.tup vs)) (.ref p) (Le.new hp R.eG) (R.frz hp _) ⟨p, vs, rfl, .odd (SqT.of upd_same) n, r.mono List.prefix_rfl (Sub.new (R.gnone hp))⟩
theorem post_lst {K : PySem.W.Frag} {l : List D} {vs : List V} {Q : VK} {p : Addr} (R : Rep K B th G s σ H) (P : Post K B W σ th G H (relE K) (.ok (.lst l, s)) Q) (r : AtL K th G l vs) (hp : H p = none) : Q (.ref p) (upd H p (.lst vs)) :=
  P th (upd G p (.lst vs)) (upd H p (.lst vs)) (.ref p) (Le.new hp R.eG) (R.frz hp _) ⟨p, vs, rfl, upd_same, r.mono List.prefix_rfl (Sub.new (R.gnone hp))⟩
/-- a list of nobody's -/
theorem post_f {K : PySem.W.Frag} {l : List D} {vs : List V} {Q : VK} {p : Addr} (R : Rep K B th G s σ H) (P : Post K B W σ th G H (relF K) (.ok (.lst l, s)) Q) (r : AtL K th G l vs) (hp : H p = none) : Q (.ref p) (upd H p (.lst vs)) :=
  P th G (upd H p (.lst vs)) (.ref p) ⟨List.prefix_rfl, Sub.refl G, fun a u ha g n => by
      have hne := ne_none (some_ne ha) hp
      exact ⟨by rw [upd_ne hne, ha]; exact keepF_self u, g, n⟩⟩ (R.side _ (R.gnone hp) (R.thne hp) (R.tbnew hp)) ⟨p, rfl, (fun z => nomatch z), ⟨R.gnone hp, vs, upd_same, r⟩, R.thne hp, hp⟩

/-! ### + -/
def fAdd : D → D → S → R (D × S)
  | .int i, .int j, s => .ok (.int (i + j), s)
  | .str x, .str y, s => if x.length + y.length ≤ SZ then .ok (.str (x ++ y), s) else .no
  | .tup x, .tup y, s => if x.length + y.length ≤ SZ then .ok (.tup (x ++ y), s) else .no
  | x, y, s => match lstOf s x, lstOf s y with
    | some l, some m => if l.length + m.length ≤ SZ then .ok (.lst (l ++ m), s) else .no
    | _, _ => .no
def rAddA (K : PySem.W.Frag) : R2 := fun x y H Q => rI0 (fun i j => .int (i + j)) x y H Q ∨ ((∃ i j, x = .str i ∧ y = .str j ∧ i.length + j.length ≤ sizeLine ∧ Q (.str (i ++ j)) H) ∨ (rCatF K x y H Q ∨ rCat x y H Q))
theorem op_addA : OpR X (binaryOp .Add) (rAddA X.K) := op_add.or (op_add_str.or (op_catF.or op_cat))
theorem str_app (x y : List Nat) : ((⟨x.toArray⟩ : Str) ++ (⟨y.toArray⟩ : Str)) = ⟨(x ++ y).toArray⟩ := by
  apply TL.ext_tl
  rw [TL.tl_append]
theorem str_len (x : List Nat) : (⟨x.toArray⟩ : Str).length = x.length := by simp [Str.length]
theorem sem_add_lst {K : PySem.W.Frag} {x y : D} {vx vy : V} {Q : VK} (R : Rep K B th G s σ H) (rx : At K th G x vx) (ry : At K th G y vy)
    (P : Post K B W σ th G H (relE K) (match lstOf s x, lstOf s y with
      | some l, some m => if l.length + m.length ≤ SZ then .ok (.lst (l ++ m), s) else .no
      | _, _ => .no) Q) : rCat vx vy H Q := by
  cases e1 : lstOf s x with
  | none => rw [e1] at P; exact P.elim
  | some l =>
    cases e2 : lstOf s y with
    | none => rw [e1, e2] at P; exact P.elim
    | some m =>
      rw [e1, e2] at P
      simp only at P
      split at P
      · rename_i hz
        obtain ⟨p, vs, h1, h2, h3⟩ := R.lst_of rx e1
        obtain ⟨q, ws, k1, k2, k3⟩ := R.lst_of ry e2
        exact ⟨p, q, vs, ws, h1, k1, h2, k2, by rw [h3.length, k3.length, SZ_eq]; exact hz, fun t ht => post_lst R P (h3.append k3) ht⟩
      · exact P.elim
theorem semR_add {K : PySem.W.Frag} : SemR K B W (rAddA K) fAdd := fun s th G σ H Q x y vx vy R rx ry P => by
  by_cases hii : (∃ i j, x = .int i ∧ y = .int j)
  · obtain ⟨i, j, rfl, rfl⟩ := hii
    cases rx; cases ry
    exact .inl ⟨i, j, rfl, rfl, Post.ok (rel := relE K) P R rfl⟩
  by_cases hss : (∃ i j, x = .str i ∧ y = .str j)
  · obtain ⟨i, j, rfl, rfl⟩ := hss
    cases rx; cases ry
    simp only [fAdd] at P
    split at P
    · rename_i hz
      exact .inr (.inl ⟨_, _, rfl, rfl, by rw [str_len, str_len, SZ_eq]; exact hz, by rw [str_app]; exact Post.ok (rel := relE K) P R rfl⟩)
    · exact P.elim
  by_cases htt : (∃ i j, x = .tup i ∧ y = .tup j)
  · obtain ⟨i, j, rfl, rfl⟩ := htt
    simp only [fAdd] at P
    split at P
    · rename_i hz
      obtain ⟨p, vs, e1, q1, r1⟩ := id rx
      obtain ⟨q, ws, e2, q2, r2⟩ := id ry
      refine .inr (.inr (.inl ⟨p, q, vs, ws, e1, e2, R.eG.sqT q1.sq, R.eG.sqT q2.sq, by rw [r1.length, r2.length, SZ_eq]; exact hz, fun z => ?_, fun z1 z2 => ?_, fun z1 z2 => post_tup R P (r1.append r2)⟩))
      · subst z
        have : i = [] := List.eq_nil_of_length_eq_zero (by rw [← r1.length]; rfl)
        subst this
        exact Post.ok (rel := relE K) P R ⟨q, ws, rfl, q2, r2⟩
      · subst z2
        have : j = [] := List.eq_nil_of_length_eq_zero (by rw [← r2.length]; rfl)
        subst this
        rw [List.append_nil] at P
        exact Post.ok (rel := relE K) P R ⟨p, vs, rfl, q1, r1⟩
    · exact P.elim
  have P' : Post K B W σ th G H (relE K) (match lstOf s x, lstOf s y with
      | some l, some m => if l.length + m.length ≤ SZ then .ok (.lst (l ++ m), s) else .no
      | _, _ => .no) Q := by
    cases x <;> cases y <;> first
      | exact P
      | exact absurd ⟨_, _, rfl, rfl⟩ hii
      | exact absurd ⟨_, _, rfl, rfl⟩ hss
      | exact absurd ⟨_, _, rfl, rfl⟩ htt
  exact .inr (.inr (.inr (sem_add_lst R rx ry P')))
theorem ve_add (ha : VE X B W a ta ma) (hb : VE X B W b tb mb) : VE X B W (.BinOp a .Add b pos) (tOp (rAddA X.K) ta tb) (eOp fAdd ma mb) := ⟨pe_op op_addA ha.pe hb.pe, sem_op semR_add ha.sem hb.sem⟩

/-! ### - // % ** -/
abbrev fSub : D → D → S → R (D × S) := fP (gI (fun _ _ => true) fun i j => .int (i - j))
theorem ve_sub (ha : VE X B W a ta ma) (hb : VE X B W b tb mb) : VE X B W (.BinOp a .Sub b pos) (tOp (rI0 fun i j => .int (i - j)) ta tb) (eOp fSub ma mb) := ⟨pe_op op_sub ha.pe hb.pe, sem_op (semR_I0 fun _ _ _ _ => rfl) ha.sem hb.sem⟩
abbrev fDiv : D → D → S → R (D × S) := fP (gI (fun _ j => decide (0 < j ∧ j < 1073741824)) fun i j => .int (i / j))
theorem ve_div (ha : VE X B W a ta ma) (hb : VE X B W b tb mb) : VE X B W (.BinOp a .FloorDiv b pos) (tOp (rI CDiv fun i j => .int (i / j)) ta tb) (eOp fDiv ma mb) := ⟨pe_op op_fdiv ha.pe hb.pe, sem_op (semR_I (C := CDiv) (fun i j h => (show 0 < j ∧ j < 1073741824 from of_decide_eq_true h)) fun _ _ _ _ => rfl) ha.sem hb.sem⟩
abbrev fMod : D → D → S → R (D × S) := fP (gI (fun _ j => decide (0 < j)) fun i j => .int (i % j))
theorem ve_mod (ha : VE X B W a ta ma) (hb : VE X B W b tb mb) : VE X B W (.BinOp a .Mod b pos) (tOp (rI (fun _ j => 0 < j) fun i j => .int (i % j)) ta tb) (eOp fMod ma mb) := ⟨pe_op op_mod ha.pe hb.pe, sem_op (semR_I (fun _ _ h => of_decide_eq_true h) fun _ _ _ _ => rfl) ha.sem hb.sem⟩
def powOk (i j : Int) : Bool := decide (0 ≤ j ∧ j ≤ 1000000 ∧ i.natAbs < 18446744073709551616)
abbrev fPow : D → D → S → R (D × S) := fP (gI powOk fun i j => .int (i ^ j.toNat))
theorem ve_pow (ha : VE X B W a ta ma) (hb : VE X B W b tb mb) : VE X B W (.BinOp a .Pow b pos) (tOp (rI CPow fun i j => .int (i ^ j.toNat)) ta tb) (eOp fPow ma mb) := ⟨pe_op op_pow ha.pe hb.pe, sem_op (semR_I (fun _ _ h => by
  have q := of_decide_eq_true h
  exact ⟨q.1, q.2.1, q.2.2⟩) fun _ _ _ _ => rfl) ha.sem hb.sem⟩

/-! ### comparisons of ints and texts -/
def gLt (s : Nat → Nat → Bool) : D → D → Option D
  | .int i, .int j => some (.bl (decide (i < j)))
  | _, _ => none
def gCmp (p : Int → Int → Bool) (q : List Nat → List Nat → Bool) : D → D → Option D
  | .int i, .int j => some (.bl (p i j))
  | .str i, .str j => some (.bl (q i j))
  | _, _ => none
def rCmpS (q : List Nat → List Nat → Bool) : R2 := fun x y H Q => ∃ i j, x = .str i ∧ y = .str j ∧ Q (.bl (q i.cps.toList j.cps.toList)) H
theorem semR_cmp {K : PySem.W.Frag} {p : Int → Int → Bool} {q : List Nat → List Nat → Bool} : SemR K B W (fun x y H Q => rI0 (fun i j => .bl (p i j)) x y H Q ∨ rCmpS q x y H Q) (fP (gCmp p q)) :=
  semR_P fun th G H Q x y vx vy d rx ry e k => by
    cases x <;> cases y <;> first
      | (simp only [gCmp] at e; cases e; cases rx; cases ry; exact .inl ⟨_, _, rfl, rfl, k _ rfl⟩)
      | (simp only [gCmp] at e; cases e; cases rx; cases ry; exact .inr ⟨_, _, rfl, rfl, k _ rfl⟩)
      | (simp [gCmp] at e)
theorem op_ltA : OpR X (compareOp .Lt) (fun x y H Q => rI0 (fun i j => .bl (decide (i < j))) x y H Q ∨ rCmpS (fun i j => decide (i < j)) x y H Q) := op_lt.or op_lt_str
theorem op_leA : OpR X (compareOp .LtE) (fun x y H Q => rI0 (fun i j => .bl (decide (i ≤ j))) x y H Q ∨ rCmpS (fun i j => !decide (j < i)) x y H Q) := op_le.or op_le_str
theorem op_gtA : OpR X (compareOp .Gt) (fun x y H Q => rI0 (fun i j => .bl (decide (j < i))) x y H Q ∨ rCmpS (fun i j => decide (j < i)) x y H Q) := op_gt.or op_gt_str
theorem op_geA : OpR X (compareOp .GtE) (fun x y H Q => rI0 (fun i j => .bl (decide (j ≤ i))) x y H Q ∨ rCmpS (fun i j => !decide (i < j)) x y H Q) := op_ge.or op_ge_str
end
end VL
namespace VL
open PySem L2

/-! ### == -/
mutual
def toP : D → PyData
  | .non => .none
  | .bl b => .bool b
  | .int i => .int i
  | .str s => .str ⟨s.toArray⟩
  | .tup l => .tuple (toPs l)
  | .lst l => .list (toPs l)
  | _ => .none
def toPs : List D → List PyData
  | [] => []
  | d :: l => toP d :: toPs l
end
mutual
/-- plain data, at most n deep -/
def okD : Nat → D → Bool
  | _, .non => true
  | _, .bl _ => true
  | _, .int _ => true
  | _, .str s => s.all (· < 0x110000)
  | n, .tup l => match n with
    | 0 => false
    | n + 1 => okDs n l
  | n, .lst l => match n with
    | 0 => false
    | n + 1 => okDs n l
  | _, _ => false
def okDs : Nat → List D → Bool
  | _, [] => true
  | n, d :: l => okD n d && okDs n l
end
mutual
def eqD : D → D → Bool
  | .non, .non => true
  | .bl a, .bl b => a == b
  | .bl a, .int j => (if a then 1 else 0) == j
  | .int i, .bl b => i == (if b then 1 else 0)
  | .int i, .int j => decide (i = j)
  | .str x, .str y => decide (x = y)
  | .tup x, .tup y => eqDs x y
  | .lst x, .lst y => eqDs x y
  | _, _ => false
def eqDs : List D → List D → Bool
  | [], [] => true
  | x :: xs, y :: ys => eqD x y && eqDs xs ys
  | _, _ => false
end
mutual
theorem okD_P : ∀ (n : Nat) (d : D), okD n d = true → (toP d).canLay0 = true ∧ (toP d).depth ≤ n
  | _, .non, _ => ⟨rfl, Nat.zero_le _⟩
  | _, .bl _, _ => ⟨rfl, Nat.zero_le _⟩
  | _, .int _, _ => ⟨rfl, Nat.zero_le _⟩
  | _, .str s, h => ⟨by
      simp only [okD] at h
      simp only [toP, PyData.canLay0, PyData.strOk]
      rw [List.all_toArray]; exact h, Nat.zero_le _⟩
  | 0, .tup l, h => by simp [okD] at h
  | n + 1, .tup l, h => by
    simp only [okD] at h
    obtain ⟨h1, h2⟩ := okDs_P n l h
    simp only [toP, PyData.canLay0, PyData.depth]
    exact ⟨h1, by omega⟩
  | 0, .lst l, h => by simp [okD] at h
  | n + 1, .lst l, h => by
    simp only [okD] at h
    obtain ⟨h1, h2⟩ := okDs_P n l h
    simp only [toP, PyData.canLay0, PyData.depth]
    exact ⟨h1, by omega⟩
  | _, .dct _ _, h => by simp [okD] at h
  | _, .scr _, h => by simp [okD] at h
  | _, .loc _, h => by simp [okD] at h
  | _, .obj _, h => by simp [okD] at h
theorem okDs_P : ∀ (n : Nat) (l : List D), okDs n l = true → PyData.canLayAll0 (toPs l) = true ∧ PyData.depthAll (toPs l) ≤ n
  | _, [], _ => ⟨rfl, Nat.zero_le _⟩
  | n, d :: l, h => by
    simp only [okDs, Bool.and_eq_true] at h
    obtain ⟨h1, h2⟩ := okD_P n d h.1
    obtain ⟨h3, h4⟩ := okDs_P n l h.2
    simp only [toPs, PyData.canLayAll0, PyData.depthAll, h1, h3, Bool.and_self]
    exact ⟨trivial, by omega⟩
end
theorem shaped_of {d : D} (h : okD 64 d = true) : SeqAt.shaped (toP d) = true := by
  obtain ⟨h1, h2⟩ := okD_P 64 d h
  unfold SeqAt.shaped
  rw [h1, decide_eq_true h2]; rfl
theorem str_beq (x y : List Nat) : ((⟨x.toArray⟩ : Str) == ⟨y.toArray⟩) = decide (x = y) := by
  rw [Bool.eq_iff_iff]
  simp
mutual
theorem eqv_D : ∀ (x y : D) (n m : Nat), okD n x = true → okD m y = true → PyData.eqv (toP x) (toP y) = eqD x y
  | x, y, n, m, hx, hy => by
    cases x <;> cases y <;> first
      | (simp [okD] at hx; done)
      | (simp [okD] at hy; done)
      | (simp only [toP, PyData.eqv, eqD]; done)
      | rfl
      | (simp only [toP, PyData.eqv, eqD]; exact str_beq _ _)
      | (simp only [toP, PyData.eqv, eqD]; exact Int.beq_eq_decide _ _)
      | (simp only [toP, PyData.eqv, eqD]; rw [Bool.eq_iff_iff]; simp; done)
      | (cases n with
         | zero => simp [okD] at hx
         | succ n =>
           cases m with
           | zero => simp [okD] at hy
           | succ m =>
             simp only [okD] at hx hy
             simp only [toP, PyData.eqv, eqD]
             exact eqv_Ds _ _ n m hx hy)
theorem eqv_Ds : ∀ (x y : List D) (n m : Nat), okDs n x = true → okDs m y = true → PyData.eqvAll (toPs x) (toPs y) = eqDs x y
  | [], [], _, _, _, _ => rfl
  | [], _ :: _, _, _, _, _ => rfl
  | _ :: _, [], _, _, _, _ => rfl
  | x :: xs, y :: ys, n, m, hx, hy => by
    simp only [okDs, Bool.and_eq_true] at hx hy
    simp only [toPs, PyData.eqvAll, eqDs]
    rw [eqv_D x y n m hx.1 hy.1, eqv_Ds xs ys n m hx.2 hy.2]
end
section
variable {K : PySem.W.Frag} {th : List Addr} {G H : Hp}
mutual
theorem dp_of (e : Ex G H) : ∀ (n : Nat) (d : D) (v : V), okD n d = true → At K th G d v → Dp K H v (toP d)
  | _, .non, _, _, h => by cases h; exact .non
  | _, .bl _, _, _, h => by cases h; exact .bl _
  | _, .int _, _, _, h => by cases h; exact .int _
  | _, .str _, _, _, h => by cases h; exact .str _
  | 0, .tup l, _, hk, _ => by simp [okD] at hk
  | n + 1, .tup l, _, hk, h => by
    obtain ⟨a, vs, rfl, q, r⟩ := h
    simp only [okD] at hk
    exact .tup (e.sqT q.sq) (dps_of e n l vs hk r)
  | 0, .lst l, _, hk, _ => by simp [okD] at hk
  | n + 1, .lst l, _, hk, h => by
    obtain ⟨a, vs, rfl, q, r⟩ := h
    simp only [okD] at hk
    exact .lst (SqL.of (e.lst q)) (dps_of e n l vs hk r)
  | _, .dct _ _, _, hk, _ => by simp [okD] at hk
  | _, .scr _, _, hk, _ => by simp [okD] at hk
  | _, .loc _, _, hk, _ => by simp [okD] at hk
  | _, .obj _, _, hk, _ => by simp [okD] at hk
theorem dps_of (e : Ex G H) : ∀ (n : Nat) (l : List D) (vs : List V), okDs n l = true → AtL K th G l vs → DpAll K H vs (toPs l)
  | _, [], _, _, h => by cases h; exact .nil
  | n, d :: l, _, hk, h => by
    obtain ⟨v, r, rfl, q, z⟩ := h
    simp only [okDs, Bool.and_eq_true] at hk
    exact .cons (dp_of e n d v hk.1 q) (dps_of e n l r hk.2 z)
end
end
/-- == of texts, numbers, truth values, None at once; of anything else by its data -/
def qEq : D → D → Option Bool
  | .str x, .str y => some (decide (x = y))
  | x, y => if okD 64 x && okD 64 y then some (eqD x y) else none
/-- an own list is compared by what it holds now -/
def peek (s : S) : D → D
  | .loc n => match s.m[n]? with
    | some (.lst l) => .lst l
    | _ => .loc n
  | d => d
def fEq : D → D → S → R (D × S) := fun x y s => match qEq (peek s x) (peek s y) with
  | some b => .ok (.bl b, s)
  | none => .no
def fNe : D → D → S → R (D × S) := fun x y s => match qEq (peek s x) (peek s y) with
  | some b => .ok (.bl (!b), s)
  | none => .no

section
variable {X : Cx} {B : Bs} {W : WX} {e a b c : Expr} {te ta tb tc : TE} {m ma mb mc : ME} {pos : Pos} {th : List Addr} {G H : Hp} {s : S} {σ : St}
theorem dp_peek {K : PySem.W.Frag} (R : Rep K B th G s σ H) {d : D} {v : V} (hk : okD 64 (peek s d) = true) (h : At K th G d v) : Dp K H v (toP (peek s d)) := by
  cases d with
  | loc n =>
    simp only [peek] at hk ⊢
    cases hm : s.m[n]? with
    | none => rw [hm] at hk; simp [okD] at hk
    | some ob =>
      rw [hm] at hk
      cases ob with
      | lst l =>
        obtain ⟨a, vs, e1, q, r⟩ := R.lst_of (d := .loc n) (l := l) h (by simp [lstOf, hm])
        subst e1
        simp only at hk ⊢
        have hk' : okDs 63 l = true := by simpa [okD] using hk
        exact .lst (SqL.of q) (dps_of R.eG 63 l vs hk' r)
      | _ => simp [okD] at hk
  | _ => exact dp_of R.eG 64 _ v hk h
def rEqA (K : PySem.W.Frag) : R2 := fun x y H Q => rEq x y H Q ∨ rEqD K x y H Q
def rNeA (K : PySem.W.Frag) : R2 := fun x y H Q => rNe x y H Q ∨ rNeD K x y H Q
theorem peek_str {s : S} {d : D} {x : List Nat} (h : peek s d = .str x) : d = .str x := by
  cases d with
  | loc n =>
    simp only [peek] at h
    split at h <;> cases h
  | _ => exact h
theorem qEq_cases {x y : D} {b : Bool} (h : qEq x y = some b) : (∃ u v, x = .str u ∧ y = .str v ∧ b = decide (u = v)) ∨ (okD 64 x = true ∧ okD 64 y = true ∧ b = eqD x y) := by
  by_cases hs : ∃ u v, x = .str u ∧ y = .str v
  · obtain ⟨u, v, rfl, rfl⟩ := hs
    simp only [qEq, Option.some.injEq] at h
    exact .inl ⟨u, v, rfl, rfl, h.symm⟩
  · have h' : (if okD 64 x && okD 64 y then some (eqD x y) else none) = some b := by
      cases x <;> cases y <;> first
        | exact h
        | exact absurd ⟨_, _, rfl, rfl⟩ hs
    split at h'
    · rename_i hh
      simp only [Bool.and_eq_true] at hh
      exact .inr ⟨hh.1, hh.2, (Option.some.inj h').symm⟩
    · cases h'
theorem dec_sv (u v : List Nat) : decide (sv u = sv v) = decide (u = v) := by
  rw [Bool.eq_iff_iff]; simp [sv]
theorem semR_eq {K : PySem.W.Frag} : SemR K B W (rEqA K) fEq := fun s th G σ H Q x y vx vy R rx ry P => by
  unfold fEq at P
  cases e : qEq (peek s x) (peek s y) with
  | none => rw [e] at P; exact P.elim
  | some b =>
    rw [e] at P
    have q : Q (.bl b) H := Post.ok (rel := relE K) P R rfl
    rcases qEq_cases e with ⟨u, v, e1, e2, rfl⟩ | ⟨h1, h2, rfl⟩
    · have e1 := peek_str e1
      have e2 := peek_str e2
      subst e1; subst e2
      cases rx; cases ry
      refine .inl ⟨rfl, ?_⟩
      show Q (.bl (decide (sv u = sv v))) H
      rw [dec_sv]; exact q
    · exact .inr ⟨_, _, dp_peek R h1 rx, dp_peek R h2 ry, shaped_of h1, shaped_of h2, by rw [eqv_D _ _ 64 64 h1 h2]; exact q⟩
theorem semR_ne {K : PySem.W.Frag} : SemR K B W (rNeA K) fNe := fun s th G σ H Q x y vx vy R rx ry P => by
  unfold fNe at P
  cases e : qEq (peek s x) (peek s y) with
  | none => rw [e] at P; exact P.elim
  | some b =>
    rw [e] at P
    have q : Q (.bl (!b)) H := Post.ok (rel := relE K) P R rfl
    rcases qEq_cases e with ⟨u, v, e1, e2, rfl⟩ | ⟨h1, h2, rfl⟩
    · have e1 := peek_str e1
      have e2 := peek_str e2
      subst e1; subst e2
      cases rx; cases ry
      refine .inl ⟨rfl, ?_⟩
      show Q (.bl (!decide (sv u = sv v))) H
      rw [dec_sv]; exact q
    · exact .inr ⟨_, _, dp_peek R h1 rx, dp_peek R h2 ry, shaped_of h1, shaped_of h2, by rw [eqv_D _ _ 64 64 h1 h2]; exact q⟩
theorem op_eqA (hu : X.A.units + 64 < cLine) : OpR X (compareOp .Eq) (rEqA X.K) := op_eq.or (op_eqD hu)
theorem op_neA (hu : X.A.units + 64 < cLine) : OpR X (compareOp .NotEq) (rNeA X.K) := op_ne.or (op_neD hu)

/-! ### is None -/
def isNon : D → Bool
  | .non => true
  | _ => false
theorem At.isNon {K : PySem.W.Frag} {d : D} {v : V} (h : At K th G d v) : decide (v = .non) = VL.isNon d := by
  cases d <;> first
    | (cases h; rfl)
    | (obtain ⟨rfl, _, _, _⟩ := h; rfl)
    | (obtain ⟨a, vs, rfl, _⟩ := h; rfl)
    | (obtain ⟨a, rfl, _⟩ := h; rfl)
    | (obtain ⟨a, _, rfl⟩ := h; rfl)
def fIs : D → D → S → R (D × S) := fP fun x y => if isNon y then some (.bl (isNon x)) else none
def fIsn : D → D → S → R (D × S) := fP fun x y => if isNon y then some (.bl (!isNon x)) else none
theorem isNon_eq {d : D} (h : isNon d = true) : d = .non := by cases d <;> first | rfl | cases h
theorem semR_is {K : PySem.W.Frag} : SemR K B W (fun x y H Q => y = .non ∧ Q (.bl (decide (x = .non))) H) fIs := semR_P fun th G H Q x y vx vy d rx ry e q => by
  split at e
  · rename_i h
    cases e
    have h := isNon_eq h
    subst h
    cases ry
    exact ⟨rfl, by rw [rx.isNon]; exact q _ rfl⟩
  · cases e
theorem semR_isn {K : PySem.W.Frag} : SemR K B W (fun x y H Q => y = .non ∧ Q (.bl (!decide (x = .non))) H) fIsn := semR_P fun th G H Q x y vx vy d rx ry e q => by
  split at e
  · rename_i h
    cases e
    have h := isNon_eq h
    subst h
    cases ry
    exact ⟨rfl, by rw [rx.isNon]; exact q _ rfl⟩
  · cases e

/-! ### comparisons as values and as tests -/
theorem ve_cmp {op : CmpOp} {r : R2} {f : D → D → S → R (D × S)} (ho : OpR X (compareOp op) r) (hf : SemR X.K B W r f) (ha : VE X B W a ta ma) (hb : VE X B W b tb mb) (hm : behindInMarks op b = false) : VE X B W (.Compare a [op] [b] pos) (tOp r ta tb) (eOp f ma mb) :=
  ⟨pe_cmpR ho ha.pe hb.pe hm, sem_op hf ha.sem hb.sem⟩
/-- a truth value, asked -/
def tBl (m : ME) : MT := fun s => (m s).bind fun d s => match d with
  | .bl b => .ok (b, s)
  | _ => .no
theorem sem_tst {K : PySem.W.Frag} {t : TE} {m : ME} (h : Sem K B W (relE K) t m) : Sem K B W relT (tTest t) (tBl m) := fun s th G σ H Q R P =>
  h s th G σ H _ R (P.bind fun d s1 th1 G1 H1 v l R1 r P1 => by
    cases d with
    | bl b => cases r; exact ⟨b, rfl, Post.ok (rel := relT) P1 R1 rfl⟩
    | _ => exact P1.elim)
theorem vt_cmp {op : CmpOp} {r : R2} {f : D → D → S → R (D × S)} (ho : OpR X (compareOp op) r) (hf : SemR X.K B W r f) (ha : VE X B W a ta ma) (hb : VE X B W b tb mb) (hm : behindInMarks op b = false) : VT X B W (.Compare a [op] [b] pos) (tTest (tOp r ta tb)) (tBl (eOp f ma mb)) :=
  ⟨pt_cmpR ho ha.pe hb.pe hm, sem_tst (sem_op hf ha.sem hb.sem)⟩
/-- a op b op' c -/
def eChain (f f' : D → D → S → R (D × S)) (a b c : ME) : ME := fun s => (a s).bind fun x s => (b s).bind fun y s => (f x y s).bind fun z s => match z with
  | .bl true => (c s).bind fun w s => f' y w s
  | .bl false => .ok (.bl false, s)
  | _ => .no
theorem sem_chain {K : PySem.W.Frag} {r r' : R2} {f f' : D → D → S → R (D × S)} (hf : SemR K B W r f) (hf' : SemR K B W r' f') (ha : Sem K B W (relE K) ta ma) (hb : Sem K B W (relE K) tb mb) (hc : Sem K B W (relE K) tc mc) :
    Sem K B W (relE K) (tChain r r' ta tb tc) (eChain f f' ma mb mc) := fun s th G σ H Q R P =>
  ha s th G σ H _ R (P.bind fun x s1 th1 G1 H1 vx l1 R1 r1 P1 => hb s1 th1 G1 σ H1 _ R1 (P1.bind fun y s2 th2 G2 H2 vy l2 R2 r2 P2 =>
    hf s2 th2 G2 σ H2 _ x y vx vy R2 (At.mono l2.pre l2.ex r1) r2 (P2.bind fun z s3 th3 G3 H3 vz l3 R3 r3 P3 => by
      cases z with
      | bl k =>
        cases r3
        refine ⟨k, rfl, ?_⟩
        cases k with
        | true => exact iteT (hc s3 th3 G3 σ H3 _ R3 (P3.bind fun w s4 th4 G4 H4 vw l4 R4 r4 P4 => hf' s4 th4 G4 σ H4 Q y w vy vw R4 (At.mono (l3.trans l4).pre (l3.trans l4).ex r2) r4 P4))
        | false => exact iteF (Post.ok (rel := relE K) P3 R3 rfl)
      | _ => exact P3.elim)))
theorem ve_chain {op op' : CmpOp} {r r' : R2} {f f' : D → D → S → R (D × S)} (ho : OpR X (compareOp op) r) (ho' : OpR X (compareOp op') r') (hf : SemR X.K B W r f) (hf' : SemR X.K B W r' f') (ha : VE X B W a ta ma) (hb : VE X B W b tb mb) (hc : VE X B W c tc mc)
    (hm : lastMarks [op, op'] [b, c] = false := by with_unfolding_all rfl) : VE X B W (.Compare a [op, op'] [b, c] pos) (tChain r r' ta tb tc) (eChain f f' ma mb mc) := ⟨pe_chain ho ho' ha.pe hb.pe hc.pe hm, sem_chain hf hf' ha.sem hb.sem hc.sem⟩
theorem vt_chain {op op' : CmpOp} {r r' : R2} {f f' : D → D → S → R (D × S)} (ho : OpR X (compareOp op) r) (ho' : OpR X (compareOp op') r') (hf : SemR X.K B W r f) (hf' : SemR X.K B W r' f') (ha : VE X B W a ta ma) (hb : VE X B W b tb mb) (hc : VE X B W c tc mc)
    (hm : lastMarks [op, op'] [b, c] = false := by with_unfolding_all rfl) : VT X B W (.Compare a [op, op'] [b, c] pos) (tTest (tChain r r' ta tb tc)) (tBl (eChain f f' ma mb mc)) := ⟨pt_chain ho ho' ha.pe hb.pe hc.pe hm, sem_tst (sem_chain hf hf' ha.sem hb.sem hc.sem)⟩

/-! ### tests by truth, and, or, not, if-else -/
def truD (s : S) : D → Option Bool
  | .non => some false
  | .bl b => some b
  | .int i => some (i != 0)
  | .str x => if x.length ≤ SZ then some (!x.isEmpty) else none
  | .dct ks _ => some (!ks.isEmpty)
  | d => match seqOf s d with
    | some l => some (!l.isEmpty)
    | none => none
def tTru (m : ME) : MT := fun s => (m s).bind fun d s => match truD s d with
  | some b => .ok (b, s)
  | none => .no
theorem isE {K : PySem.W.Frag} {l : List D} {vs : List V} (h : AtL K th G l vs) : (!vs.isEmpty) = !l.isEmpty := by
  have := h.length
  cases l <;> cases vs <;> simp_all
theorem tru_seq {K : PySem.W.Frag} (R : Rep K B th G s σ H) {d : D} {v : V} (h : At K th G d v) {l : List D} (e : seqOf s d = some l) : TruV K v H (!l.isEmpty) := by
  obtain ⟨a, vs, rfl, q, r⟩ := R.seq_of h e
  rcases q with q | q
  · exact .inl ⟨vs, q, (isE r).symm⟩
  · exact .inr (.inl ⟨vs, q, (isE r).symm⟩)
theorem tru_of {K : PySem.W.Frag} (R : Rep K B th G s σ H) {d : D} {v : V} {b : Bool} (h : At K th G d v) (e : truD s d = some b) (hd : ∀ ks l, d ≠ .dct ks l) : TruV K v H b := by
  cases d with
  | non => cases h; simp [truD] at e; subst e; rfl
  | bl c => cases h; simp [truD] at e; subst e; rfl
  | int i => cases h; simp only [truD, Option.some.injEq] at e; subst e; rfl
  | str x =>
    cases h
    simp only [truD] at e
    split at e
    · rename_i hz
      cases e
      refine ⟨by rw [str_len, SZ_eq]; exact hz, ?_⟩
      rw [str_len]
      cases x with
      | nil => rfl
      | cons a l =>
        simp; omega
    · cases e
  | dct ks l => exact absurd rfl (hd ks l)
  | tup l => simp only [truD, seqOf, Option.some.injEq] at e; subst e; exact tru_seq R h rfl
  | scr l => simp only [truD, seqOf, Option.some.injEq] at e; subst e; exact tru_seq R h rfl
  | lst l => simp only [truD, seqOf, lstOf, Option.some.injEq] at e; subst e; exact tru_seq R h rfl
  | loc n =>
    simp only [truD] at e
    cases hl : seqOf s (.loc n) with
    | none => rw [hl] at e; cases e
    | some l => rw [hl] at e; cases e; exact tru_seq R h hl
  | obj a => simp [truD, seqOf, lstOf] at e
  | exn a d ks l => simp [truD, seqOf, lstOf] at e
/-- a test by truth; a dict is not asked so -/
def tTruN (m : ME) : MT := fun s => (m s).bind fun d s => match d with
  | .dct _ _ => .no
  | d => match truD s d with
    | some b => .ok (b, s)
    | none => .no
theorem vt_tru (ha : VE X B W a ta ma) (he : ∀ whole, isTrue a X.env whole = (do let v ← whole; standAt a.pos; holding [v] (truthy v)) := by intro _; rfl) : VT X B W a (fun σ H Q => ta σ H fun x H' => ∃ k, TruV X.K x H' k ∧ Q k H') (tTruN ma) :=
  ⟨pt_truth ha.pe he, fun s th G σ H Q R P => ha.sem s th G σ H _ R (P.bind fun d s1 th1 G1 H1 v l R1 r P1 => by
    by_cases hd : ∃ ks l, d = .dct ks l
    · obtain ⟨ks, l, rfl⟩ := hd; exact P1.elim
    have P2 : Post X.K B W σ th1 G1 H1 relT (match truD s1 d with
      | some b => .ok (b, s1)
      | none => .no) Q := by
      cases d <;> first
        | exact P1
        | exact absurd ⟨_, _, rfl⟩ hd
    cases e : truD s1 d with
    | none => rw [e] at P2; exact P2.elim
    | some b =>
      rw [e] at P2
      exact ⟨b, tru_of R1 r e (fun ks l z => hd ⟨ks, l, z⟩), Post.ok (rel := relT) P2 R1 rfl⟩)⟩
def tAndM (a b : MT) : MT := fun s => (a s).bind fun x s => if x = true then b s else .ok (false, s)
def tOrM (a b : MT) : MT := fun s => (a s).bind fun x s => if x = true then .ok (true, s) else b s
def tNotM (a : MT) : MT := fun s => (a s).bind fun x s => .ok (!x, s)
variable {tA tB' : TT} {mA mB : MT} {rest : List Expr}
theorem vw_and1 (ha : VT X B W a tA mA) : VW X B W (.BoolOp .And [a] pos) tA mA := ⟨pw_and1 ha.pt, ha.sem⟩
theorem vw_or1 (ha : VT X B W a tA mA) : VW X B W (.BoolOp .Or [a] pos) tA mA := ⟨pw_or1 ha.pt, ha.sem⟩
theorem vw_and (ha : VT X B W a tA mA) (hb : VW X B W (.BoolOp .And (b :: rest) pos) tB' mB) : VW X B W (.BoolOp .And (a :: b :: rest) pos) (tAnd tA tB') (tAndM mA mB) :=
  ⟨pw_and ha.pt hb.pw, fun s th G σ H Q R P => ha.sem s th G σ H _ R (P.bind fun x s1 th1 G1 H1 v l R1 r P1 => by
    cases r
    cases x with
    | true => exact iteT (hb.sem s1 th1 G1 σ H1 Q R1 P1)
    | false => exact iteF (Post.ok (rel := relT) P1 R1 rfl))⟩
theorem vw_or (ha : VT X B W a tA mA) (hb : VW X B W (.BoolOp .Or (b :: rest) pos) tB' mB) : VW X B W (.BoolOp .Or (a :: b :: rest) pos) (tOr tA tB') (tOrM mA mB) :=
  ⟨pw_or ha.pt hb.pw, fun s th G σ H Q R P => ha.sem s th G σ H _ R (P.bind fun x s1 th1 G1 H1 v l R1 r P1 => by
    cases r
    cases x with
    | true => exact iteT (Post.ok (rel := relT) P1 R1 rfl)
    | false => exact iteF (hb.sem s1 th1 G1 σ H1 Q R1 P1))⟩
theorem vt_w (h : VW X B W a tA mA) : VT X B W a tA mA := ⟨h.pw.pt, h.sem⟩
theorem vt_not (ha : VT X B W a tA mA) : VT X B W (.UnaryOp .Not a pos) (tNot tA) (tNotM mA) :=
  ⟨pt_not ha.pt, fun s th G σ H Q R P => ha.sem s th G σ H _ R (P.bind fun x s1 th1 G1 H1 v l R1 r P1 => by
    cases r
    exact Post.ok (rel := relT) P1 R1 rfl)⟩
def eIf (t : MT) (a b : ME) : ME := fun s => (t s).bind fun x s => if x = true then a s else b s
theorem ve_if (ht : VT X B W c tA mA) (ha : VE X B W a ta ma) (hb : VE X B W b tb mb) : VE X B W (.IfExp c a b pos) (tIf tA ta tb) (eIf mA ma mb) :=
  ⟨pe_ifExp ht.pt ha.pe hb.pe, fun s th G σ H Q R P => ht.sem s th G σ H _ R (P.bind fun x s1 th1 G1 H1 v l R1 r P1 => by
    cases r
    cases x with
    | true => exact iteT (ha.sem s1 th1 G1 σ H1 Q R1 P1)
    | false => exact iteF (hb.sem s1 th1 G1 σ H1 Q R1 P1))⟩
/-- and, or, not as values: truth values all -/
def eAndV (a b : ME) : ME := fun s => (a s).bind fun x s => match x with
  | .bl true => b s
  | .bl false => .ok (.bl false, s)
  | _ => .no
def eOrV (a b : ME) : ME := fun s => (a s).bind fun x s => match x with
  | .bl true => .ok (.bl true, s)
  | .bl false => b s
  | _ => .no
def eNotV (a : ME) : ME := fun s => (a s).bind fun x s => match x with
  | .bl b => .ok (.bl (!b), s)
  | _ => .no
theorem ve_one {op : BoolOp} (ha : VE X B W a ta ma) : VE X B W (.BoolOp op [a] pos) ta ma := ⟨pe_one ha.pe, ha.sem⟩
theorem ve_and (ha : VE X B W a ta ma) (hb : VE X B W (.BoolOp .And (b :: rest) pos) tb mb) : VE X B W (.BoolOp .And (a :: b :: rest) pos) (tAndV ta tb) (eAndV ma mb) :=
  ⟨pe_and ha.pe hb.pe, fun s th G σ H Q R P => ha.sem s th G σ H _ R (P.bind fun x s1 th1 G1 H1 v l R1 r P1 => by
    cases x with
    | bl k =>
      cases r
      refine ⟨k, rfl, ?_⟩
      cases k with
      | true => exact iteT (hb.sem s1 th1 G1 σ H1 Q R1 P1)
      | false => exact iteF (Post.ok (rel := relE X.K) P1 R1 rfl)
    | _ => exact P1.elim)⟩
theorem ve_or (ha : VE X B W a ta ma) (hb : VE X B W (.BoolOp .Or (b :: rest) pos) tb mb) : VE X B W (.BoolOp .Or (a :: b :: rest) pos) (tOrV ta tb) (eOrV ma mb) :=
  ⟨pe_or ha.pe hb.pe, fun s th G σ H Q R P => ha.sem s th G σ H _ R (P.bind fun x s1 th1 G1 H1 v l R1 r P1 => by
    cases x with
    | bl k =>
      cases r
      refine ⟨k, rfl, ?_⟩
      cases k with
      | true => exact iteT (Post.ok (rel := relE X.K) P1 R1 rfl)
      | false => exact iteF (hb.sem s1 th1 G1 σ H1 Q R1 P1)
    | _ => exact P1.elim)⟩
theorem ve_not (ha : VE X B W a ta ma) : VE X B W (.UnaryOp .Not a pos) (tNotV ta) (eNotV ma) :=
  ⟨pe_not ha.pe, fun s th G σ H Q R P => ha.sem s th G σ H _ R (P.bind fun x s1 th1 G1 H1 v l R1 r P1 => by
    cases x with
    | bl k => cases r; exact ⟨k, rfl, Post.ok (rel := relE X.K) P1 R1 rfl⟩
    | _ => exact P1.elim)⟩
end
end VL
namespace VL
open PySem L2

/-! ### dicts as lists of pairs -/
def valD {A : Type} (l : List (Key × A)) (k : Key) : Option A := (l.find? fun kv => decide (kv.1 = k)).map (·.2)
def putD {A : Type} (l : List (Key × A)) (k : Key) (d : A) : List (Key × A) :=
  if (l.any fun kv => decide (kv.1 = k)) = true then l.map (fun kv => if kv.1 = k then (kv.1, d) else kv) else l ++ [(k, d)]
def dropD {A : Type} (l : List (Key × A)) (k : Key) : List (Key × A) := l.filter fun kv => decide (kv.1 ≠ k)
/-- a dict's pairs stand for data -/
def AtK (K : PySem.W.Frag) (th : List Addr) (G : Hp) (l : List (Key × D)) (kvs : List (Key × V)) : Prop := kvs.map (·.1) = l.map (·.1) ∧ AtL K th G (l.map (·.2)) (kvs.map (·.2))
section
variable {K : PySem.W.Frag} {B : Bs} {th th' : List Addr} {G G' H : Hp} {s : S} {σ : St}
theorem AtK.nil : AtK K th G [] [] := ⟨rfl, rfl⟩
theorem AtK.cons {k : Key} {d : D} {v : V} {l : List (Key × D)} {kvs : List (Key × V)} (h : At K th G d v) (t : AtK K th G l kvs) : AtK K th G ((k, d) :: l) ((k, v) :: kvs) := ⟨by simp [t.1], .cons h t.2⟩
theorem AtK.uncons {p : Key × D} {l : List (Key × D)} {kvs : List (Key × V)} (h : AtK K th G (p :: l) kvs) : ∃ v r, kvs = (p.1, v) :: r ∧ At K th G p.2 v ∧ AtK K th G l r := by
  obtain ⟨h1, h2⟩ := h
  cases kvs with
  | nil => simp at h1
  | cons q r =>
    obtain ⟨a, b⟩ := q
    simp only [List.map_cons, List.cons.injEq] at h1
    obtain ⟨v, z, e, q1, q2⟩ := h2
    simp only [List.map_cons, List.cons.injEq] at e
    obtain ⟨rfl, rfl⟩ := e
    exact ⟨b, r, by rw [h1.1], q1, h1.2, q2⟩
theorem AtK.unnil {kvs : List (Key × V)} (h : AtK K th G [] kvs) : kvs = [] := by
  have := h.1
  simpa using this
theorem AtK.mono {l : List (Key × D)} {kvs : List (Key × V)} (ht : th <+: th') (e : Sub G G') (h : AtK K th G l kvs) : AtK K th' G' l kvs := ⟨h.1, h.2.mono ht e⟩
theorem AtK.length {l : List (Key × D)} {kvs : List (Key × V)} (h : AtK K th G l kvs) : kvs.length = l.length := by
  have := congrArg List.length h.1
  simpa using this
theorem AtK.val : ∀ {l : List (Key × D)} {kvs : List (Key × V)} (k : Key), AtK K th G l kvs → (match valD l k with
    | some d => ∃ v, valV kvs k = some v ∧ At K th G d v
    | none => valV kvs k = none)
  | [], kvs, k, h => by rw [h.unnil]; rfl
  | p :: l, kvs, k, h => by
    obtain ⟨v, r, rfl, h1, h2⟩ := h.uncons
    by_cases e : p.1 = k
    · have q : valD (p :: l) k = some p.2 := by simp [valD, List.find?_cons, e]
      rw [q]
      exact ⟨v, valV_pos e, h1⟩
    · have q : valD (p :: l) k = valD l k := by simp [valD, List.find?_cons, e]
      rw [q]
      have ih := AtK.val (l := l) (kvs := r) k h2
      rw [valV_neg (p := (p.1, v)) e]
      exact ih
theorem AtK.any {l : List (Key × D)} {kvs : List (Key × V)} (k : Key) (h : AtK K th G l kvs) : (kvs.any fun kv => decide (kv.1 = k)) = (l.any fun kv => decide (kv.1 = k)) := by
  have e1 : (kvs.any fun kv => decide (kv.1 = k)) = ((kvs.map (·.1)).any fun j => decide (j = k)) := by rw [List.any_map]; rfl
  have e2 : (l.any fun kv => decide (kv.1 = k)) = ((l.map (·.1)).any fun j => decide (j = k)) := by rw [List.any_map]; rfl
  rw [e1, e2, h.1]
theorem AtK.map1 {k : Key} {d : D} {v : V} (hd : At K th G d v) : ∀ {l : List (Key × D)} {kvs : List (Key × V)}, AtK K th G l kvs → AtK K th G (l.map fun kv => if kv.1 = k then (kv.1, d) else kv) (kvs.map fun kv => if kv.1 = k then (kv.1, v) else kv)
  | [], kvs, h => by rw [h.unnil]; exact .nil
  | p :: l, kvs, h => by
    obtain ⟨v', r, rfl, h1, h2⟩ := h.uncons
    have ih := AtK.map1 (k := k) hd h2
    obtain ⟨p1, p2⟩ := p
    simp only [List.map_cons]
    by_cases e : p1 = k
    · simp only [e, if_true]; exact .cons hd ih
    · simp only [e, if_false]; exact .cons h1 ih
theorem AtK.append {l m : List (Key × D)} {kvs ws : List (Key × V)} (h : AtK K th G l kvs) (h2 : AtK K th G m ws) : AtK K th G (l ++ m) (kvs ++ ws) := ⟨by simp [h.1, h2.1], by simpa using h.2.append h2.2⟩
theorem AtK.put {l : List (Key × D)} {kvs : List (Key × V)} {k : Key} {d : D} {v : V} (h : AtK K th G l kvs) (hd : At K th G d v) : AtK K th G (putD l k d) (putK kvs k v) := by
  unfold putD putK
  rw [h.any k]
  split
  · exact h.map1 hd
  · exact h.append (.cons hd .nil)
theorem AtK.drop {k : Key} : ∀ {l : List (Key × D)} {kvs : List (Key × V)}, AtK K th G l kvs → AtK K th G (dropD l k) (dropK kvs k)
  | [], kvs, h => by rw [h.unnil]; exact .nil
  | p :: l, kvs, h => by
    obtain ⟨v', r, rfl, h1, h2⟩ := h.uncons
    have ih := AtK.drop (k := k) h2
    obtain ⟨p1, p2⟩ := p
    unfold dropD dropK at ih ⊢
    by_cases e : p1 = k
    · rw [List.filter_cons_of_neg (by simp [e]), List.filter_cons_of_neg (by simp [e])]; exact ih
    · rw [List.filter_cons_of_pos (by simp [e]), List.filter_cons_of_pos (by simp [e])]; exact .cons h1 ih
theorem AtK.iff_dct {ks : List Key} {l : List D} {kvs : List (Key × V)} (h1 : kvs.map (·.1) = ks) (h2 : AtL K th G l (kvs.map (·.2))) : AtK K th G (ks.zip l) kvs := by
  have hl : ks.length = l.length := by
    have a := h2.length
    have b := congrArg List.length h1
    simp at a b
    omega
  refine ⟨?_, ?_⟩
  · rw [List.map_fst_zip (by omega)]; exact h1
  · rw [List.map_snd_zip (by omega)]; exact h2

/-- a dict's pairs: data or an own place -/
def dctOf (s : S) : D → Option (List (Key × D))
  | .dct ks l => some (ks.zip l)
  | .loc n => match s.m[n]? with
    | some (.dct l) => some l
    | _ => none
  | _ => none
theorem Rep.dct_of (R : Rep K B th G s σ H) {d : D} {v : V} {l : List (Key × D)} (h : At K th G d v) (e : dctOf s d = some l) : ∃ a kvs, v = .ref a ∧ Rd H a (.dK kvs) ∧ AtK K th G l kvs := by
  cases d with
  | dct ks m =>
    simp only [dctOf] at e; cases e
    obtain ⟨a, kvs, e1, q, z, r⟩ := h
    exact ⟨a, kvs, e1, R.eG.rdK q, .iff_dct z r⟩
  | loc n =>
    simp only [dctOf] at e
    obtain ⟨a, ha, e1⟩ := h
    cases hm : s.m[n]? with
    | none => rw [hm] at e; cases e
    | some ob =>
      rw [hm] at e
      cases ob with
      | dct m =>
        cases e
        obtain ⟨g, kvs, q, z, r⟩ := R.st n _ a hm ha
        exact ⟨a, kvs, e1, .inl q, z, r⟩
      | _ => cases e
  | _ => simp [dctOf] at e
def keyOf : D → Option Key
  | .int i => some (.inl i)
  | .str x => some (.inr ⟨x.toArray⟩)
  | _ => none
theorem key_at {d : D} {v : V} {k : Key} (h : At K th G d v) (e : keyOf d = some k) : v = kV k := by
  cases d <;> first
    | (simp [keyOf] at e; done)
    | (simp only [keyOf, Option.some.injEq] at e; subst e; cases h; rfl)
end

section
variable {X : Cx} {B : Bs} {W : WX} {e a b c : Expr} {te ta tb tc : TE} {m ma mb mc : ME} {pos : Pos} {th : List Addr} {G H : Hp} {s : S} {σ : St}
/-! ### argument lists, displays -/
def aNil : MA := fun s => .ok ([], s)
def aCons (a : ME) (r : MA) : MA := fun s => (a s).bind fun x s => (r s).bind fun l s => .ok (x :: l, s)
variable {es : List Expr} {tr : TA} {mr : MA}
theorem va_nil : VA X B W [] tNil aNil := ⟨pa_nil, fun s th G σ H Q R P => Post.ok (rel := relA X.K) P R rfl⟩
theorem va_cons (ha : VE X B W a ta ma) (hr : VA X B W es tr mr) (hs : starEach (a :: es) X.env = (false, eval a X.env) :: starEach es X.env := by rfl) : VA X B W (a :: es) (tCons ta tr) (aCons ma mr) :=
  ⟨pa_cons ha.pe hr.pa hs, fun s th G σ H Q R P => ha.sem s th G σ H _ R (P.bind fun x s1 th1 G1 H1 v l1 R1 r1 P1 => hr.sem s1 th1 G1 σ H1 _ R1 (P1.bind fun l s2 th2 G2 H2 vs l2 R2 r2 P2 =>
    Post.ok (rel := relA X.K) P2 R2 (.cons (At.mono l2.pre l2.ex r1) r2)))⟩
def eTup (r : MA) : ME := fun s => (r s).bind fun l s => if l.length ≤ SZ then .ok (.tup l, s) else .no
theorem ve_tup {x1} (hr : VA X B W es tr mr) : VE X B W (.Tuple es x1 pos) (tTupF tr) (eTup mr) :=
  ⟨pe_tupF hr.pa, fun s th G σ H Q R P => hr.sem s th G σ H _ R (P.bind fun l s1 th1 G1 H1 vs l1 R1 r1 P1 => by
    split at P1
    · rename_i hz
      exact ⟨by rw [r1.length, SZ_eq]; exact hz, post_tup R1 P1 r1⟩
    · exact P1.elim)⟩
def fLst (r : MA) : MF := fun s => (r s).bind fun l s => if l.length ≤ SZ then .ok (.lst l, s) else .no
theorem vf_lst (hr : VA X B W es tr mr) : VF X B W (.List es pos) (tLst tr) (fLst mr) :=
  ⟨pe_lst hr.pa, fun s th G σ H Q R P => hr.sem s th G σ H _ R (P.bind fun l s1 th1 G1 H1 vs l1 R1 r1 P1 => by
    split at P1
    · rename_i hz
      exact ⟨by rw [r1.length, SZ_eq]; exact hz, fun p hp => post_f R1 P1 r1 hp⟩
    · exact P1.elim)⟩
/-- a fresh thing, as data -/
def eFrz (m : MF) : ME := fun s => (m s).bind fun o s => match o with
  | .lst l => .ok (.lst l, s)
  | .dct l => .ok (.dct (l.map (·.1)) (l.map (·.2)), s)
  | _ => .no
/-- a fresh thing, as an own place -/
def eOwn (m : MF) : ME := fun s => (m s).bind fun o s => .ok (.loc s.m.length, { s with m := s.m ++ [o] })
theorem Le.takeNew {th th1 : List Addr} {G G1 H H1 : Hp} (l : Le th G H th1 G1 H1) {p : Addr} {o : HO} (hp : H p = none) (hg : G1 p = none) : Le th G H th1 (upd G1 p o) H1 :=
  ⟨l.pre, l.ex.trans (Sub.new hg), fun a u ha g n => by
    obtain ⟨h1, h2, h3⟩ := l.fr a u ha g n
    exact ⟨h1, by rw [upd_ne (ne_none (some_ne ha) hp)]; exact h2, h3⟩⟩
theorem Le.ownNew {th th1 : List Addr} {G G1 H H1 : Hp} (l : Le th G H th1 G1 H1) {p : Addr} (hp : H p = none) : Le th G H (th1 ++ [p]) G1 H1 :=
  ⟨l.pre.trans (List.prefix_append _ _), l.ex, fun a u ha g n => by
    obtain ⟨h1, h2, h3⟩ := l.fr a u ha g n
    refine ⟨h1, h2, fun z => ?_⟩
    rcases List.mem_append.mp z with z | z
    · exact h3 z
    · exact ne_none (some_ne ha) hp (by simpa using z)⟩
theorem obAt_some {K : PySem.W.Frag} {p : Addr} {ob : Ob} (h : ObAt K th G H p ob) (hd : ob ≠ .dead) : H p ≠ none := by
  cases ob with
  | lst l => obtain ⟨_, _, e, _⟩ := h; exact some_ne e
  | dct l => obtain ⟨_, _, e, _⟩ := h; exact some_ne e
  | ins C l => obtain ⟨_, _, _, e, _⟩ := h; exact some_ne e
  | dead => exact absurd rfl hd
theorem ve_frz {mf : MF} (h : VF X B W a ta mf) : VE X B W a ta (eFrz mf) :=
  ⟨h.pe, fun s th G σ H Q R P => h.sem s th G σ H _ R (P.bind0 fun o s1 th1 G1 H1 v l1 R1 r1 P1 => by
    obtain ⟨p, rfl, hd, ho, hn, hp⟩ := r1
    cases o with
    | lst l =>
      obtain ⟨g, vs, q, r⟩ := ho
      exact P1 th1 _ H1 (.ref p) (l1.takeNew hp g) (R1.take q g hn) ⟨p, vs, rfl, upd_same, r.mono List.prefix_rfl (Sub.new g)⟩
    | dct l =>
      obtain ⟨g, vs, q, z, r⟩ := ho
      exact P1 th1 _ H1 (.ref p) (l1.takeNew hp g) (R1.take q g hn) ⟨p, vs, rfl, .inl upd_same, z, r.mono List.prefix_rfl (Sub.new g)⟩
    | _ => exact P1.elim)⟩
theorem ve_own {mf : MF} (h : VF X B W a ta mf) : VE X B W a ta (eOwn mf) :=
  ⟨h.pe, fun s th G σ H Q R P => h.sem s th G σ H _ R (P.bind0 fun o s1 th1 G1 H1 v l1 R1 r1 P1 => by
    obtain ⟨p, rfl, hd, ho, hn, hp⟩ := r1
    refine P1 (th1 ++ [p]) G1 H1 (.ref p) (l1.ownNew hp) (R1.own (obAt_some ho hd) hn (ho.mono (List.prefix_append _ _) (Sub.refl _) (fun _ g => g) (fun _ _ h => h))) ⟨p, ?_, rfl⟩
    rw [← R1.tl, List.getElem?_append_right (Nat.le_refl _)]
    simp)⟩
/-- an own list in slot i, as data from now on -/
def eTake (i : Nat) : ME := fun s => match s.r[i]? with
  | some (some (.loc n)) => match s.m[n]? with
    | some (.lst l) => .ok (.lst l, { r := s.r.set i (some (.lst l)), m := s.m.set n .dead })
    | some (.dct l) => .ok (.dct (l.map (·.1)) (l.map (·.2)), { r := s.r.set i (some (.dct (l.map (·.1)) (l.map (·.2)))), m := s.m.set n .dead })
    | _ => .no
  | some (some d) => .ok (d, s)
  | _ => .no
theorem ve_take {x : Str} (i : Nat) (hN : X.N[i]? = some x := by rfl) (hv : Vis X.env.scope x := by first | exact Or.inl rfl | exact Or.inr (Or.inl rfl) | exact Or.inr (Or.inr rfl)) (hd : (x == ("__debug__" : Str)) = false := by decide)
    (hcd : (x == ("__classdict__" : Str)) = false := by decide) : VE X B W (.Name x pos) (tVar i) (eTake i) := by
  refine ⟨pv i hN hv hd hcd, fun s th G σ H Q R P => ?_⟩
  unfold eTake at P
  cases h : s.r[i]? with
  | none => rw [h] at P; exact P.elim
  | some o =>
    cases o with
    | none => rw [h] at P; exact P.elim
    | some d =>
      rw [h] at P
      obtain ⟨v, h1, h2⟩ := R.slot i d h
      refine ⟨v, h1, ?_⟩
      by_cases hl : ∃ n, d = .loc n
      · obtain ⟨n, rfl⟩ := hl
        obtain ⟨ad, ha, rfl⟩ := h2
        have hset : σ.set i (some (.ref ad)) = σ := by
          obtain ⟨hi, hx⟩ := List.getElem?_eq_some_iff.mp h1
          rw [← hx]; exact List.set_getElem_self hi
        dsimp only at P
        cases hm : s.m[n]? with
        | none => rw [hm] at P; exact P.elim
        | some ob =>
          rw [hm] at P
          cases ob with
          | lst l =>
            obtain ⟨g, vs, q, r⟩ := R.st n _ ad hm ha
            have R2 := R.still ha q g
            have at2 : At X.K th (upd G ad (.lst vs)) (.lst l) (.ref ad) := ⟨ad, vs, rfl, upd_same, r.mono List.prefix_rfl (Sub.new g)⟩
            have R3 := R2.sets (i := i) at2
            rw [hset] at R3
            exact P th _ H (.ref ad) (Le.still ha g) R3 at2
          | dct l =>
            obtain ⟨g, vs, q, z, r⟩ := R.st n _ ad hm ha
            have R2 := R.still ha q g
            have at2 : At X.K th (upd G ad (.dK vs)) (.dct (l.map (·.1)) (l.map (·.2))) (.ref ad) := ⟨ad, vs, rfl, .inl upd_same, z, r.mono List.prefix_rfl (Sub.new g)⟩
            have R3 := R2.sets (i := i) at2
            rw [hset] at R3
            exact P th _ H (.ref ad) (Le.still ha g) R3 at2
          | _ => exact P.elim
      · have P2 : Post X.K B W σ th G H (relE X.K) (.ok (d, s)) Q := by
          cases d <;> first
            | exact P
            | exact absurd ⟨_, rfl⟩ hl
        exact Post.ok (rel := relE X.K) P2 R h2

/-! ### subscripts -/
def fIx : D → D → S → R (D × S)
  | .str z, .int i, s => if z.length ≤ SZ then match L2.atI z i with
      | some ch => .ok (.str [ch], s)
      | none => .no
    else .no
  | x, k, s => match seqOf s x, k with
    | some l, .int i => match L2.atI l i with
      | some d => .ok (d, s)
      | none => .no
    | _, _ => match dctOf s x, keyOf k with
      | some l, some k => match valD l k with
        | some d => .ok (d, s)
        | none => .no
      | _, _ => .no
def tIx (K : PySem.W.Frag) (ta tb : TE) : TE := fun σ H Q => tOp (rIx K) ta tb σ H Q ∨ tDGet ta tb σ H Q
/-- the place of an item by values, in a sequence or in a dict -/
theorem fix_cases {s : S} {x k : D} {r : D × S} (h : fIx x k s = .ok r) : r.2 = s ∧ ((∃ z i ch, x = .str z ∧ k = .int i ∧ z.length ≤ SZ ∧ L2.atI z i = some ch ∧ r.1 = .str [ch]) ∨ (∃ l i, seqOf s x = some l ∧ k = .int i ∧ L2.atI l i = some r.1) ∨
    ∃ l kk, dctOf s x = some l ∧ keyOf k = some kk ∧ valD l kk = some r.1) := by
  by_cases hs : ∃ z i, x = .str z ∧ k = .int i
  · obtain ⟨z, i, rfl, rfl⟩ := hs
    simp only [fIx] at h
    split at h
    · split at h
      · rename_i hz _ ch hc
        cases h
        exact ⟨rfl, .inl ⟨z, i, ch, rfl, rfl, hz, hc, rfl⟩⟩
      · cases h
    · cases h
  · have h' : (match seqOf s x, k with
      | some l, .int i => match L2.atI l i with
        | some d => (.ok (d, s) : R (D × S))
        | none => .no
      | _, _ => match dctOf s x, keyOf k with
        | some l, some k => match valD l k with
          | some d => .ok (d, s)
          | none => .no
        | _, _ => .no) = .ok r := by
      cases x <;> cases k <;> first
        | exact h
        | exact absurd ⟨_, _, rfl, rfl⟩ hs
    split at h'
    · split at h'
      · rename_i l i e1 _ d hd
        cases h'
        exact ⟨rfl, .inr (.inl ⟨l, i, e1, rfl, hd⟩)⟩
      · cases h'
    · split at h'
      · split at h'
        · rename_i l kk e1 e2 _ d hd
          cases h'
          exact ⟨rfl, .inr (.inr ⟨l, kk, e1, e2, hd⟩)⟩
        · cases h'
      · cases h'
theorem fix_noex {s s' : S} {x k : D} {ex : Exn} : fIx x k s ≠ .ex ex s' := fun h => by
  by_cases hs : ∃ z i, x = .str z ∧ k = .int i
  · obtain ⟨z, i, rfl, rfl⟩ := hs
    simp only [fIx] at h
    split at h
    · split at h <;> cases h
    · cases h
  · have h' : (match seqOf s x, k with
      | some l, .int i => match L2.atI l i with
        | some d => (.ok (d, s) : R (D × S))
        | none => .no
      | _, _ => match dctOf s x, keyOf k with
        | some l, some k => match valD l k with
          | some d => .ok (d, s)
          | none => .no
        | _, _ => .no) = .ex ex s' := by
      cases x <;> cases k <;> first
        | exact h
        | exact absurd ⟨_, _, rfl, rfl⟩ hs
    split at h'
    · split at h' <;> cases h'
    · split at h'
      · split at h' <;> cases h'
      · cases h'
def rDGet : R2 := fun x y H Q => ∃ a v, x = .ref a ∧ DGet H a y (some v) ∧ Q v H
theorem ix_dict (hu : X.A.units + 1 < cLine) : IxR X rDGet := by
  intro value slice pins s σ H x y v u Q I rx ry h hs
  obtain ⟨ad, z, rfl, g, q⟩ := h
  cases rx
  exact PyProof.Rows.tail_any (dict_typeIs I g) PySem.F.slot_dict_getitem.lookup (d_getItem hu I g ry fun w' s3 I3 rw' => ⟨z, H, I3, rw', q⟩) hs
def rIxA (K : PySem.W.Frag) : R2 := fun x y H Q => rIx K x y H Q ∨ rDGet x y H Q
theorem semR_ix {K : PySem.W.Frag} : SemR K B W (rIxA K) fIx := fun s th G σ H Q x y vx vy R rx ry P => by
  cases e : fIx x y s with
  | no => rw [e] at P; exact P.elim
  | ex en s' => exact absurd e fix_noex
  | ok r =>
    obtain ⟨d, s'⟩ := r
    obtain ⟨e1, h⟩ := fix_cases e
    simp only at e1; subst e1
    rw [e] at P
    rcases h with ⟨z, i, ch, rfl, rfl, hz, hc, e2⟩ | ⟨l, i, hl, rfl, hd⟩ | ⟨l, kk, hl, hk, hd⟩
    · simp only at e2; subst e2
      cases rx; cases ry
      exact .inl (.inr (.inr ⟨_, i, ch, rfl, rfl, by rw [str_len, SZ_eq]; exact hz, hc, Post.ok (rel := relE K) P R rfl⟩))
    · cases ry
      obtain ⟨ad, vs, rfl, q, r⟩ := R.seq_of rx hl
      obtain ⟨v, h1, h2⟩ := r.atI hd
      rcases q with q | q
      · exact .inl (.inl ⟨ad, vs, i, v, rfl, rfl, q, h1, Post.ok (rel := relE K) P R h2⟩)
      · exact .inl (.inr (.inl ⟨ad, vs, i, v, rfl, rfl, q, h1, Post.ok (rel := relE K) P R h2⟩))
    · obtain ⟨ad, kvs, rfl, q, r⟩ := R.dct_of rx hl
      have hv := r.val kk
      rw [hd] at hv
      obtain ⟨v, h1, h2⟩ := hv
      have ek := key_at ry hk
      subst ek
      exact .inr ⟨ad, v, rfl, .inl ⟨kvs, kk, q, rfl, h1.symm⟩, Post.ok (rel := relE K) P R h2⟩
theorem ve_ix (hu : X.A.units + 1 < cLine) (ha : VE X B W a ta ma) (hb : VE X B W b tb mb) (hs : PlainIx b := by exact fun _ _ => rfl) : VE X B W (.Subscript a b pos) (tOp (rIxA X.K) ta tb) (eOp fIx ma mb) :=
  ⟨pe_ix (ix_seq.or (ix_dict hu)) ha.pe hb.pe hs, sem_op semR_ix ha.sem hb.sem⟩

/-! ### slices -/
def cut {α : Type} (l : List α) (lo hi : Option Int) : List α := (l.drop (HT.sIx l.length 0 lo)).take (HT.sIx l.length l.length hi - HT.sIx l.length 0 lo)
def oNone : S → R (Option Int × S) := fun s => .ok (none, s)
def oSome (m : ME) : S → R (Option Int × S) := fun s => (m s).bind fun d s => match d with
  | .int i => .ok (some i, s)
  | _ => .no
theorem vo_none : VO X B W none tNoPart oNone := ⟨po_none, fun s th G σ H Q R P => Post.ok (rel := relO) P R rfl⟩
theorem vo_some (ha : VE X B W a ta ma) : VO X B W (some a) (tPart ta) (oSome ma) :=
  ⟨po_some ha.pe, fun s th G σ H Q R P => ha.sem s th G σ H _ R (P.bind fun d s1 th1 G1 H1 v l R1 r P1 => by
    cases d with
    | int i => cases r; exact ⟨i, rfl, Post.ok (rel := relO) P1 R1 rfl⟩
    | _ => exact P1.elim)⟩
def fCut (x : D) (lo hi : Option Int) (s : S) : R (D × S) := match x with
  | .str z => if z.length ≤ SZ then .ok (.str (cut z lo hi), s) else .no
  | .tup l => .ok (.tup (cut l lo hi), s)
  | x => match lstOf s x with
    | some l => .ok (.lst (cut l lo hi), s)
    | none => .no
def eCut (a : ME) (lo hi : S → R (Option Int × S)) : ME := fun s => (a s).bind fun x s => (lo s).bind fun i s => (hi s).bind fun j s => fCut x i j s
def rCut (K : PySem.W.Frag) : V → Option Int → Option Int → Hp → VK → Prop := fun x lo hi H Q => rSlS x lo hi H Q ∨ (rSlF K x lo hi H Q ∨ rSlL K x lo hi H Q)
theorem AtL.cut {K : PySem.W.Frag} {l : List D} {vs : List V} (lo hi : Option Int) (h : AtL K th G l vs) : AtL K th G (VL.cut l lo hi) (cutV vs lo hi) := by
  unfold VL.cut cutV
  rw [h.length]
  exact (h.drop _).take _
theorem cutS_sv (z : List Nat) (lo hi : Option Int) : cutS ⟨z.toArray⟩ lo hi = ⟨(cut z lo hi).toArray⟩ := by
  unfold cutS cut
  rw [str_len]
theorem sem_cut {K : PySem.W.Frag} {Q : VK} {x : D} {vx : V} {lo hi : Option Int} (R : Rep K B th G s σ H) (rx : At K th G x vx) (P : Post K B W σ th G H (relE K) (fCut x lo hi s) Q) : rCut K vx lo hi H Q := by
  have key : (∀ z, x ≠ .str z) → (∀ l, x ≠ .tup l) → Post K B W σ th G H (relE K) (match lstOf s x with
    | some l => .ok (.lst (cut l lo hi), s)
    | none => .no) Q → rCut K vx lo hi H Q := fun _ _ P => by
    cases e : lstOf s x with
    | none => rw [e] at P; exact P.elim
    | some l =>
      rw [e] at P
      obtain ⟨ad, vs, rfl, q, r⟩ := R.lst_of rx e
      exact .inr (.inr ⟨ad, vs, rfl, SqL.of q, fun p hp => post_lst R P (r.cut lo hi) hp⟩)
  cases x with
  | str z =>
    cases rx
    simp only [fCut] at P
    split at P
    · rename_i hz
      exact .inl ⟨_, rfl, by rw [str_len, SZ_eq]; exact hz, by rw [cutS_sv]; exact Post.ok (rel := relE K) P R rfl⟩
    · exact P.elim
  | tup l =>
    obtain ⟨ad, vs, rfl, q, r⟩ := rx
    simp only [fCut] at P
    refine .inr (.inl ⟨ad, vs, rfl, R.eG.sqT q.sq, fun hw => ?_, fun hw => post_tup R P (r.cut lo hi)⟩)
    have e : cut l lo hi = l := by
      rw [r.length] at hw
      unfold cut
      rw [hw.1, hw.2, List.drop_zero, Nat.sub_zero, List.take_length]
    rw [e] at P
    exact Post.ok (rel := relE K) P R ⟨ad, vs, rfl, q, r⟩
  | _ => exact key (fun _ z => nomatch z) (fun _ z => nomatch z) P
theorem ve_cut {lo hi : Option Expr} {tl th' : TO} {ml mh : S → R (Option Int × S)} {p2 : Pos} (ha : VE X B W a ta ma) (hl : VO X B W lo tl ml) (hh : VO X B W hi th' mh) : VE X B W (.Subscript a (.Slice lo hi none p2) pos) (tSl (rCut X.K) ta tl th') (eCut ma ml mh) :=
  ⟨pe_slice (sl_str.or (sl_tupF.or sl_list)) ha.pe hl.po hh.po, fun s th G σ H Q R P => ha.sem s th G σ H _ R (P.bind fun x s1 th1 G1 H1 vx l1 R1 r1 P1 => hl.sem s1 th1 G1 σ H1 _ R1 (P1.bind fun i s2 th2 G2 H2 vi l2 R2 r2 P2 => hh.sem s2 th2 G2 σ H2 _ R2 (P2.bind fun j s3 th3 G3 H3 vj l3 R3 r3 P3 => by
    cases r2; cases r3
    exact sem_cut R3 (At.mono (l2.trans l3).pre (l2.trans l3).ex r1) P3)))⟩

end
end VL
namespace VL
open PySem L2

/-! ### in, not in -/
def flatD : D → Bool
  | .non => true
  | .bl _ => true
  | .int _ => true
  | .str _ => true
  | _ => false
def qIn (y x : D) (s : S) : Option Bool := match y, x with
  | .str c, .str z => match c with
    | [c] => some (decide (c ∈ z))
    | _ => none
  | _, _ => match seqOf s x with
    | some l => if flatD y && l.all flatD then some (l.any fun z => eqD z y) else match lstOf s x with
      | some l => if okD 64 y && okDs 63 l then some (l.any fun z => eqD z y) else none
      | none => none
    | none => match dctOf s x, keyOf y with
      | some l, some k => some (valD l k).isSome
      | _, _ => none
def fIn : D → D → S → R (D × S) := fun y x s => match qIn y x s with
  | some b => .ok (.bl b, s)
  | none => .no
def fNotIn : D → D → S → R (D × S) := fun y x s => match qIn y x s with
  | some b => .ok (.bl (!b), s)
  | none => .no
section
variable {K : PySem.W.Frag} {B : Bs} {th : List Addr} {G H : Hp} {s : S} {σ : St}
theorem flat_at {d : D} {v : V} (h : At K th G d v) (f : flatD d = true) : flatV v = true := by
  cases d <;> first
    | (cases h; rfl)
    | (simp [flatD] at f)
theorem flat_eqV {x y : D} {v w : V} (hx : At K th G x v) (hy : At K th G y w) (fx : flatD x = true) (fy : flatD y = true) : eqV v w = eqD x y := by
  cases x <;> cases y <;> first
    | (simp [flatD] at fx; done)
    | (simp [flatD] at fy; done)
    | (cases hx; cases hy; rfl)
    | (cases hx; cases hy; simp only [eqV, eqD]; exact str_beq _ _)
    | (cases hx; cases hy; simp only [eqV, eqD]; exact Int.beq_eq_decide _ _)
theorem flat_all : ∀ {l : List D} {vs : List V}, AtL K th G l vs → l.all flatD = true → vs.all flatV = true
  | [], _, h, _ => by cases h; rfl
  | d :: l, _, h, f => by
    obtain ⟨v, r, rfl, q, z⟩ := h
    simp only [List.all_cons, Bool.and_eq_true] at f ⊢
    exact ⟨flat_at q f.1, flat_all z f.2⟩
theorem flat_inV {y : D} {w : V} (hy : At K th G y w) (fy : flatD y = true) : ∀ {l : List D} {vs : List V}, AtL K th G l vs → l.all flatD = true → inV w vs = l.any fun z => eqD z y
  | [], _, h, _ => by cases h; rfl
  | d :: l, _, h, f => by
    obtain ⟨v, r, rfl, q, z⟩ := h
    simp only [List.all_cons, Bool.and_eq_true] at f
    have ih := flat_inV hy fy z f.2
    unfold inV at ih ⊢
    rw [List.any_cons, List.any_cons, ih, flat_eqV q hy f.1 fy]
theorem any_P {y : D} {m : Nat} (hy : okD m y = true) : ∀ {l : List D} {n : Nat}, okDs n l = true → ((toPs l).any fun z => PyData.eqv z (toP y)) = l.any fun z => eqD z y
  | [], _, _ => rfl
  | d :: l, n, h => by
    simp only [okDs, Bool.and_eq_true] at h
    rw [toPs, List.any_cons, List.any_cons, any_P hy h.2, eqv_D d y n m h.1 hy]
end
def rInA (K : PySem.W.Frag) (neg : Bool) : R2 := fun x y H Q => (∃ (c : Nat) (z : Str), x = .str ⟨#[c]⟩ ∧ y = .str z ∧ Q (.bl (if neg then !decide (c ∈ z.cps.toList) else decide (c ∈ z.cps.toList))) H) ∨
  (rIn K neg x y H Q ∨ ((∃ d ds, Dp K H x d ∧ Dp K H y (.list ds) ∧ SeqAt.shaped d = true ∧ SeqAt.shaped (.list ds) = true ∧ Q (.bl (if neg then !(ds.any fun z => PyData.eqv z d) else ds.any fun z => PyData.eqv z d)) H) ∨
    ∃ a o, y = .ref a ∧ DGet H a x o ∧ Q (.bl (if neg then !o.isSome else o.isSome)) H))
section
variable {X : Cx} {B : Bs} {W : WX} {e a b c : Expr} {te ta tb tc : TE} {m ma mb mc : ME} {pos : Pos} {th : List Addr} {G H : Hp} {s : S} {σ : St}
theorem op_in_dct (hu : X.A.units + 1 < cLine) : OpR X (compareOp .In) (fun x y H Q => ∃ a o, y = .ref a ∧ DGet H a x o ∧ Q (.bl o.isSome) H) := by
  intro pins s σ H x y v u Q I rx ry h
  obtain ⟨a, o, rfl, g, q⟩ := h
  cases ry
  exact d_in hu I g rx fun s3 I3 => ⟨.bl o.isSome, H, I3, rfl, q⟩
theorem op_notin_dct (hu : X.A.units + 1 < cLine) : OpR X (compareOp .NotIn) (fun x y H Q => ∃ a o, y = .ref a ∧ DGet H a x o ∧ Q (.bl (!o.isSome)) H) := by
  intro pins s σ H x y v u Q I rx ry h
  obtain ⟨a, o, rfl, g, q⟩ := h
  cases ry
  exact d_notIn hu I g rx fun s3 I3 => ⟨.bl (!o.isSome), H, I3, rfl, q⟩
theorem op_inA (hu : X.A.units + 65 < cLine) : OpR X (compareOp .In) (rInA X.K false) := op_in_sign.or (op_in_seq.or ((op_inD hu).or (op_in_dct (by omega))))
theorem op_notInA (hu : X.A.units + 65 < cLine) : OpR X (compareOp .NotIn) (rInA X.K true) := op_notIn_sign.or (op_notIn_seq.or ((op_notInD hu).or (op_notin_dct (by omega))))
theorem sem_in {K : PySem.W.Frag} {neg : Bool} {x y : D} {vx vy : V} {Q : VK} {k : Bool} (R : Rep K B th G s σ H) (rx : At K th G x vx) (ry : At K th G y vy) (e : qIn x y s = some k) (q : Q (.bl (if neg then !k else k)) H) : rInA K neg vx vy H Q := by
  by_cases hs : ∃ c z, x = .str c ∧ y = .str z
  · obtain ⟨c, z, rfl, rfl⟩ := hs
    simp only [qIn] at e
    split at e
    · rename_i c
      cases e
      cases rx; cases ry
      exact .inl ⟨c, _, rfl, rfl, q⟩
    · cases e
  have e' : (match seqOf s y with
    | some l => if flatD x && l.all flatD then some (l.any fun z => eqD z x) else match lstOf s y with
      | some l => if okD 64 x && okDs 63 l then some (l.any fun z => eqD z x) else none
      | none => none
    | none => match dctOf s y, keyOf x with
      | some l, some k => some (valD l k).isSome
      | _, _ => none) = some k := by
    cases x <;> cases y <;> first
      | exact e
      | exact absurd ⟨_, _, rfl, rfl⟩ hs
  cases h1 : seqOf s y with
  | some l =>
    rw [h1] at e'
    simp only at e'
    split at e'
    · rename_i hf
      simp only [Bool.and_eq_true] at hf
      cases e'
      obtain ⟨p, vs, rfl, hq, r⟩ := R.seq_of ry h1
      exact .inr (.inl ⟨p, vs, rfl, hq, flat_at rx hf.1, flat_all r hf.2, by rw [flat_inV rx hf.1 r hf.2]; exact q⟩)
    · split at e'
      · rename_i l2 h2
        split at e'
        · rename_i hk
          simp only [Bool.and_eq_true] at hk
          cases e'
          obtain ⟨p, vs, rfl, hq, r⟩ := R.lst_of ry h2
          refine .inr (.inr (.inl ⟨toP x, toPs l2, dp_of R.eG 64 x _ hk.1 rx, .lst (SqL.of hq) (dps_of R.eG 63 l2 vs hk.2 r), shaped_of hk.1, ?_, by rw [any_P hk.1 hk.2]; exact q⟩))
          exact shaped_of (d := .lst l2) (by simpa [okD] using hk.2)
        · cases e'
      · cases e'
  | none =>
    rw [h1] at e'
    simp only at e'
    split at e'
    · rename_i l kk h2 h3
      cases e'
      obtain ⟨p, kvs, rfl, hq, r⟩ := R.dct_of ry h2
      have hv := r.val kk
      have ek := key_at rx h3
      subst ek
      refine .inr (.inr (.inr ⟨p, valV kvs kk, rfl, .inl ⟨kvs, kk, hq, rfl, rfl⟩, ?_⟩))
      have : (valV kvs kk).isSome = (valD l kk).isSome := by
        cases hd : valD l kk with
        | none => rw [hd] at hv; rw [hv]; rfl
        | some d =>
          rw [hd] at hv
          obtain ⟨v, h4, _⟩ := hv
          rw [h4]; rfl
      rw [this]; exact q
    · cases e'
theorem semR_in {K : PySem.W.Frag} : SemR K B W (rInA K false) fIn := fun s th G σ H Q x y vx vy R rx ry P => by
  unfold fIn at P
  cases e : qIn x y s with
  | none => rw [e] at P; exact P.elim
  | some k => rw [e] at P; exact sem_in R rx ry e (Post.ok (rel := relE K) P R rfl)
theorem semR_notin {K : PySem.W.Frag} : SemR K B W (rInA K true) fNotIn := fun s th G σ H Q x y vx vy R rx ry P => by
  unfold fNotIn at P
  cases e : qIn x y s with
  | none => rw [e] at P; exact P.elim
  | some k => rw [e] at P; exact sem_in R rx ry e (Post.ok (rel := relE K) P R rfl)

/-! ### built-in calls: by the list of the arguments' data -/
def SemC (K : PySem.W.Frag) (B : Bs) (W : WX) (r : List V → Hp → VK → Prop) (f : List D → S → R (D × S)) : Prop :=
  ∀ s th G σ H Q l vs, Rep K B th G s σ H → AtL K th G l vs → Post K B W σ th G H (relE K) (f l s) Q → r vs H Q
def eCB (f : List D → S → R (D × S)) (r : MA) : ME := fun s => (r s).bind fun l s => f l s
variable {es : List Expr} {tr : TA} {mr : MA}
theorem sem_cb {K : PySem.W.Frag} {r : List V → Hp → VK → Prop} {f : List D → S → R (D × S)} (hf : SemC K B W r f) (ha : Sem K B W (relA K) tr mr) : Sem K B W (relE K) (tCB r tr) (eCB f mr) := fun s th G σ H Q R P =>
  ha s th G σ H _ R (P.bind fun l s1 th1 G1 H1 vs l1 R1 r1 P1 => hf s1 th1 G1 σ H1 Q l vs R1 r1 P1)
theorem ve_cb {x : Str} {p : Pos} {id : String} {r : List V → Hp → VK → Prop} {f : List D → S → R (D × S)} (hc : CallR X (.builtin id) r) (hf : SemC X.K B W r f) (hm : X.mg x = none) (hv : bootBuiltins x = some (.builtin id)) (ha : VA X B W (a :: es) tr mr)
    (hg : Gl X x := by rfl) (hn : x ≠ "__name__" := by decide) (hdb : (x == ("__debug__" : Str)) = false := by decide)
    (he : starEach (a :: es) X.env = (false, eval a X.env) :: starEach es X.env := by rfl) (hpl : (backTo pos (starEach es X.env)).any (·.1) = false := by rfl) : VE X B W (.Call (.Name x p) (a :: es) [] pos) (tCB r tr) (eCB f mr) :=
  ⟨pe_callB hc hg hm hv ha.pa hn hdb he hpl, sem_cb hf ha.sem⟩
theorem ve_ct {x : Str} {p : Pos} {id : String} {r : List V → Hp → VK → Prop} {f : List D → S → R (D × S)} (hc : CallR X (.type id) r) (hf : SemC X.K B W r f) (hm : X.mg x = none) (hv : bootBuiltins x = some (.type id)) (ha : VA X B W (a :: es) tr mr)
    (hg : Gl X x := by rfl) (hn : x ≠ "__name__" := by decide) (hdb : (x == ("__debug__" : Str)) = false := by decide)
    (he : starEach (a :: es) X.env = (false, eval a X.env) :: starEach es X.env := by rfl) (hpl : (backTo pos (starEach es X.env)).any (·.1) = false := by rfl) : VE X B W (.Call (.Name x p) (a :: es) [] pos) (tCB r tr) (eCB f mr) :=
  ⟨pe_callTy hc hg hm hv ha.pa hn hdb he hpl, sem_cb hf ha.sem⟩
/-- .. of a list or tuple handed out anew: fresh -/
def SemCF (K : PySem.W.Frag) (B : Bs) (W : WX) (r : List V → Hp → VK → Prop) (f : List D → S → R (Ob × S)) : Prop :=
  ∀ s th G σ H Q l vs, Rep K B th G s σ H → AtL K th G l vs → Post K B W σ th G H (relF K) (f l s) Q → r vs H Q
def fCB (f : List D → S → R (Ob × S)) (r : MA) : MF := fun s => (r s).bind fun l s => f l s
theorem vf_ct {x : Str} {p : Pos} {id : String} {r : List V → Hp → VK → Prop} {f : List D → S → R (Ob × S)} (hc : CallR X (.type id) r) (hf : SemCF X.K B W r f) (hm : X.mg x = none) (hv : bootBuiltins x = some (.type id)) (ha : VA X B W (a :: es) tr mr)
    (hg : Gl X x := by rfl) (hn : x ≠ "__name__" := by decide) (hdb : (x == ("__debug__" : Str)) = false := by decide)
    (he : starEach (a :: es) X.env = (false, eval a X.env) :: starEach es X.env := by rfl) (hpl : (backTo pos (starEach es X.env)).any (·.1) = false := by rfl) : VF X B W (.Call (.Name x p) (a :: es) [] pos) (tCB r tr) (fCB f mr) :=
  ⟨pe_callTy hc hg hm hv ha.pa hn hdb he hpl, fun s th G σ H Q R P => ha.sem s th G σ H _ R (P.bind fun l s1 th1 G1 H1 vs l1 R1 r1 P1 => hf s1 th1 G1 σ H1 Q l vs R1 r1 P1)⟩
theorem vf_cb {x : Str} {p : Pos} {id : String} {r : List V → Hp → VK → Prop} {f : List D → S → R (Ob × S)} (hc : CallR X (.builtin id) r) (hf : SemCF X.K B W r f) (hm : X.mg x = none) (hv : bootBuiltins x = some (.builtin id)) (ha : VA X B W (a :: es) tr mr)
    (hg : Gl X x := by rfl) (hn : x ≠ "__name__" := by decide) (hdb : (x == ("__debug__" : Str)) = false := by decide)
    (he : starEach (a :: es) X.env = (false, eval a X.env) :: starEach es X.env := by rfl) (hpl : (backTo pos (starEach es X.env)).any (·.1) = false := by rfl) : VF X B W (.Call (.Name x p) (a :: es) [] pos) (tCB r tr) (fCB f mr) :=
  ⟨pe_callB hc hg hm hv ha.pa hn hdb he hpl, fun s th G σ H Q R P => ha.sem s th G σ H _ R (P.bind fun l s1 th1 G1 H1 vs l1 R1 r1 P1 => hf s1 th1 G1 σ H1 Q l vs R1 r1 P1)⟩

/-! len -/
def lenD (s : S) : D → Option Nat
  | .str x => if x.length ≤ SZ then some x.length else none
  | d => match seqOf s d with
    | some l => some l.length
    | none => match dctOf s d with
      | some l => some l.length
      | none => none
def cLen : List D → S → R (D × S)
  | [d], s => match lenD s d with
    | some n => .ok (.int n, s)
    | none => .no
  | _, _ => .no
theorem AtL.one_of {K : PySem.W.Frag} {d : D} {vs : List V} (h : AtL K th G [d] vs) : ∃ v, vs = [v] ∧ At K th G d v := by
  obtain ⟨v, r, rfl, q, z⟩ := h
  cases z
  exact ⟨v, rfl, q⟩
theorem AtL.two_of {K : PySem.W.Frag} {d d' : D} {vs : List V} (h : AtL K th G [d, d'] vs) : ∃ v w, vs = [v, w] ∧ At K th G d v ∧ At K th G d' w := by
  obtain ⟨v, r, rfl, q, z⟩ := h
  obtain ⟨w, rfl, q2⟩ := z.one_of
  exact ⟨v, w, rfl, q, q2⟩
def rLenA (K : PySem.W.Frag) : List V → Hp → VK → Prop := fun xs H Q => (∃ x n, xs = [x] ∧ LenV K x H n ∧ Q (.int n) H) ∨ ∃ a kvs, xs = [.ref a] ∧ Rd H a (.dK kvs) ∧ Q (.int kvs.length) H
theorem call_lenA : CallR X (.builtin "len") (rLenA X.K) := call_len.or (by
  intro pins s σ H xs us Q I r h
  obtain ⟨ad, kvs, rfl, hq, q⟩ := h
  obtain ⟨u, rfl, r1⟩ := vals1 r
  cases r1
  exact d_len I hq fun t s' I' => ⟨.int kvs.length, H, I', ⟨_, rfl⟩, q⟩)
theorem semC_len {K : PySem.W.Frag} : SemC K B W (rLenA K) cLen := fun s th G σ H Q l vs R r P => by
  cases l with
  | nil => exact P.elim
  | cons d t =>
    cases t with
    | cons _ _ => exact P.elim
    | nil =>
      obtain ⟨v, rfl, h⟩ := r.one_of
      simp only [cLen] at P
      cases e : lenD s d with
      | none => rw [e] at P; exact P.elim
      | some n =>
        rw [e] at P
        have q : Q (.int n) H := Post.ok (rel := relE K) P R rfl
        by_cases hs : ∃ x, d = .str x
        · obtain ⟨x, rfl⟩ := hs
          simp only [lenD] at e
          split at e
          · rename_i hz
            cases e
            cases h
            exact .inl ⟨_, _, rfl, ⟨by rw [str_len, SZ_eq]; exact hz, by rw [str_len]⟩, q⟩
          · cases e
        have e' : (match seqOf s d with
          | some l => some l.length
          | none => match dctOf s d with
            | some l => some l.length
            | none => none) = some n := by
          cases d <;> first
            | exact e
            | exact absurd ⟨_, rfl⟩ hs
        cases h1 : seqOf s d with
        | some l =>
          rw [h1] at e'
          cases e'
          obtain ⟨p, vs, rfl, hq, r⟩ := R.seq_of h h1
          refine .inl ⟨_, _, rfl, ?_, q⟩
          rcases hq with hq | hq
          · exact .inl ⟨vs, hq, r.length.symm⟩
          · exact .inr ⟨vs, hq, r.length.symm⟩
        | none =>
          rw [h1] at e'
          simp only at e'
          cases h2 : dctOf s d with
          | none => rw [h2] at e'; cases e'
          | some l =>
            rw [h2] at e'
            cases e'
            obtain ⟨p, kvs, rfl, hq, r⟩ := R.dct_of h h2
            exact .inr ⟨p, kvs, rfl, hq, by rw [r.length]; exact q⟩
/-! ### one or two arguments -/
def c1 (g : S → D → Option D) : List D → S → R (D × S) := fun l s => match l with
  | [d] => match g s d with
    | some z => .ok (z, s)
    | none => .no
  | _ => .no
def c2 (g : S → D → D → Option D) : List D → S → R (D × S) := fun l s => match l with
  | [d, e] => match g s d e with
    | some z => .ok (z, s)
    | none => .no
  | _ => .no
theorem semC_1 {K : PySem.W.Frag} {r : List V → Hp → VK → Prop} {g : S → D → Option D}
    (h : ∀ s th G σ H Q d v z, Rep K B th G s σ H → At K th G d v → g s d = some z → Post K B W σ th G H (relE K) (.ok (z, s)) Q → r [v] H Q) : SemC K B W r (c1 g) := fun s th G σ H Q l vs R rl P => by
  match l, rl, P with
  | [], _, P => exact P.elim
  | [d], rl, P =>
    obtain ⟨v, rfl, hv⟩ := rl.one_of
    simp only [c1] at P
    cases e : g s d with
    | none => rw [e] at P; exact P.elim
    | some z => rw [e] at P; exact h s th G σ H Q d v z R hv e P
  | _ :: _ :: _, _, P => exact P.elim
theorem semC_2 {K : PySem.W.Frag} {r : List V → Hp → VK → Prop} {g : S → D → D → Option D}
    (h : ∀ s th G σ H Q d d' v v' z, Rep K B th G s σ H → At K th G d v → At K th G d' v' → g s d d' = some z → Post K B W σ th G H (relE K) (.ok (z, s)) Q → r [v, v'] H Q) : SemC K B W r (c2 g) := fun s th G σ H Q l vs R rl P => by
  match l, rl, P with
  | [], _, P => exact P.elim
  | [_], _, P => exact P.elim
  | [d, d'], rl, P =>
    obtain ⟨v, v', rfl, hv, hv'⟩ := rl.two_of
    simp only [c2] at P
    cases e : g s d d' with
    | none => rw [e] at P; exact P.elim
    | some z => rw [e] at P; exact h s th G σ H Q d d' v v' z R hv hv' e P
  | _ :: _ :: _ :: _, _, P => exact P.elim
def gAbs : S → D → Option D := fun _ d => match d with
  | .int i => some (.int (if i < 0 then -i else i))
  | _ => none
theorem semC_abs {K : PySem.W.Frag} : SemC K B W (fun xs H Q => ∃ i, xs = [.int i] ∧ Q (.int (if i < 0 then -i else i)) H) (c1 gAbs) := semC_1 fun s th G σ H Q d v z R h e P => by
  cases d <;> simp only [gAbs] at e <;> cases e
  cases h
  exact ⟨_, rfl, Post.ok (rel := relE K) P R rfl⟩
def gInt : S → D → Option D := fun _ d => match d with
  | .int i => some (.int i)
  | .bl b => some (.int (if b then 1 else 0))
  | _ => none
theorem semC_int {K : PySem.W.Frag} : SemC K B W (fun xs H Q => (∃ i, xs = [.int i] ∧ Q (.int i) H) ∨ ∃ k, xs = [.bl k] ∧ Q (.int (if k then 1 else 0)) H) (c1 gInt) := semC_1 fun s th G σ H Q d v z R h e P => by
  cases d <;> simp only [gInt] at e <;> cases e
  · cases h
    exact .inr ⟨_, rfl, Post.ok (rel := relE K) P R rfl⟩
  · cases h
    exact .inl ⟨_, rfl, Post.ok (rel := relE K) P R rfl⟩
def gMax2 : S → D → D → Option D := fun _ d e => match d, e with
  | .int i, .int j => some (.int (if j > i then j else i))
  | _, _ => none
def gMin2 : S → D → D → Option D := fun _ d e => match d, e with
  | .int i, .int j => some (.int (if j < i then j else i))
  | _, _ => none
theorem semC_max2 {K : PySem.W.Frag} : SemC K B W (fun xs H Q => ∃ i j, xs = [.int i, .int j] ∧ Q (.int (if j > i then j else i)) H) (c2 gMax2) := semC_2 fun s th G σ H Q d d' v v' z R h h' e P => by
  cases d <;> cases d' <;> simp only [gMax2] at e <;> cases e
  cases h; cases h'
  exact ⟨_, _, rfl, Post.ok (rel := relE K) P R rfl⟩
theorem semC_min2 {K : PySem.W.Frag} : SemC K B W (fun xs H Q => ∃ i j, xs = [.int i, .int j] ∧ Q (.int (if j < i then j else i)) H) (c2 gMin2) := semC_2 fun s th G σ H Q d d' v v' z R h h' e P => by
  cases d <;> cases d' <;> simp only [gMin2] at e <;> cases e
  cases h; cases h'
  exact ⟨_, _, rfl, Post.ok (rel := relE K) P R rfl⟩
/-- the ints of plain data -/
def intsD : List D → Option (List Int)
  | [] => some []
  | .int i :: l => (intsD l).map (i :: ·)
  | _ :: _ => none
theorem intsD_eq : ∀ {l : List D} {ns : List Int}, intsD l = some ns → l = ns.map D.int
  | [], ns, h => by simp [intsD] at h; subst h; rfl
  | d :: l, ns, h => by
    cases d <;> simp only [intsD] at h <;> try (cases h; done)
    cases e : intsD l with
    | none => rw [e] at h; cases h
    | some ms =>
      rw [e] at h
      simp at h
      subst h
      rw [intsD_eq e]; rfl
def gSum : S → D → Option D := fun s d => match lstOf s d with
  | some l => (intsD l).map fun ns => .int ns.sum
  | none => none
theorem semC_sum {K : PySem.W.Frag} : SemC K B W (rSum K) (c1 gSum) := semC_1 fun s th G σ H Q d v z R h e P => by
  simp only [gSum] at e
  cases e1 : lstOf s d with
  | none => rw [e1] at e; cases e
  | some l =>
    rw [e1] at e
    simp only at e
    cases e2 : intsD l with
    | none => rw [e2] at e; cases e
    | some ns =>
      rw [e2] at e
      simp at e
      subst e
      obtain ⟨p, vs, rfl, q, r⟩ := R.lst_of h e1
      rw [intsD_eq e2] at r
      rw [r.ints] at q
      exact ⟨p, ns, rfl, SqL.of q, Post.ok (rel := relE K) P R rfl⟩
/-- tuple(x): a list's items; a tuple itself -/
def gTuple : S → D → Option D := fun s d => match d with
  | .tup l => some (.tup l)
  | d => match lstOf s d with
    | some l => some (.tup l)
    | none => none
theorem semC_tuple {K : PySem.W.Frag} : SemC K B W (fun xs H Q => ∃ p ys, xs = [.ref p] ∧ ((SqL K H p ys ∧ NewT H ys Q) ∨ (SqT K H p ys ∧ Q (.ref p) H))) (c1 gTuple) := semC_1 fun s th G σ H Q d v z R h e P => by
  have key : (match lstOf s d with
    | some l => some (D.tup l)
    | none => none) = some z → ∃ p ys, [v] = [V.ref p] ∧ ((SqL K H p ys ∧ NewT H ys Q) ∨ (SqT K H p ys ∧ Q (.ref p) H)) := fun e => by
    cases e1 : lstOf s d with
    | none => rw [e1] at e; cases e
    | some l =>
      rw [e1] at e
      cases e
      obtain ⟨p, vs, rfl, q, r⟩ := R.lst_of h e1
      exact ⟨p, vs, rfl, .inl ⟨SqL.of q, post_tup R P r⟩⟩
  cases d with
  | tup l =>
    simp only [gTuple, Option.some.injEq] at e
    subst e
    obtain ⟨p, vs, rfl, q, r⟩ := id h
    exact ⟨p, vs, rfl, .inr ⟨R.eG.sqT q.sq, Post.ok (rel := relE K) P R h⟩⟩
  | _ => exact key e
/-- list(x) of a list or a tuple -/
def gList : List D → S → R (Ob × S) := fun l s => match l with
  | [d] => match seqOf s d with
    | some l => .ok (.lst l, s)
    | none => .no
  | _ => .no
theorem semC_list {K : PySem.W.Frag} : SemCF K B W (fun xs H Q => ∃ p ys, xs = [.ref p] ∧ (SqL K H p ys ∨ SqT K H p ys) ∧ ∀ l, H l = none → Q (.ref l) (upd H l (.lst ys))) gList := fun s th G σ H Q l vs R rl P => by
  match l, rl, P with
  | [], _, P => exact P.elim
  | [d], rl, P =>
    obtain ⟨v, rfl, hv⟩ := rl.one_of
    simp only [gList] at P
    cases e : seqOf s d with
    | none => rw [e] at P; exact P.elim
    | some z =>
      rw [e] at P
      obtain ⟨p, vs, rfl, q, r⟩ := R.seq_of hv e
      exact ⟨p, vs, rfl, q, fun t ht => post_f R P r ht⟩
  | _ :: _ :: _, _, P => exact P.elim

/-! ### isinstance with a built-in class -/
def tyD : D → Option String
  | .non => some "NoneType"
  | .bl _ => some "bool"
  | .int _ => some "int"
  | .str _ => some "str"
  | .tup _ => some "tuple"
  | .lst _ => some "list"
  | _ => none
/-- the tuples of the written part are tuples -/
theorem ty_at {K : PySem.W.Frag} {d : D} {v : V} {t : String} (R : Rep K B th G s σ H) (h : At K th G d v) (e : tyD d = some t) : TyX K H v (.type t) := by
  cases d <;> simp only [tyD] at e <;> cases e
  · cases h; exact .base .non
  · cases h; exact .base (.bl _)
  · cases h; exact .base (.int _)
  · cases h; exact .base (.str _)
  · obtain ⟨p, vs, rfl, q, r⟩ := h
    rcases R.eG.sqT q.sq with (q | ⟨o, q⟩) | ⟨o, its, n, q, hc, _⟩
    · exact .base (.tup q)
    · exact .fTuple q
    · exact .kTuple q hc
  · obtain ⟨p, vs, rfl, q, r⟩ := h
    exact .base (.lst (R.eG.lst q))
def isiB (T : String) (t : String) : Option Bool := kitB t T
/-- isinstance(x, T), T a built-in class by its name -/
def eIsi (T : String) (a : ME) : ME := fun s => (a s).bind fun d s => match tyD d with
  | some t => match kitB t T with
    | some b => .ok (.bl b, s)
    | none => .no
  | none => .no
def tIsi (K : PySem.W.Frag) (T : String) (ta : TE) : TE := tCB (rIsi K) (tCons ta (tCons (tC (.ty T)) tNil))
theorem ve_isi {x : Str} {p p2 : Pos} {T : String} (ha : VE X B W a ta ma) (hm : X.mg "isinstance" = none) (hmT : X.mg x = none) (hvT : bootBuiltins x = some (.type T)) (hgT : Gl X x := by rfl) (hg : Gl X "isinstance" := by rfl) (hn : x ≠ "__name__" := by decide) (hdb : (x == ("__debug__" : Str)) = false := by decide)
    (hs0 : starEach (a :: [.Name x p2]) X.env = (false, eval a X.env) :: starEach [.Name x p2] X.env := by rfl) (hs1 : starEach [.Name x p2] X.env = (false, eval (.Name x p2) X.env) :: starEach [] X.env := by rfl) (hpl : (backTo pos (starEach [.Name x p2] X.env)).any (·.1) = false := by rfl) :
    VE X B W (.Call (.Name "isinstance" p) [a, .Name x p2] [] pos) (tIsi X.K T ta) (eIsi T ma) :=
  ⟨pe_callB call_isi hg hm (by decide +kernel) (pa_cons ha.pe (pa_cons (pe_bltn hgT hmT hvT rfl hn hdb) pa_nil hs1) hs0) (by decide) (by decide) hs0 hpl, fun s th G σ H Q R P => ha.sem s th G σ H _ R (P.bind fun d s1 th1 G1 H1 v l1 R1 r1 P1 => by
    cases e : tyD d with
    | none => rw [e] at P1; exact P1.elim
    | some t =>
      rw [e] at P1
      simp only at P1
      cases e2 : kitB t T with
      | none => rw [e2] at P1; exact P1.elim
      | some b =>
        rw [e2] at P1
        exact ⟨v, .ty T, .type t, .type T, b, rfl, .ty T, ty_at R1 r1 e, kit_ty e2, Post.ok (rel := relE X.K) P1 R1 rfl⟩)⟩
end
end VL
namespace VL
open PySem L2

/-! ### statements -/
inductive C where
  | nx (s : S) | rt (d : D) (s : S) | bk (s : S) | ct (s : S) | ex (e : Exn) (s : S) | no
def R.to {α : Type} (x : R (α × S)) (k : α → S → C) : C := match x with
  | .ok (a, s) => k a s
  | .ex e s => .ex e s
  | .no => .no
@[simp] theorem R.to_ok {α : Type} (a : α) (s : S) (k : α → S → C) : R.to (.ok (a, s)) k = k a s := id rfl
@[simp] theorem R.to_ex {α : Type} (e : Exn) (s : S) (k : α → S → C) : R.to (.ex e s) k = .ex e s := id rfl
@[simp] theorem R.to_no {α : Type} (k : α → S → C) : R.to .no k = .no := id rfl
def C.seq (x : C) (k : S → C) : C := match x with
  | .nx s => k s
  | c => c
@[simp] theorem C.seq_nx (s : S) (k : S → C) : C.seq (.nx s) k = k s := id rfl
@[simp] theorem C.seq_rt (d : D) (s : S) (k : S → C) : C.seq (.rt d s) k = .rt d s := id rfl
@[simp] theorem C.seq_bk (s : S) (k : S → C) : C.seq (.bk s) k = .bk s := id rfl
@[simp] theorem C.seq_ct (s : S) (k : S → C) : C.seq (.ct s) k = .ct s := id rfl
@[simp] theorem C.seq_ex (e : Exn) (s : S) (k : S → C) : C.seq (.ex e s) k = .ex e s := id rfl
@[simp] theorem C.seq_no (k : S → C) : C.seq .no k = .no := id rfl
abbrev MS := S → C
abbrev MG := D → S → C

section
variable (K : PySem.W.Frag) (B : Bs) (W : WX)
def PostS (th : List Addr) (G H : Hp) (c : C) (Dn : Ends) : Prop := match c with
  | .nx s' => ∀ th' G' H' σ', Le th G H th' G' H' → Rep K B th' G' s' σ' H' → Dn.nx σ' H'
  | .rt d s' => ∀ th' G' H' σ' v, Le th G H th' G' H' → Rep K B th' G' s' σ' H' → At K th' G' d v → Dn.rt v H'
  | .bk s' => ∀ th' G' H' σ', Le th G H th' G' H' → Rep K B th' G' s' σ' H' → Dn.bk σ' H'
  | .ct s' => ∀ th' G' H' σ', Le th G H th' G' H' → Rep K B th' G' s' σ' H' → Dn.ct σ' H'
  | .ex e s' => ∀ th' G' H' σ' cls d, Le th G H th' G' H' → Rep K B th' G' s' σ' H' → ExAt K B th' G' H' e cls d → W cls d σ' H'
  | .no => False
def SemS (t : TS) (m : MS) : Prop := ∀ s th G σ H Dn, Rep K B th G s σ H → PostS K B W th G H (m s) Dn → t Dn σ H
def SemG (t : TG) (m : MG) : Prop := ∀ s th G σ H d v (Q : St → Hp → Prop), Rep K B th G s σ H → At K th G d v → PostS K B W th G H (m d s) { nx := Q, rt := fun _ _ => False } → t v σ H Q
def SemGs (t : TGs) (m : List D → S → C) : Prop := ∀ s th G σ H l vs (Q : St → Hp → Prop), Rep K B th G s σ H → AtL K th G l vs → PostS K B W th G H (m l s) { nx := Q, rt := fun _ _ => False } → t vs σ H Q
end
structure VS (X : Cx) (B : Bs) (W : WX) (st : Stmt) (t : TS) (m : MS) : Prop where
  ps : PS X st t
  sem : SemS X.K B W t m
structure VSs (X : Cx) (B : Bs) (W : WX) (st : List Stmt) (t : TS) (m : MS) : Prop where
  ps : PSs X st t
  sem : SemS X.K B W t m
structure VG (X : Cx) (B : Bs) (W : WX) (tg : Expr) (t : TG) (m : MG) : Prop where
  pg : PG X tg t
  sem : SemG X.K B W t m
structure VGs (X : Cx) (B : Bs) (W : WX) (tgs : List Expr) (t : TGs) (m : List D → S → C) : Prop where
  pg : PGs X tgs t
  sem : SemGs X.K B W t m

section
variable {K : PySem.W.Frag} {B : Bs} {W : WX} {th th1 : List Addr} {G G1 H H1 : Hp} {σ : St} {α β : Type}
theorem PostS.later {c : C} {Dn : Ends} (l : Le th G H th1 G1 H1) (P : PostS K B W th G H c Dn) : PostS K B W th1 G1 H1 c Dn := by
  cases c with
  | nx s => exact fun th' G' H' σ' l' R => P th' G' H' σ' (l.trans l') R
  | rt d s => exact fun th' G' H' σ' v l' R r => P th' G' H' σ' v (l.trans l') R r
  | bk s => exact fun th' G' H' σ' l' R => P th' G' H' σ' (l.trans l') R
  | ct s => exact fun th' G' H' σ' l' R => P th' G' H' σ' (l.trans l') R
  | ex e s => exact fun th' G' H' σ' cls d l' R r => P th' G' H' σ' cls d (l.trans l') R r
  | no => exact P
theorem PostS.to {rel : Rel α β} {x : R (α × S)} {k : α → S → C} {Dn : Ends} {Q2 : β → Hp → Prop} (P : PostS K B W th G H (x.to k) Dn)
    (h : ∀ a s' th' G' H' b, Le th G H th' G' H' → Rep K B th' G' s' σ H' → rel H th' G' H' a b → PostS K B W th' G' H' (k a s') Dn → Q2 b H') : Post K B W σ th G H rel x Q2 := by
  cases x with
  | ok a => obtain ⟨a, s⟩ := a; exact fun th' G' H' b l R r => h a s th' G' H' b l R r (P.later l)
  | ex e s => exact fun th' G' H' cls d l R r => P th' G' H' σ cls d l R r
  | no => exact P
theorem PostS.seq {x : C} {k : S → C} {Dn : Ends} {N : St → Hp → Prop} (P : PostS K B W th G H (x.seq k) Dn)
    (h : ∀ s' th' G' H' σ', Le th G H th' G' H' → Rep K B th' G' s' σ' H' → PostS K B W th' G' H' (k s') Dn → N σ' H') : PostS K B W th G H x { Dn with nx := N } := by
  cases x with
  | nx s => exact fun th' G' H' σ' l R => h s th' G' H' σ' l R (PostS.later l P)
  | _ => exact P
/-- a target's end: nx or nothing -/
theorem PostS.g {c : C} {Dn : Ends} {k : S → C} (P : PostS K B W th G H (c.seq k) Dn) (hc : (∃ s, c = .nx s) ∨ c = .no)
    {Q : St → Hp → Prop} (h : ∀ s' th' G' H' σ', Le th G H th' G' H' → Rep K B th' G' s' σ' H' → PostS K B W th' G' H' (k s') Dn → Q σ' H') : PostS K B W th G H c { nx := Q, rt := fun _ _ => False } := by
  rcases hc with ⟨s, rfl⟩ | rfl
  · exact fun th' G' H' σ' l R => h s th' G' H' σ' l R (PostS.later l P)
  · exact P.elim
theorem PostS.nx0 {s : S} {Dn : Ends} (P : PostS K B W th G H (.nx s) Dn) (R : Rep K B th G s σ H) : Dn.nx σ H := P th G H σ (Le.refl _ _ _) R
theorem PostS.rt0 {d : D} {v : V} {s : S} {Dn : Ends} (P : PostS K B W th G H (.rt d s) Dn) (R : Rep K B th G s σ H) (r : At K th G d v) : Dn.rt v H := P th G H σ v (Le.refl _ _ _) R r
end

def sSeq (a b : MS) : MS := fun s => (a s).seq b
def sNil : MS := fun s => .nx s
def sRet (e : ME) : MS := fun s => (e s).to fun d s => .rt d s
def sRetN : MS := fun s => .rt .non s
def sBk : MS := fun s => .bk s
def sCt : MS := fun s => .ct s
def sDrop (e : ME) : MS := fun s => (e s).to fun _ s => .nx s
def sIf (t : MT) (a b : MS) : MS := fun s => (t s).to fun x s => if x = true then a s else b s
def gN (i : Nat) : MG := fun d s => .nx { s with r := s.r.set i (some d) }
def sAsg (e : ME) (g : MG) : MS := fun s => (e s).to fun d s => g d s
def gTupM (g : List D → S → C) : MG := fun d s => match d with
  | .tup l => g l s
  | _ => .no
def gsNil : List D → S → C := fun l s => match l with
  | [] => .nx s
  | _ => .no
def gsCons (g : MG) (r : List D → S → C) : List D → S → C := fun l s => match l with
  | d :: l => (g d s).seq fun s => r l s
  | [] => .no

section
variable {X : Cx} {B : Bs} {W : WX} {e a b c tg : Expr} {te ta tb tc : TE} {m ma mb mc : ME} {pos : Pos} {st : Stmt} {rest sts sts' : List Stmt} {t u : TS} {ms mr : MS} {tt : TT} {mt : MT}
theorem vss_nil : VSs X B W [] tNext sNil := ⟨pss_nil, fun s th G σ H Dn R P => P.nx0 R⟩
theorem vss_cons (h : VS X B W st t ms) (k : VSs X B W rest u mr) : VSs X B W (st :: rest) (tSeq t u) (sSeq ms mr) :=
  ⟨pss_cons h.ps k.ps, fun s th G σ H Dn R P => h.sem s th G σ H _ R (P.seq fun s' th' G' H' σ' l R' P' => k.sem s' th' G' σ' H' Dn R' P')⟩
theorem vss_one (h : VS X B W st t ms) : VSs X B W [st] t ms := ⟨pss_one h.ps, h.sem⟩
theorem vs_ret (h : VE X B W e te m) : VS X B W (.Return (some e) pos) (tRet te) (sRet m) := ⟨ps_ret h.pe, fun s th G σ H Dn R P => h.sem s th G σ H _ R (P.to fun d s' th' G' H' v l R' r P' => P'.rt0 R' r)⟩
theorem vs_retN : VS X B W (.Return none pos) tRetN sRetN := ⟨ps_retN, fun s th G σ H Dn R P => P.rt0 (v := V.non) R rfl⟩
theorem vs_break : VS X B W (.Break pos) tBreak sBk := ⟨ps_break, fun s th G σ H Dn R P => P th G H σ (Le.refl _ _ _) R⟩
theorem vs_cont : VS X B W (.Continue pos) tCont sCt := ⟨ps_continue, fun s th G σ H Dn R P => P th G H σ (Le.refl _ _ _) R⟩
theorem vs_pass : VS X B W (.Pass pos) tNext sNil := ⟨ps_pass, fun s th G σ H Dn R P => P.nx0 R⟩
theorem vs_doc {x : Str} {j : Nat} {pos' : Pos} : VS X B W (.Expr (.Constant (.str x) j pos) pos') tNext sNil := ⟨ps_doc, fun s th G σ H Dn R P => P.nx0 R⟩
theorem vs_expr (h : VE X B W e te m) (hs : swapsWith e none pos.line X.env = pure false := by rfl) : VS X B W (.Expr e pos) (tDrop te) (sDrop m) := ⟨ps_expr h.pe hs, fun s th G σ H Dn R P => h.sem s th G σ H _ R (P.to fun d s' th' G' H' v l R' r P' => P'.nx0 R')⟩
theorem vs_if (ht : VT X B W c tt mt) (ha : VSs X B W sts t ms) (hb : VSs X B W sts' u mr) : VS X B W (.If c sts sts' pos) (tIfS tt t u) (sIf mt ms mr) :=
  ⟨ps_if ht.pt ha.ps hb.ps, fun s th G σ H Dn R P => ht.sem s th G σ H _ R (P.to fun x s' th' G' H' v l R' r P' => by
    cases r
    cases x with
    | true => exact iteT (ha.sem s' th' G' σ H' Dn R' P')
    | false => exact iteF (hb.sem s' th' G' σ H' Dn R' P'))⟩
/-! targets -/
theorem vg_name {x : Str} (i : Nat) (hN : X.N.Nodup) (hi : X.N[i]? = some x := by rfl) (hx : Loc X.env.scope x := by first | exact Or.inl rfl | exact Or.inr rfl) (hf : X.fn x = true ∨ X.env.scope.names.lookup x = some .local := by first | exact .inl rfl | exact .inr rfl | assumption) : VG X B W (.Name x pos) (gName i) (gN i) :=
  ⟨pg_name hN hi hx hf, fun s th G σ H d v Q R h P => P.nx0 (R.sets h)⟩
theorem vgs_nil : VGs X B W [] gNil gsNil := ⟨pgs_nil, fun s th G σ H l vs Q R h P => by
  cases l with
  | nil => cases h; exact ⟨rfl, P.nx0 R⟩
  | cons _ _ => exact P.elim⟩
/-- a target ends with nx or not at all -/
def GOk (g : MG) : Prop := ∀ d s, (∃ s', g d s = .nx s') ∨ g d s = .no
def GsOk (g : List D → S → C) : Prop := ∀ d s, (∃ s', g d s = .nx s') ∨ g d s = .no
theorem gN_ok {i : Nat} : GOk (gN i) := fun d s => .inl ⟨_, rfl⟩
theorem gsNil_ok : GsOk gsNil := fun d s => by cases d <;> first | exact .inl ⟨_, rfl⟩ | exact .inr rfl
theorem gsCons_ok {g : MG} {r : List D → S → C} (h : GOk g) (k : GsOk r) : GsOk (gsCons g r) := fun d s => by
  cases d with
  | nil => exact .inr rfl
  | cons d l =>
    simp only [gsCons]
    rcases h d s with ⟨s', e⟩ | e
    · rw [e]; exact k l s'
    · rw [e]; exact .inr rfl
theorem gTupM_ok {g : List D → S → C} (h : GsOk g) : GOk (gTupM g) := fun d s => by
  cases d <;> first
    | exact h _ s
    | exact .inr rfl
theorem vgs_cons {ts : List Expr} {g : TG} {gs : TGs} {mg : MG} {mgs : List D → S → C} (h : VG X B W tg g mg) (k : VGs X B W ts gs mgs) (hg : GOk mg) (hs : (assignEach (tg :: ts) X.env).map (·.2) = assign tg X.env :: (assignEach ts X.env).map (·.2) := by rfl) :
    VGs X B W (tg :: ts) (gCons g gs) (gsCons mg mgs) := ⟨pgs_cons h.pg k.pg hs, fun s th G σ H l vs Q R r P => by
  cases l with
  | nil => exact P.elim
  | cons d l =>
    obtain ⟨v, vr, rfl, q, z⟩ := r
    exact ⟨v, vr, rfl, h.sem s th G σ H d v _ R q (PostS.g P (hg d s) fun s' th' G' H' σ' l' R' P' => k.sem s' th' G' σ' H' l vr Q R' (z.mono l'.pre l'.ex) P')⟩⟩
theorem gsCons_len {g : TGs} {es : List Expr} : True := trivial
theorem vg_tup {es : List Expr} {k n : Nat} {gs : TGs} {mgs : List D → S → C} (hc : X.calm = true) (h : VGs X B W es gs mgs) (hl : ∀ l s, l.length ≠ n → mgs l s = .no) (hn : (assignEach es X.env).length = n := by rfl) (hst : (assignEach es X.env).findIdx? (·.1) = none := by rfl) :
    VG X B W (.Tuple es k pos) (gTup X.K n gs) (gTupM mgs) := ⟨pg_tup hc h.pg hn hst, fun s th G σ H d v Q R r P => by
  cases d with
  | tup l =>
    obtain ⟨p, vs, rfl, q, z⟩ := r
    have hll : l.length = n := by
      by_cases hh : l.length = n
      · exact hh
      · simp only [gTupM] at P
        rw [hl l s hh] at P
        exact P.elim
    exact ⟨p, vs, rfl, R.eG.sqT q.sq, by rw [z.length]; exact hll, h.sem s th G σ H l vs Q R z P⟩
  | _ => exact P.elim⟩
theorem len_nil : ∀ l s, l.length ≠ 0 → gsNil l s = .no := fun l s h => by cases l <;> first | exact absurd rfl h | rfl
theorem len_cons {n : Nat} {g : MG} {r : List D → S → C} (hg : GOk g) (h : ∀ l s, l.length ≠ n → r l s = .no) : ∀ l s, l.length ≠ n + 1 → gsCons g r l s = .no := fun l s hl => by
  cases l with
  | nil => rfl
  | cons d l =>
    simp only [gsCons]
    rcases hg d s with ⟨s', e⟩ | e
    · rw [e]; exact h l s' (fun z => hl (by simp [z]))
    · rw [e]; rfl
theorem vs_set {x : Str} {pos' : Pos} (i : Nat) (hN : X.N.Nodup) (h : VE X B W e te m) (hs : swapsWith e (some (.Name x pos')) pos.line X.env = pure false := by rfl) (hi : X.N[i]? = some x := by rfl) (hx : Loc X.env.scope x := by first | exact Or.inl rfl | exact Or.inr rfl) (hf : X.fn x = true ∨ X.env.scope.names.lookup x = some .local := by first | exact .inl rfl | exact .inr rfl | assumption) :
    VS X B W (.Assign [.Name x pos'] e pos) (tAsg te (gName i)) (sAsg m (gN i)) := ⟨ps_set hN hi hx h.pe hs hf, fun s th G σ H Dn R P => h.sem s th G σ H _ R (P.to fun d s' th' G' H' v l R' r P' => P'.nx0 (R'.sets r))⟩
theorem vs_asg {g : TG} {mg : MG} (h : VE X B W e te m) (hg : VG X B W tg g mg) (hok : GOk mg) (hs : swapsWithSole [tg] e pos.line X.env = pure false := by rfl) (hw : swappedStores [tg] e X.env = pure none := by rfl)
    (h1 : (assignEach [tg] X.env).map (·.2) = [assign tg X.env] := by rfl) : VS X B W (.Assign [tg] e pos) (tAsg te g) (sAsg m mg) :=
  ⟨ps_asg h.pe hg.pg hs hw h1, fun s th G σ H Dn R P => h.sem s th G σ H _ R (P.to fun d s' th' G' H' v l R' r P' => hg.sem s' th' G' σ H' d v _ R' r (by
    rcases hok d s' with ⟨s2, e2⟩ | e2
    · rw [e2] at P' ⊢; exact P'
    · rw [e2] at P' ⊢; exact P'))⟩
end
end VL
namespace VL
open PySem L2

/-! ### what is walked -/
theorem PI.or {X : Cx} {tg e : Expr} {t u : TI} (h : PI X tg e t) (k : PI X tg e u) : PI X tg e (fun σ H R => t σ H R ∨ u σ H R) := ⟨fun pins s σ H Q I hw => by
  rcases hw with hw | hw
  · exact h.run pins s σ H Q I hw
  · exact k.run pins s σ H Q I hw⟩
def itD : D → Option (List D)
  | .lst l => some l
  | .tup l => some l
  | .scr l => some (l.map D.int)
  | .str x => some (x.map fun c => .str [c])
  | _ => none
def iSeqM (e : ME) : MA := fun s => (e s).bind fun d s => match itD d with
  | some l => .ok (l, s)
  | none => .no
def rng (lo : Int) (n : Nat) : List D := (List.range n).map fun i => .int (lo + (i : Nat))
def rngC (lo c : Int) (n : Nat) : List D := (List.range n).map fun i => .int (lo + (i : Nat) * c)
def okR (i : Int) : Bool := decide (-(2 ^ 62) ≤ i ∧ i < 2 ^ 62)
def iRg1M (a : MA) : MA := fun s => (a s).bind fun l s => match l with
  | [.int j] => if okR j then .ok (rng 0 j.toNat, s) else .no
  | _ => .no
def iRg2M (a : MA) : MA := fun s => (a s).bind fun l s => match l with
  | [.int i, .int j] => if okR i && okR j then .ok (rng i (j - i).toNat, s) else .no
  | _ => .no
/-- downwards by one -/
def iRg3M (a : MA) : MA := fun s => (a s).bind fun l s => match l with
  | [.int i, .int j, .int c] => if okR i && okR j && decide (c = -1) then .ok (rngC i (-1) (i - j).toNat, s) else .no
  | _ => .no
def pairs (l m : List D) : List D := List.zipWith (fun x y => .tup [x, y]) l m
def iZipM (a : MA) : MA := fun s => (a s).bind fun l s => match l with
  | [x, y] => match x, y with
    | .tup l, .tup m => if l.any isPr && m.any isPr then .no else .ok (pairs l m, s)
    | .lst l, .lst m => if l.any isPr && m.any isPr then .no else .ok (pairs l m, s)
    | _, _ => .no
  | _ => .no
section
variable {K : PySem.W.Frag} {B : Bs} {W : WX} {th : List Addr} {G H H0 : Hp} {s : S} {σ : St}
theorem relI_lst {a : Addr} {l : List D} {vs : List V} (q : ∀ th1 G1 H1, Le th G H th1 G1 H1 → Ex G1 H1 → SqL K H1 a vs) (r : AtL K th G l vs) : relI K H0 th G H l (Itl K a) := fun th1 G1 H1 i le ex => by
  have q1 := q th1 G1 H1 le ex
  refine ⟨fun hi => ⟨vs, q1, by rw [r.length]; exact hi⟩, fun d hd => ?_⟩
  obtain ⟨v, hv, hx⟩ := (r.mono le.pre le.ex).get hd
  refine ⟨⟨vs, v, q1, hv⟩, fun x H2 y => ?_⟩
  obtain ⟨rfl, y⟩ := y
  have := y vs q1
  rw [hv] at this; cases this
  exact ⟨G1, .inl ⟨rfl, rfl⟩, hx⟩
theorem relI_tup {a : Addr} {l : List D} {vs : List V} (q : ∀ th1 G1 H1, Le th G H th1 G1 H1 → Ex G1 H1 → SqT K H1 a vs) (r : AtL K th G l vs) : relI K H0 th G H l (Itt K a) := fun th1 G1 H1 i le ex => by
  have q1 := q th1 G1 H1 le ex
  refine ⟨fun hi => ⟨vs, q1, by rw [r.length]; exact hi⟩, fun d hd => ?_⟩
  obtain ⟨v, hv, hx⟩ := (r.mono le.pre le.ex).get hd
  refine ⟨⟨vs, v, q1, hv⟩, fun x H2 y => ?_⟩
  obtain ⟨rfl, y⟩ := y
  have := y vs q1
  rw [hv] at this; cases this
  exact ⟨G1, .inl ⟨rfl, rfl⟩, hx⟩
theorem relI_str {x : List Nat} : relI K H0 th G H (x.map fun c => D.str [c]) (Its ⟨x.toArray⟩) := fun th1 G1 H1 i le ex => by
  refine ⟨fun hi => by simpa [Its] using hi, fun d hd => ?_⟩
  rw [List.getElem?_map] at hd
  cases hc : x[i]? with
  | none => rw [hc] at hd; cases hd
  | some c =>
    rw [hc] at hd; cases hd
    have hlt : i < x.length := (List.getElem?_eq_some_iff.mp hc).1
    refine ⟨by simpa [Its] using hlt, fun v H2 y => ?_⟩
    obtain ⟨rfl, c', e, rfl⟩ := y
    simp [hc] at e
    subst e
    exact ⟨G1, .inl ⟨rfl, rfl⟩, rfl⟩
theorem relI_rng {lo : Int} {n : Nat} : relI K H0 th G H (rng lo n) (Itr lo n) := fun th1 G1 H1 i le ex => by
  refine ⟨fun hi => show n ≤ i by simpa [rng] using hi, fun d hd => ?_⟩
  have hlt : i < n := by
    have := (List.getElem?_eq_some_iff.mp hd).1
    simpa [rng] using this
  simp [rng, hlt] at hd
  subst hd
  refine ⟨hlt, fun v H2 y => ?_⟩
  obtain ⟨rfl, rfl⟩ := y
  exact ⟨G1, .inl ⟨rfl, rfl⟩, rfl⟩
theorem relI_rngC {lo c : Int} {n : Nat} : relI K H0 th G H (rngC lo c n) (Itc lo c n) := fun th1 G1 H1 i le ex => by
  refine ⟨fun hi => show n ≤ i by simpa [rngC] using hi, fun d hd => ?_⟩
  have hlt : i < n := by
    have := (List.getElem?_eq_some_iff.mp hd).1
    simpa [rngC] using this
  simp [rngC, hlt] at hd
  subst hd
  refine ⟨hlt, fun v H2 y => ?_⟩
  obtain ⟨rfl, rfl⟩ := y
  exact ⟨G1, .inl ⟨rfl, rfl⟩, rfl⟩
theorem pairs_get {l m : List D} {i : Nat} {d : D} (h : (pairs l m)[i]? = some d) : ∃ x y, l[i]? = some x ∧ m[i]? = some y ∧ d = .tup [x, y] := by
  unfold pairs at h
  rw [List.getElem?_zipWith] at h
  cases h1 : l[i]? with
  | none => rw [h1] at h; simp at h
  | some x =>
    cases h2 : m[i]? with
    | none => rw [h1, h2] at h; simp at h
    | some y =>
      rw [h1, h2] at h
      simp at h
      exact ⟨x, y, rfl, rfl, h.symm⟩
theorem at_pair {th1 : List Addr} {G1 H1 : Hp} {x y : D} {v w : V} {T : Addr} (hx : At K th1 G1 x v) (hy : At K th1 G1 y w) (hT : H1 T = none) (ex : Ex G1 H1) (hp : (isPr x && isPr y) = false) : At K th1 (upd G1 T (.tup [v, w])) (.tup [x, y]) (.ref T) :=
  have hn := ex.none_back hT
  ⟨T, [v, w], rfl, .odd (.inl (.inl upd_same)) (by simp only [prs, List.all_cons, List.all_nil, Bool.and_true]; exact hp), .cons (hx.mono List.prefix_rfl (Sub.new hn)) (.one (hy.mono List.prefix_rfl (Sub.new hn)))⟩
theorem no_prs {l m : List D} (h : (l.any isPr && m.any isPr) = false) {i : Nat} {x y : D} (hx : l[i]? = some x) (hy : m[i]? = some y) : (isPr x && isPr y) = false := by
  cases e1 : isPr x with
  | false => rfl
  | true =>
    cases e2 : isPr y with
    | false => rfl
    | true =>
      have q1 : l.any isPr = true := List.any_eq_true.mpr ⟨x, List.mem_of_getElem? hx, e1⟩
      have q2 : m.any isPr = true := List.any_eq_true.mpr ⟨y, List.mem_of_getElem? hy, e2⟩
      rw [q1, q2] at h; cases h
theorem relI_zipT {a b : Addr} {l m : List D} {vs ws : List V} (np : (l.any isPr && m.any isPr) = false) (q : ∀ th1 G1 H1, Le th G H th1 G1 H1 → Ex G1 H1 → SqT K H1 a vs ∧ SqT K H1 b ws) (r : AtL K th G l vs) (r2 : AtL K th G m ws) : relI K H0 th G H (pairs l m) (RZ.ItzT K a b) := fun th1 G1 H1 i le ex => by
  obtain ⟨q1, q2⟩ := q th1 G1 H1 le ex
  refine ⟨fun hi => ⟨vs, ws, q1, q2, ?_⟩, fun d hd => ?_⟩
  · rw [r.length, r2.length]
    simp [pairs] at hi; omega
  · obtain ⟨x, y, hx, hy, rfl⟩ := pairs_get hd
    have npx := no_prs np hx hy
    obtain ⟨v, hv, hx⟩ := (r.mono le.pre le.ex).get hx
    obtain ⟨w, hw, hy⟩ := (r2.mono le.pre le.ex).get hy
    refine ⟨⟨vs, ws, v, w, q1, q2, hv, hw⟩, fun z H2 y => ?_⟩
    obtain ⟨T, x', y', rfl, hT, rfl, f1, f2⟩ := y
    have e1 := f1 vs q1
    have e2 := f2 ws q2
    rw [hv] at e1; cases e1
    rw [hw] at e2; cases e2
    exact ⟨_, .inr ⟨T, _, hT, rfl, rfl⟩, at_pair hx hy hT ex npx⟩
theorem relI_zipL {a b : Addr} {l m : List D} {vs ws : List V} (np : (l.any isPr && m.any isPr) = false) (q : ∀ th1 G1 H1, Le th G H th1 G1 H1 → Ex G1 H1 → SqL K H1 a vs ∧ SqL K H1 b ws) (r : AtL K th G l vs) (r2 : AtL K th G m ws) : relI K H0 th G H (pairs l m) (Itz K a b) := fun th1 G1 H1 i le ex => by
  obtain ⟨q1, q2⟩ := q th1 G1 H1 le ex
  refine ⟨fun hi => ⟨vs, ws, q1, q2, ?_⟩, fun d hd => ?_⟩
  · rw [r.length, r2.length]
    simp [pairs] at hi; omega
  · obtain ⟨x, y, hx, hy, rfl⟩ := pairs_get hd
    have npx := no_prs np hx hy
    obtain ⟨v, hv, hx⟩ := (r.mono le.pre le.ex).get hx
    obtain ⟨w, hw, hy⟩ := (r2.mono le.pre le.ex).get hy
    refine ⟨⟨vs, ws, v, w, q1, q2, hv, hw⟩, fun z H2 y => ?_⟩
    obtain ⟨T, x', y', rfl, hT, rfl, f1, f2⟩ := y
    have e1 := f1 vs q1
    have e2 := f2 ws q2
    rw [hv] at e1; cases e1
    rw [hw] at e2; cases e2
    exact ⟨_, .inr ⟨T, _, hT, rfl, rfl⟩, at_pair hx hy hT ex npx⟩
theorem two_at {x y : D} {vs : List V} (h : AtL K th G [x, y] vs) : ∃ v w, vs = [v, w] ∧ At K th G x v ∧ At K th G y w := by
  obtain ⟨v, r, rfl, h1, w, r2, rfl, h2, rfl⟩ := h
  exact ⟨v, w, rfl, h1, h2⟩
end
def iSeqT (K : PySem.W.Frag) (te : TE) : TI := fun σ H R => iList K te σ H R ∨ (iTup K te σ H R ∨ iStr te σ H R)
section
variable {X : Cx} {B : Bs} {W : WX} {e a b tg : Expr} {te : TE} {ta : TA} {m : ME} {ma : MA} {p pos tpos : Pos}
theorem vi_seq (h : VE X B W e te m) : VI X B W tg e (iSeqT X.K te) (iSeqM m) := ⟨PI.or (pi_list h.pe) (PI.or (pi_tup h.pe) (pi_str h.pe)), fun s th G σ H Q R P => by
  have hS := h.sem s th G σ H
  unfold iSeqM at P
  cases hm : m s with
  | no => rw [hm] at P; exact P.elim
  | ex e s' => exact .inl (hS _ R (by rw [hm] at P ⊢; exact P))
  | ok x =>
    obtain ⟨d, s1⟩ := x
    rw [hm] at hS P
    simp only [VL.R.bind_ok] at P
    cases d with
    | lst l => exact .inl (hS _ R fun th1 G1 H1 v l1 R1 r => by
        obtain ⟨ad, vs, rfl, q, z⟩ := r
        exact ⟨ad, rfl, ⟨vs, .inl (.inl (R1.eG.lst q))⟩, P th1 G1 H1 _ l1 R1 (relI_lst (fun th2 G2 H2 l2 ex => .inl (.inl (ex.lst (l2.ex _ _ q)))) z)⟩)
    | scr l => exact .inl (hS _ R fun th1 G1 H1 v l1 R1 r => by
        obtain ⟨ad, rfl, q⟩ := r
        exact ⟨ad, rfl, ⟨_, R1.eG.sqL q⟩, P th1 G1 H1 _ l1 R1 (relI_lst (fun th2 G2 H2 l2 ex => ex.sqL (l2.ex.sqL q)) (atL_ints l))⟩)
    | tup l => exact .inr (.inl (hS _ R fun th1 G1 H1 v l1 R1 r => by
        obtain ⟨ad, vs, rfl, q, z⟩ := r
        exact ⟨ad, rfl, ⟨vs, R1.eG.sqT q.sq⟩, P th1 G1 H1 _ l1 R1 (relI_tup (fun th2 G2 H2 l2 ex => ex.sqT (l2.ex.sqT q.sq)) z)⟩))
    | str x => exact .inr (.inr (hS _ R fun th1 G1 H1 v l1 R1 r => by
        cases r
        exact ⟨_, rfl, P th1 G1 H1 _ l1 R1 relI_str⟩))
    | _ => exact P.elim⟩
theorem okR_iff {i : Int} (h : okR i = true) : -(2 ^ 62) ≤ i ∧ i < 2 ^ 62 := of_decide_eq_true h
theorem vi_range1 (hg : Gl X "range") (hm : X.mg "range" = none) (h : VA X B W [a] ta ma) (hs : starEach [a] X.env = [(false, eval a X.env)] := by rfl) : VI X B W tg (.Call (.Name "range" p) [a] [] pos) (iRng1 ta) (iRg1M ma) := ⟨pi_range1 hg hm h.pa hs, fun s th G σ H Q R P => h.sem s th G σ H _ R (P.bind0 fun l s1 th1 G1 H1 vs l1 R1 r P1 => by
  split at P1
  · rename_i j
    split at P1
    · rename_i hj
      obtain ⟨h1, h2⟩ := okR_iff hj
      obtain ⟨v, rfl, hv⟩ := r.one_of
      cases hv
      exact ⟨j, rfl, h1, h2, P1 th1 G1 H1 _ l1 R1 relI_rng⟩
    · exact P1.elim
  · exact P1.elim)⟩
theorem vi_range2 (hg : Gl X "range") (hm : X.mg "range" = none) (h : VA X B W [a, b] ta ma) (hs : starEach [a, b] X.env = [(false, eval a X.env), (false, eval b X.env)] := by rfl) (hs2 : starEach [b] X.env = [(false, eval b X.env)] := by rfl) : VI X B W tg (.Call (.Name "range" p) [a, b] [] pos) (iRng2 ta) (iRg2M ma) := ⟨pi_range2 hg hm h.pa hs hs2, fun s th G σ H Q R P => h.sem s th G σ H _ R (P.bind0 fun l s1 th1 G1 H1 vs l1 R1 r P1 => by
  split at P1
  · rename_i i j
    split at P1
    · rename_i hj
      simp only [Bool.and_eq_true] at hj
      obtain ⟨h1, h2⟩ := okR_iff hj.1
      obtain ⟨h3, h4⟩ := okR_iff hj.2
      obtain ⟨v, w, rfl, hv, hw⟩ := two_at r
      cases hv; cases hw
      exact ⟨i, j, rfl, ⟨h1, h2, h3, h4⟩, P1 th1 G1 H1 _ l1 R1 relI_rng⟩
    · exact P1.elim
  · exact P1.elim)⟩
theorem vi_range3 {c : Expr} (hg : Gl X "range") (hm : X.mg "range" = none) (h : VA X B W [a, b, c] ta ma) (hs : starEach [a, b, c] X.env = (false, eval a X.env) :: starEach [b, c] X.env := by rfl) (hpl : (backTo pos (starEach [b, c] X.env)).any (·.1) = false := by rfl) : VI X B W tg (.Call (.Name "range" p) [a, b, c] [] pos) (iRng3 ta) (iRg3M ma) := ⟨pi_range3 hg hm h.pa hs hpl, fun s th G σ H Q R P => h.sem s th G σ H _ R (P.bind0 fun l s1 th1 G1 H1 vs l1 R1 r P1 => by
  split at P1
  · rename_i i j c
    split at P1
    · rename_i hj
      simp only [Bool.and_eq_true, decide_eq_true_eq] at hj
      obtain ⟨⟨hj1, hj2⟩, rfl⟩ := hj
      obtain ⟨h1, h2⟩ := okR_iff hj1
      obtain ⟨h3, h4⟩ := okR_iff hj2
      obtain ⟨v, r, rfl, hv, hr⟩ := r
      obtain ⟨w, u, rfl, hw, hu⟩ := two_at hr
      cases hv; cases hw; cases hu
      exact ⟨i, j, -1, _, rfl, RgC.neg h1 h2 h3 h4, P1 th1 G1 H1 _ l1 R1 relI_rngC⟩
    · exact P1.elim
  · exact P1.elim)⟩
theorem vi_zip {elts : List Expr} {kk : Nat} (hg : Gl X "zip") (hm : X.mg "zip" = none) (h : VA X B W [a, b] ta ma) (hs : starEach [a, b] X.env = (false, eval a X.env) :: starEach [b] X.env := by rfl) (hpl : (backTo pos (starEach [b] X.env)).any (·.1) = false := by rfl) :
    VI X B W (.Tuple elts kk tpos) (.Call (.Name "zip" p) [a, b] [] pos) (RZ.iZipA X.K ta) (iZipM ma) := ⟨RZ.pi_zipA hg hm h.pa hs hpl, fun s th G σ H Q R P => h.sem s th G σ H _ R (P.bind0 fun l s1 th1 G1 H1 vs l1 R1 r P1 => by
  split at P1
  · rename_i x y
    obtain ⟨v, w, rfl, hv, hw⟩ := two_at r
    split at P1
    · split at P1
      · exact P1.elim
      rename_i hnp
      have hnp := Bool.not_eq_true _ ▸ hnp
      obtain ⟨a1, v1, rfl, q1, z1⟩ := hv
      obtain ⟨a2, v2, rfl, q2, z2⟩ := hw
      exact ⟨a1, a2, v1, v2, rfl, .inr ⟨R1.eG.sqT q1.sq, R1.eG.sqT q2.sq, P1 th1 G1 H1 _ l1 R1 (relI_zipT hnp (fun th2 G2 H2 l2 ex => ⟨ex.sqT (l2.ex.sqT q1.sq), ex.sqT (l2.ex.sqT q2.sq)⟩) z1 z2)⟩⟩
    · split at P1
      · exact P1.elim
      rename_i hnp
      have hnp := Bool.not_eq_true _ ▸ hnp
      obtain ⟨a1, v1, rfl, q1, z1⟩ := hv
      obtain ⟨a2, v2, rfl, q2, z2⟩ := hw
      exact ⟨a1, a2, v1, v2, rfl, .inl ⟨.inl (.inl (R1.eG.lst q1)), .inl (.inl (R1.eG.lst q2)), P1 th1 G1 H1 _ l1 R1 (relI_zipL hnp (fun th2 G2 H2 l2 ex => ⟨.inl (.inl (ex.lst (l2.ex _ _ q1))), .inl (.inl (ex.lst (l2.ex _ _ q2)))⟩) z1 z2)⟩⟩
    · exact P1.elim
  · exact P1.elim)⟩
end

/-! ### for, while -/
def C.loop (x : C) (k : S → C) : C := match x with
  | .nx s => k s
  | .ct s => k s
  | .bk s => .nx s
  | c => c
@[simp] theorem C.loop_nx (s : S) (k : S → C) : C.loop (.nx s) k = k s := id rfl
@[simp] theorem C.loop_ct (s : S) (k : S → C) : C.loop (.ct s) k = k s := id rfl
@[simp] theorem C.loop_bk (s : S) (k : S → C) : C.loop (.bk s) k = .nx s := id rfl
@[simp] theorem C.loop_rt (d : D) (s : S) (k : S → C) : C.loop (.rt d s) k = .rt d s := id rfl
@[simp] theorem C.loop_ex (e : Exn) (s : S) (k : S → C) : C.loop (.ex e s) k = .ex e s := id rfl
@[simp] theorem C.loop_no (k : S → C) : C.loop .no k = .no := id rfl
def forL (g : MG) (b : MS) : List D → MS
  | [] => fun s => .nx s
  | d :: l => fun s => (g d s).seq fun s => (b s).loop fun s => forL g b l s
def sFor (it : MA) (g : MG) (b : MS) : MS := fun s => (it s).to fun l s => forL g b l s
def whileN (t : MT) (b : MS) : Nat → MS
  | 0 => fun _ => .no
  | n + 1 => fun s => (t s).to fun x s => if x = true then (b s).loop fun s => whileN t b n s else .nx s
def sWhile (n : Nat) (t : MT) (b : MS) : MS := fun s => whileN t b n s
section
variable {K : PySem.W.Frag} {B : Bs} {W : WX} {th th0 : List Addr} {G H G0 H0 Hs : Hp} {s : S} {σ : St}
theorem PostS.loop {x : C} {k : S → C} {Dn : Ends} {N : St → Hp → Prop} (P : PostS K B W th G H (x.loop k) Dn)
    (h : ∀ s' th' G' H' σ', Le th G H th' G' H' → Rep K B th' G' s' σ' H' → PostS K B W th' G' H' (k s') Dn → N σ' H') : PostS K B W th G H x { Dn with nx := N, ct := N, bk := Dn.nx } := by
  cases x with
  | nx s => exact fun th' G' H' σ' l R => h s th' G' H' σ' l R (PostS.later l P)
  | ct s => exact fun th' G' H' σ' l R => h s th' G' H' σ' l R (PostS.later l P)
  | _ => exact P
theorem for_core {J : It} {g : TG} {tb : TS} {mg : MG} {mb : MS} {l : List D} {Dn : Ends} (hg : SemG K B W g mg) (hok : GOk mg) (hb : SemS K B W tb mb) (rI : relI K Hs th0 G0 H0 l J) (le0 : Le th0 G0 H0 th G H) (R0 : Rep K B th G s σ H) (P0 : PostS K B W th G H (forL mg mb l s) Dn) :
    ∃ W : Nat → Nat → St → Hp → Prop, (∃ m, W 0 m σ H) ∧ ∀ i m σ H, W i m σ H →
      (J.stop i H ∧ Dn.nx σ H) ∨ (J.go i H ∧ ∃ N : St → Hp → Prop, (∀ σ' H', N σ' H' → ∃ m', m' < m ∧ W (i + 1) m' σ' H') ∧ ∀ x H', J.yld i H x H' → g x σ H' fun σ2 H2 => tb { Dn with nx := N, ct := N, bk := Dn.nx } σ2 H2) := by
  refine ⟨fun i m σ H => i ≤ l.length ∧ m = l.length - i ∧ ∃ th G s, Le th0 G0 H0 th G H ∧ Rep K B th G s σ H ∧ PostS K B W th G H (forL mg mb (l.drop i) s) Dn, ⟨l.length, Nat.zero_le _, rfl, th, G, s, le0, R0, P0⟩, ?_⟩
  rintro i m σ H ⟨hi, rfl, th, G, s, le, R, P⟩
  by_cases hlt : i < l.length
  · have hdr : l.drop i = l[i] :: l.drop (i + 1) := List.drop_eq_getElem_cons hlt
    rw [hdr] at P
    obtain ⟨_, hgo⟩ := rI th G H i le R.eG
    obtain ⟨go, hy⟩ := hgo l[i] (List.getElem?_eq_getElem hlt)
    refine .inr ⟨go, fun σ' H' => (i + 1) ≤ l.length ∧ ∃ th G s, Le th0 G0 H0 th G H' ∧ Rep K B th G s σ' H' ∧ PostS K B W th G H' (forL mg mb (l.drop (i + 1)) s) Dn, fun σ' H' q => ⟨l.length - (i + 1), by omega, q.1, rfl, q.2⟩, fun x H' y => ?_⟩
    obtain ⟨G2, hG, hx⟩ := hy x H' y
    have key : Le th G H th G2 H' ∧ Rep K B th G2 s σ H' := by
      rcases hG with ⟨rfl, rfl⟩ | ⟨p, o, hp, rfl, rfl⟩
      · exact ⟨Le.refl _ _ _, R⟩
      · exact ⟨Le.new hp R.eG, R.frz hp o⟩
    obtain ⟨l2, R2⟩ := key
    have P2 := PostS.later l2 P
    exact hg s th G2 σ H' l[i] x _ R2 hx (PostS.g P2 (hok _ _) fun s' th' G' H'' σ' l' R' P' => hb s' th' G' σ' H'' _ R' (PostS.loop P' fun s'' th'' G'' H3 σ'' l'' R'' P'' => ⟨hlt, th'', G'', s'', le.trans (l2.trans (l'.trans l'')), R'', P''⟩))
  · have e : i = l.length := by omega
    subst e
    rw [List.drop_length] at P
    exact .inl ⟨(rI th G H _ le R.eG).1 (Nat.le_refl _), P.nx0 R⟩
end
section
variable {X : Cx} {B : Bs} {W : WX} {e c tg : Expr} {pos : Pos} {body : List Stmt} {tb : TS} {mb : MS} {tt : TT} {mt : MT} {g : TG} {mg : MG} {wi : TI} {mi : MA}
theorem vs_for (hp : PassesOwn (model X.prog X.w) X.A X.env X.xe) (hc : X.calm = true) (hi : VI X B W tg e wi mi) (hg : VG X B W tg g mg) (hok : GOk mg) (hb : VSs X B W body tb mb) (hs : ∀ x, foldedSetIterable e X.env x = pure x := by intro _; rfl) :
    VS X B W (.For tg e body [] pos) (tFor wi g tb) (sFor mi mg mb) := ⟨ps_for hp hc hi.pi hg.pg hb.ps hs, fun s th G σ H Dn R P => hi.sem s th G σ H _ R (P.to fun l s' th' G' H' J l' R' r P' => for_core hg.sem hok hb.sem r (Le.refl _ _ _) R' P')⟩
theorem vs_while (n : Nat) (hp : PassesOwn (model X.prog X.w) X.A X.env X.xe) (hc : VT X B W c tt mt) (hb : VSs X B W body tb mb) : VS X B W (.While c body [] pos) (tWhile tt tb) (sWhile n mt mb) := ⟨ps_while hp hc.pt hb.ps, fun s th G σ H Dn R P => by
  refine ⟨fun m σ H => ∃ th G s, Rep X.K B th G s σ H ∧ PostS X.K B W th G H (whileN mt mb m s) Dn, ⟨n, th, G, s, R, P⟩, ?_⟩
  rintro m σ H ⟨th, G, s, R, P⟩
  cases m with
  | zero => exact P.elim
  | succ m =>
    refine hc.sem s th G σ H _ R (PostS.to P fun x s' th' G' H' v l' R' r P' => ?_)
    cases r
    cases x with
    | false => exact iteF (PostS.nx0 P' R')
    | true =>
      refine iteT ⟨fun σ' H' => ∃ th G s, Rep X.K B th G s σ' H' ∧ PostS X.K B W th G H' (whileN mt mb m s) Dn, fun σ' H' q => ⟨m, Nat.lt_succ_self _, q⟩, ?_⟩
      exact hb.sem s' th' G' σ H' _ R' (PostS.loop P' fun s'' th'' G'' H3 σ'' l'' R'' P'' => ⟨th'', G'', s'', R'', P''⟩)⟩
end
end VL
namespace VL
open PySem L2

/-! ### comprehensions -/
def wipeD (r : List (Option D)) : List Nat → List (Option D)
  | [] => r
  | v :: vs => (wipeD r vs).set v none
theorem wipeD_length (r : List (Option D)) : ∀ vs : List Nat, (wipeD r vs).length = r.length
  | [] => rfl
  | v :: vs => by unfold wipeD; rw [List.length_set, wipeD_length r vs]
theorem wipeD_some {r : List (Option D)} {i : Nat} {x : D} : ∀ {vs : List Nat}, (wipeD r vs)[i]? = some (some x) → r[i]? = some (some x) ∧ i ∉ vs
  | [], h => ⟨h, by simp⟩
  | v :: vs, h => by
    unfold wipeD at h
    by_cases hi : v = i
    · subst hi
      by_cases hv : v < (wipeD r vs).length
      · rw [List.getElem?_set_self hv] at h; cases h
      · rw [List.getElem?_eq_none (by simpa using hv)] at h; cases h
    · rw [List.getElem?_set_ne hi] at h
      obtain ⟨h1, h2⟩ := wipeD_some h
      exact ⟨h1, by simp only [List.mem_cons, not_or]; exact ⟨fun e => hi e.symm, h2⟩⟩
theorem wipe_in {σ : St} {i : Nat} : ∀ {vs : List Nat}, i ∈ vs → (wipe σ vs)[i]? = (σ[i]?).map fun _ => none
  | v :: vs, h => by
    unfold wipe
    by_cases hi : v = i
    · subst hi
      by_cases hv : v < σ.length
      · rw [List.getElem?_set_self (by rw [wipe_length]; exact hv), List.getElem?_eq_getElem hv]; rfl
      · have h0 : σ[v]? = none := List.getElem?_eq_none (by omega)
        rw [h0, List.getElem?_eq_none (by rw [List.length_set, wipe_length]; omega)]; rfl
    · rw [List.getElem?_set_ne hi]
      rcases List.mem_cons.mp h with e | h
      · exact absurd e.symm hi
      · exact wipe_in h
theorem wipe_set {σ : St} {i : Nat} {vs : List Nat} {x : Option V} (h : i ∈ vs) : wipe (σ.set i x) vs = wipe σ vs := by
  apply List.ext_getElem?
  intro j
  by_cases hj : j ∈ vs
  · rw [wipe_in hj, wipe_in hj]
    by_cases e : i = j
    · subst e
      by_cases hl : i < σ.length
      · rw [List.getElem?_set_self hl, List.getElem?_eq_getElem hl]; rfl
      · rw [List.getElem?_eq_none (by simpa using hl), List.getElem?_eq_none (by simpa using hl)]
    · rw [List.getElem?_set_ne e]
  · rw [wipe_out hj, wipe_out hj, List.getElem?_set_ne (fun e => hj (by rw [← e]; exact h))]
theorem wipe_wipe {σ : St} {vs : List Nat} : wipe (wipe σ vs) vs = wipe σ vs := by
  apply List.ext_getElem?
  intro j
  by_cases hj : j ∈ vs
  · rw [wipe_in hj, wipe_in hj]
    cases σ[j]? <;> rfl
  · rw [wipe_out hj]
/-- a target that stores within vs -/
def GIn (g : TG) (vs : List Nat) : Prop := ∀ x σ H Q, g x σ H Q → g x σ H fun σ2 H2 => Q σ2 H2 ∧ wipe σ2 vs = wipe σ vs
def GsIn (g : TGs) (vs : List Nat) : Prop := ∀ x σ H Q, g x σ H Q → g x σ H fun σ2 H2 => Q σ2 H2 ∧ wipe σ2 vs = wipe σ vs
theorem gin_name {i : Nat} {vs : List Nat} (h : i ∈ vs := by decide) : GIn (gName i) vs := fun x σ H Q q => ⟨q, wipe_set h⟩
theorem gin_nil {vs : List Nat} : GsIn gNil vs := fun x σ H Q q => ⟨q.1, q.2, rfl⟩
theorem gin_cons {g : TG} {gs : TGs} {vs : List Nat} (h : GIn g vs) (k : GsIn gs vs) (hm : ∀ x σ H (Q Q' : St → Hp → Prop), (∀ a b, Q a b → Q' a b) → g x σ H Q → g x σ H Q') (km : ∀ x σ H (Q Q' : St → Hp → Prop), (∀ a b, Q a b → Q' a b) → gs x σ H Q → gs x σ H Q') : GsIn (gCons g gs) vs := fun x σ H Q q => by
  obtain ⟨v, r, rfl, q⟩ := q
  refine ⟨v, r, rfl, hm _ _ _ _ _ (fun σ1 H1 ⟨q1, e1⟩ => km _ _ _ _ _ (fun σ2 H2 ⟨q2, e2⟩ => ⟨q2, e2.trans e1⟩) (k _ _ _ _ q1)) (h _ _ _ _ q)⟩
def GMono (g : TG) : Prop := ∀ x σ H (Q Q' : St → Hp → Prop), (∀ a b, Q a b → Q' a b) → g x σ H Q → g x σ H Q'
def GsMono (g : TGs) : Prop := ∀ x σ H (Q Q' : St → Hp → Prop), (∀ a b, Q a b → Q' a b) → g x σ H Q → g x σ H Q'
theorem gmono_name {i : Nat} : GMono (gName i) := fun x σ H Q Q' k q => k _ _ q
theorem gmono_nil : GsMono gNil := fun x σ H Q Q' k q => ⟨q.1, k _ _ q.2⟩
theorem gmono_cons {g : TG} {gs : TGs} (h : GMono g) (k : GsMono gs) : GsMono (gCons g gs) := fun x σ H Q Q' kk q => by
  obtain ⟨v, r, rfl, q⟩ := q
  exact ⟨v, r, rfl, h _ _ _ _ _ (fun _ _ q1 => k _ _ _ _ _ kk q1) q⟩
theorem gmono_tup {K : PySem.W.Frag} {n : Nat} {gs : TGs} (k : GsMono gs) : GMono (gTup K n gs) := fun x σ H Q Q' kk q => by
  obtain ⟨a, xs, rfl, q1, q2, q⟩ := q
  exact ⟨a, xs, rfl, q1, q2, k _ _ _ _ _ kk q⟩
theorem gin_tup {K : PySem.W.Frag} {n : Nat} {gs : TGs} {vs : List Nat} (k : GsIn gs vs) : GIn (gTup K n gs) vs := fun x σ H Q q => by
  obtain ⟨a, xs, rfl, q1, q2, q⟩ := q
  exact ⟨a, xs, rfl, q1, q2, k _ _ _ _ q⟩

def Wf : WX := fun _ _ _ _ => False
structure VTs (X : Cx) (B : Bs) (W : WX) (ifs : List Expr) (t : TT) (m : MT) : Prop where
  pt : PTs X ifs t
  sem : Sem X.K B W relT t m
def tYesM : MT := fun s => .ok (true, s)
def lcL (g : MG) (t : MT) (e : ME) (vs : List Nat) (r0 : List (Option D)) : List D → List D → S → R (List D × S)
  | [], acc, s => .ok (acc, s)
  | d :: l, acc, s => match g d { s with r := wipeD r0 vs } with
    | .nx s1 => match t s1 with
      | .ok (b, s2) => if b = true then match e s2 with
          | .ok (y, s3) => if acc.length < SZ then lcL g t e vs r0 l (acc ++ [y]) { s3 with r := r0 } else .no
          | _ => .no
        else lcL g t e vs r0 l acc { s2 with r := r0 }
      | _ => .no
    | _ => .no
def fLc (it : MA) (g : MG) (t : MT) (e : ME) (vs : List Nat) : MF := fun s => (it s).bind fun l s => (lcL g t e vs s.r l [] s).bind fun acc s => .ok (.lst acc, s)
section
variable {K : PySem.W.Frag} {B : Bs} {W : WX} {th th0 th1 : List Addr} {G H G0 H0 G1 H1 : Hp} {s s0 : S} {σ σ2 : St}
theorem Rep.wipe (R : Rep K B th G s σ H) (vs : List Nat) : Rep K B th G { s with r := wipeD s.r vs } (L2.wipe σ vs) H := R.slots (by rw [wipeD_length, wipe_length]; exact R.len) fun i d e => by
  obtain ⟨e1, e2⟩ := wipeD_some e
  rw [wipe_out e2]
  exact R.slot i d e1
theorem Rep.back (R : Rep K B th G s σ2 H) (R0 : Rep K B th0 G0 s0 σ H0) (l : Le th0 G0 H1 th G G1) : Rep K B th G { s with r := s0.r } σ H := R.slots R0.len fun i d e => by
  obtain ⟨v, h1, h2⟩ := R0.slot i d e
  exact ⟨v, h1, h2.mono l.pre l.ex⟩
theorem Le.aside {t t' : List Addr} {G G' H H' : Hp} (l : Le t G H t' G' H') {p : Addr} {o : HO} (hp : H p = none) : Le t G H t' G' (upd H' p o) := ⟨l.pre, l.ex, fun a u e g n => by
  have hne : a ≠ p := ne_none (some_ne e) hp
  rw [upd_ne hne]
  exact l.fr a u e g n⟩
theorem sem_lc {wi : TI} {g : TG} {tt : TT} {te : TE} {vs : List Nat} {mi : MA} {mg : MG} {mt : MT} {me : ME} (hi : Sem K B W (relI K) wi mi) (hg : SemG K B Wf g mg) (ht : Sem K B Wf relT tt mt) (he : Sem K B Wf (relE K) te me) (hin : GIn g vs) (hmono : GMono g) :
    Sem K B W (relF K) (tLc wi g tt te vs) (fLc mi mg mt me vs) := fun s th G σ H Q R P => by
  refine hi s th G σ H _ R (P.bind0 fun l s1 th1 G1 H1 J l1 R1 rI P1 => fun D hD => ?_)
  have hGD : G1 D = none := R1.gnone hD
  have hHD : H D = none := l1.none_back R1.eG R1.al hD
  have hTD : D ∉ th1 := R1.thne hD
  refine ⟨fun i m H' => i ≤ l.length ∧ m = l.length - i ∧ ∃ th' G' s' acc xs, Le th1 G1 H1 th' G' H' ∧ Rep K B th' G' s' σ H' ∧ s'.r = s1.r ∧ H' D = some (.lst xs) ∧ AtL K th' G' acc xs ∧ D ∉ th' ∧ G' D = none ∧
    Post K B W σ th G H (relF K) ((lcL mg mt me vs s1.r (l.drop i) acc s').bind fun acc s => .ok (.lst acc, s)) Q,
    ⟨l.length, Nat.zero_le _, rfl, th1, G1, s1, [], [], (Le.refl _ _ _).aside hD, R1.side (.lst []) hGD hTD (R1.tbnew hD), rfl, upd_same, rfl, hTD, hGD, P1⟩, ?_⟩
  rintro i m H2 ⟨hi, rfl, th2, G2, s2, acc, xs, l2, R2, hr, hx, hacc, hTD2, hGD2, P2⟩
  by_cases hlt : i < l.length
  · have hdr : l.drop i = l[i] :: l.drop (i + 1) := List.drop_eq_getElem_cons hlt
    rw [hdr] at P2
    obtain ⟨_, hgo⟩ := rI th2 G2 H2 i l2 R2.eG
    obtain ⟨go, hy⟩ := hgo l[i] (List.getElem?_eq_getElem hlt)
    refine .inr ⟨go, fun H' => (i + 1) ≤ l.length ∧ ∃ th' G' s' acc xs, Le th1 G1 H1 th' G' H' ∧ Rep K B th' G' s' σ H' ∧ s'.r = s1.r ∧ H' D = some (.lst xs) ∧ AtL K th' G' acc xs ∧ D ∉ th' ∧ G' D = none ∧
      Post K B W σ th G H (relF K) ((lcL mg mt me vs s1.r (l.drop (i + 1)) acc s').bind fun acc s => .ok (.lst acc, s)) Q, fun H' q => ⟨l.length - (i + 1), by omega, q.1, rfl, q.2⟩, fun x H3 y => ?_⟩
    obtain ⟨G3, hG, hxx⟩ := hy x H3 y
    have key : Le th2 G2 H2 th2 G3 H3 ∧ Rep K B th2 G3 s2 σ H3 := by
      rcases hG with ⟨rfl, rfl⟩ | ⟨p, o, hp, rfl, rfl⟩
      · exact ⟨Le.refl _ _ _, R2⟩
      · exact ⟨Le.new hp R2.eG, R2.frz hp o⟩
    obtain ⟨l3, R3⟩ := key
    -- what D keeps
    have keep : ∀ {th' G' H'}, Le th2 G2 H2 th' G' H' → H' D = some (.lst xs) ∧ D ∉ th' ∧ G' D = none := fun {th' G' H'} le => by
      obtain ⟨h1, h2, h3⟩ := le.fr D _ hx hGD2 hTD2
      exact ⟨h1, h3, h2⟩
    have R3w := R3.wipe vs
    rw [hr] at R3w
    simp only [lcL] at P2
    cases hmg : mg l[i] { s2 with r := wipeD s1.r vs } with
    | nx sA =>
      rw [hmg] at P2
      dsimp only at P2
      refine hmono _ _ _ _ _ ?_ (hin _ _ _ _ (hg _ th2 G3 _ H3 l[i] x (fun σ' H' => ∃ b c, Le th2 G3 H3 b c H' ∧ Rep K B b c sA σ' H') R3w hxx (by rw [hmg]; exact fun th' G' H' σ' le R => ⟨th', G', le, R⟩)))
      rintro σ4 H4 ⟨⟨th4, G4, l4, R4⟩, hw⟩
      rw [wipe_wipe] at hw
      refine ⟨hw, ht sA th4 G4 σ4 H4 _ R4 ?_⟩
      cases hmt : mt sA with
      | ok q =>
        obtain ⟨b, sB⟩ := q
        rw [hmt] at P2
        rintro th5 G5 H5 b' l5 R5 rfl
        dsimp only at P2
        cases b' with
        | false =>
          refine iteF ?_
          have le := l3.trans (l4.trans l5)
          obtain ⟨k1, k2, k3⟩ := keep le
          exact ⟨hlt, th5, G5, _, acc, xs, l2.trans le, R5.back R1 (l2.trans le), rfl, k1, hacc.mono le.pre le.ex, k2, k3, P2⟩
        | true =>
          refine iteT (he sB th5 G5 σ4 H5 _ R5 ?_)
          simp only [if_true] at P2
          cases hme : me sB with
          | ok q =>
            obtain ⟨y, sC⟩ := q
            rw [hme] at P2
            dsimp only at P2
            by_cases hz : acc.length < SZ
            · rw [if_pos hz] at P2
              intro th6 G6 H6 v l6 R6 hv
              have le := l3.trans (l4.trans (l5.trans l6))
              obtain ⟨k1, k2, k3⟩ := keep le
              have hacc' := hacc.mono le.pre le.ex
              refine ⟨xs, k1, by rw [hacc'.length, SZ_eq]; exact hz, hlt, th6, G6, { r := s1.r, m := sC.m }, acc ++ [y], xs ++ [v], ?_, ?_, rfl, upd_same, hacc'.append (.one hv), k2, k3, P2⟩
              · exact (l2.trans le).aside hD
              · exact (R6.back R1 (l2.trans le)).side _ k3 k2 (R6.tbne k1 fun _ z => nomatch z)
            · rw [if_neg hz] at P2; exact P2.elim
          | _ => rw [hme] at P2; exact P2.elim
      | _ => rw [hmt] at P2; exact P2.elim
    | _ => rw [hmg] at P2; exact P2.elim
  · have e : i = l.length := by omega
    subst e
    rw [List.drop_length] at P2
    refine .inl ⟨(rI th2 G2 H2 _ l2 R2.eG).1 (Nat.le_refl _), ?_⟩
    exact P2 th2 G2 H2 (.ref D) (l1.trans l2) R2 ⟨D, rfl, (fun z => nomatch z), ⟨hGD2, xs, hx, hacc⟩, hTD2, hHD⟩
end
section
variable {X : Cx} {B : Bs} {W : WX} {c : Expr} {tt : TT} {mt : MT}
theorem vts_nil : VTs X B W [] tYes tYesM := ⟨pts_nil, fun s th G σ H Q R P => Post.ok (rel := relT) P R rfl⟩
theorem vts_one (h : VT X B W c tt mt) : VTs X B W [c] tt mt := ⟨pts_one h.pt, h.sem⟩
variable {elt tg iter : Expr} {ifs : List Expr} {scope : Scope} {own : List (Str × Nat)} {pos : Pos} {wi : TI} {g : TG} {te : TE} {mi : MA} {mg : MG} {me : ME}
theorem vf_lc (hc : X.calm = true) (hN : X.N.Nodup) (hi : VI X B W tg iter wi mi) (ok : BlkOk X.N X.env.scope scope own)
    (hg : ∀ (s : Shared) (H : Hp) (C : Addr) (cl : List (Str × Addr)) (fp : List Addr), VG (X.blk s H scope (compEnvC scope cl C X.env) fp) B Wf tg g mg) (hin : GIn g (own.map (·.2))) (hmono : GMono g)
    (ht : ∀ (s : Shared) (H : Hp) (C : Addr) (cl : List (Str × Addr)) (fp : List Addr), VTs (X.blk s H scope (compEnvC scope cl C X.env) fp) B Wf ifs tt mt)
    (he : ∀ (s : Shared) (H : Hp) (C : Addr) (cl : List (Str × Addr)) (fp : List Addr), VE (X.blk s H scope (compEnvC scope cl C X.env) fp) B Wf elt te me) (s0 : Shared) (hs : ∀ x, foldedSetIterable iter X.env x = pure x := by intro _; rfl) :
    VF X B W (.ListComp elt [⟨tg, iter, ifs, 0⟩] scope pos) (tLc wi g tt te (own.map (·.2))) (fLc mi mg mt me (own.map (·.2))) :=
  ⟨pe_lc hc hN hi.pi ok (fun s H C cl fp => (hg s H C cl fp).pg) (fun s H C cl fp => (ht s H C cl fp).pt) (fun s H C cl fp => (he s H C cl fp).pe) hs,
    sem_lc hi.sem (hg s0 (fun _ => none) 0 [] []).sem (ht s0 (fun _ => none) 0 [] []).sem (he s0 (fun _ => none) 0 [] []).sem hin hmono⟩
end
end VL
namespace VL
open PySem L2

section
variable {K : PySem.W.Frag} {B : Bs} {W : WX} {α β γ δ : Type} {th th0 th1 : List Addr} {G H G0 H0 G1 H1 : Hp} {s s0 : S} {σ σ2 : St}
/-- .. behind a step aside -/
theorem Post.bind1 {rel : Rel α β} {rel3 : Rel γ δ} {x : R (α × S)} {k : α → S → R (γ × S)} {Q : δ → Hp → Prop} {Q2 : β → Hp → Prop} (le : Le th G H th1 G1 H1) (P : Post K B W σ th G H rel3 (x.bind k) Q)
    (h : ∀ a s' th' G' H' b, Le th1 G1 H1 th' G' H' → Rep K B th' G' s' σ H' → rel H1 th' G' H' a b → Post K B W σ th G H rel3 (k a s') Q → Q2 b H') : Post K B W σ th1 G1 H1 rel x Q2 := by
  cases x with
  | ok a => obtain ⟨a, s⟩ := a; exact fun th' G' H' b l R r => h a s th' G' H' b l R r P
  | ex e s => exact fun th' G' H' cls d l R r => P th' G' H' cls d (le.trans l) R r
  | no => exact P
theorem obAt_dct {a : Addr} {l : List (Key × D)} {kvs : List (Key × V)} (hg : G a = none) (h : H a = some (.dK kvs)) (r : AtK K th G l kvs) : ObAt K th G H a (.dct l) := ⟨hg, kvs, h, r.1, r.2⟩
theorem Rep.asideNew (R : Rep K B th G s σ H) {p : Addr} (o : HO) (hp : H p = none) : Rep K B th G s σ (upd H p o) := R.side o (R.gnone hp) (R.thne hp) (R.tbnew hp)
end
/-! ### new dicts -/
def fDctN : MF := fun s => .ok (.dct [], s)
def fDct1 (k v : ME) : MF := fun s => (k s).bind fun x s => (v s).bind fun y s => match keyOf x with
  | some k => .ok (.dct [(k, y)], s)
  | none => .no
section
variable {X : Cx} {B : Bs} {W : WX} {e k v o i a tg : Expr} {te tk tv to ti : TE} {ta : TA} {m mk mv mo mi : ME} {ma : MA} {p pos tpos apos cpos : Pos}
theorem vf_dctN : VF X B W (.Dict [] [] pos) tDNewK fDctN := ⟨pe_dnewK, fun s th G σ H Q R P p hp => by
  exact P th G _ _ ((Le.refl th G H).aside hp) (R.asideNew _ hp) ⟨p, rfl, (fun z => nomatch z), obAt_dct (R.gnone hp) upd_same .nil, R.thne hp, hp⟩⟩
theorem vf_dct1 (hk : VE X B W k tk mk) (hv : VE X B W v tv mv) : VF X B W (.Dict [some k] [v] pos) (tDisp [(tk, tv)]) (fDct1 mk mv) := ⟨pe_disp (pps_cons hk.pe hv.pe pps_nil) rfl rfl (by simp) (by simp), fun s th G σ H Q R P p hp => by
  have hle : Le th G H th G (upd H p (.dK [])) := (Le.refl th G H).aside hp
  refine hk.sem s th G σ _ _ (R.asideNew _ hp) (Post.bind1 hle P fun x s1 th1 G1 H1 vx l1 R1 r1 P1 => hv.sem s1 th1 G1 σ H1 _ R1 (Post.bind1 (hle.trans l1) P1 fun y s2 th2 G2 H2 vy l2 R2 r2 P2 => ?_))
  have l12 := l1.trans l2
  obtain ⟨k1, k2, k3⟩ := l12.fr p _ upd_same (R.gnone hp) (R.thne hp)
  have k1 : H2 p = some (.dK []) := k1
  cases e : keyOf x with
  | none => rw [e] at P2; exact P2.elim
  | some kk =>
    rw [e] at P2
    cases key_at r1 e
    refine ⟨k1, [(kk, vy)], rfl, by simp, ?_⟩
    refine P2 th2 G2 _ _ ((hle.trans l12).aside hp) (R2.side _ k2 k3 (R2.tbne k1 fun _ z => nomatch z)) ⟨p, rfl, (fun z => nomatch z), obAt_dct k2 upd_same ?_, k3, hp⟩
    exact .cons r2 .nil⟩
end

/-! ### o[i] = .. -/
def fSet (o i d : D) (s : S) : C := match o with
  | .loc n => match s.m[n]? with
    | some (.lst l) => match i with
      | .int k => match ixN l.length k with
        | some j => .nx { s with m := s.m.set n (.lst (l.set j d)) }
        | none => .no
      | _ => .no
    | some (.dct l) => match keyOf i with
      | some k => if l.length < SZ then .nx { s with m := s.m.set n (.dct (putD l k d)) } else .no
      | none => .no
    | _ => .no
  | _ => .no
def gSet (mo mi : ME) : MG := fun d s => match mo s with
  | .ok (o, s) => match mi s with
    | .ok (i, s) => fSet o i d s
    | _ => .no
  | _ => .no
def rSet : TSet := fun o i v H Q => rSetL o i v H Q ∨ rSetD o i v H Q
section
variable {K : PySem.W.Frag} {B : Bs} {W : WX} {th : List Addr} {G H : Hp} {s : S} {σ : St}
theorem PSet.or {X : Cx} {t u : TSet} (h : PSet X t) (k : PSet X u) : PSet X (fun o i v H Q => t o i v H Q ∨ u o i v H Q) := fun pins s σ H o i v ov iv u Q I ro ri rv hw => by
  rcases hw with hw | hw
  · exact h pins s σ H o i v ov iv u Q I ro ri rv hw
  · exact k pins s σ H o i v ov iv u Q I ro ri rv hw
theorem Rep.putLst (R : Rep K B th G s σ H) {n : Nat} {a : Addr} {l l' : List D} {vs vs' : List V} (hm : s.m[n]? = some (.lst l)) (ha : th[n]? = some a) (hq : H a = some (.lst vs)) (r : AtL K th G l' vs') : Rep K B th G { s with m := s.m.set n (.lst l') } σ (upd H a (.lst vs')) := by
  obtain ⟨g, _, _, _⟩ := R.st n _ a hm ha
  exact R.put ha g ⟨g, vs', upd_same, r⟩ (R.tbne hq fun _ z => nomatch z)
theorem Rep.putDct (R : Rep K B th G s σ H) {n : Nat} {a : Addr} {l l' : List (Key × D)} {vs vs' : List (Key × V)} (hm : s.m[n]? = some (.dct l)) (ha : th[n]? = some a) (hq : H a = some (.dK vs)) (r : AtK K th G l' vs') : Rep K B th G { s with m := s.m.set n (.dct l') } σ (upd H a (.dK vs')) := by
  obtain ⟨g, _, _, _⟩ := R.st n _ a hm ha
  exact R.put ha g (obAt_dct g upd_same r) (R.tbne hq fun _ z => nomatch z)
theorem fset_nx {o i d : D} {s : S} : (∃ s', fSet o i d s = .nx s') ∨ fSet o i d s = .no := by
  unfold fSet
  cases o with
  | loc n =>
    dsimp only
    cases s.m[n]? with
    | none => exact .inr rfl
    | some ob =>
      cases ob with
      | lst l =>
        cases i with
        | int k =>
          dsimp only
          cases ixN l.length k with
          | none => exact .inr rfl
          | some j => exact .inl ⟨_, rfl⟩
        | _ => exact .inr rfl
      | dct l =>
        dsimp only
        cases keyOf i with
        | none => exact .inr rfl
        | some k =>
          dsimp only
          split
          · exact .inl ⟨_, rfl⟩
          · exact .inr rfl
      | _ => exact .inr rfl
  | _ => exact .inr rfl
theorem gset_ok {mo mi : ME} : GOk (gSet mo mi) := fun d s => by
  unfold gSet
  split
  · split
    · exact fset_nx
    · exact .inr rfl
  · exact .inr rfl
theorem sem_set (R : Rep K B th G s σ H) {o i d : D} {vo vi vd : V} {Q : Hp → Prop} (ho : At K th G o vo) (hi : At K th G i vi) (hd : At K th G d vd) (P : ∀ s' H', fSet o i d s = .nx s' → Le th G H th G H' → Rep K B th G s' σ H' → Q H') (hn : fSet o i d s ≠ .no) : rSet vo vi vd H Q := by
  unfold fSet at P hn
  cases o with
  | loc n =>
    dsimp only at P hn
    obtain ⟨a, ha, rfl⟩ := ho
    cases hm : s.m[n]? with
    | none => rw [hm] at hn; exact absurd rfl hn
    | some ob =>
      rw [hm] at P hn
      cases ob with
      | lst l =>
        cases i with
        | int k =>
          dsimp only at P hn
          cases hj : ixN l.length k with
          | none => rw [hj] at hn; exact absurd rfl hn
          | some j =>
            rw [hj] at P
            cases hi
            obtain ⟨g, vs, q, r⟩ := R.st n _ a hm ha
            exact .inl ⟨a, vs, k, j, rfl, rfl, q, by rw [r.length]; exact hj, P _ _ rfl (Le.put ha) (R.putLst hm ha q (r.set j hd))⟩
        | _ => exact absurd rfl hn
      | dct l =>
        dsimp only at P hn
        cases hk : keyOf i with
        | none => rw [hk] at hn; exact absurd rfl hn
        | some k =>
          rw [hk] at P hn
          dsimp only at P hn
          by_cases hz : l.length < SZ
          · rw [if_pos hz] at P
            cases key_at hi hk
            obtain ⟨g, vs, q, r1, r2⟩ := R.st n _ a hm ha
            have r : AtK K th G l vs := ⟨r1, r2⟩
            exact .inr ⟨a, _, rfl, .inl ⟨vs, k, q, rfl, by rw [r.length, SZ_eq]; exact hz, rfl⟩, P _ _ rfl (Le.put ha) (R.putDct hm ha q (r.put hd))⟩
          · rw [if_neg hz] at hn; exact absurd rfl hn
      | _ => exact absurd rfl hn
  | _ => exact absurd rfl hn
end
section
variable {X : Cx} {B : Bs} {W : WX} {e k v o i a tg f : Expr} {te tk tv to ti tf : TE} {ta : TA} {m mk mv mo mi mf : ME} {ma : MA} {p pos tpos apos cpos : Pos}
theorem vg_set (hu : X.A.units + 1 < cLine) (ho : VE X B W o to mo) (hi : VE X B W i ti mi) (ha : ∀ v, assign (.Subscript o i pos) X.env v = (do
      let ov ← holding [v] (eval o X.env)
      let iv ← holding [v, ov] (eval i X.env)
      standAt pos
      holding [v, ov, iv] (setItem ov iv v)
      release [v, ov, iv] []) := by intro _; rfl) : VG X B W (.Subscript o i pos) (gSub to ti rSet) (gSet mo mi) := ⟨pg_sub ho.pe hi.pe (PSet.or set_list (set_dict hu)) ha, fun s th G σ H d v Q R r P => by
  unfold gSet at P
  refine ho.sem s th G σ H _ R ?_
  cases ho1 : mo s with
  | ok q =>
    obtain ⟨o', s1⟩ := q
    rw [ho1] at P
    intro th1 G1 H1 vo l1 R1 r1
    dsimp only at P
    refine hi.sem s1 th1 G1 σ H1 _ R1 ?_
    cases hi1 : mi s1 with
    | ok q =>
      obtain ⟨i', s2⟩ := q
      rw [hi1] at P
      intro th2 G2 H2 vi l2 R2 r2
      dsimp only at P
      have l12 := l1.trans l2
      refine sem_set R2 (r1.mono l2.pre l2.ex) r2 (r.mono l12.pre l12.ex) (fun s' H' e le R' => ?_) (fun z => by rw [z] at P; exact P.elim)
      rw [e] at P
      exact P th2 G2 H' σ (l12.trans le) R'
    | _ => rw [hi1] at P; exact P.elim
  | _ => rw [ho1] at P; exact P.elim⟩

/-! ### d.get -/
def fGet2 (d k x : D) (s : S) : R (D × S) := match dctOf s d, keyOf k with
  | some l, some k => .ok ((valD l k).getD x, s)
  | _, _ => .no
def isDct (s : S) (d : D) : Bool := (dctOf s d).isSome
def eGet2 (mo mi mf : ME) : ME := fun s => (mo s).bind fun d s => if isDct s d = true then (mi s).bind fun k s => (mf s).bind fun x s => fGet2 d k x s else .no
def eGet1 (mo mi : ME) : ME := fun s => (mo s).bind fun d s => if isDct s d = true then (mi s).bind fun k s => fGet2 d k .non s else .no
theorem sem_get {K : PySem.W.Frag} {th : List Addr} {G H : Hp} {s : S} {σ : St} {d k x : D} {vd vk vx : V} {Q : VK} (R : Rep K B th G s σ H) (h : At K th G d vd) (hk : At K th G k vk) (hx : At K th G x vx) (P : Post K B W σ th G H (relE K) (fGet2 d k x s) Q) : ∃ a o, vd = .ref a ∧ DGet H a vk o ∧ Q (o.getD vx) H := by
  unfold fGet2 at P
  cases hd : dctOf s d with
  | none => rw [hd] at P; exact P.elim
  | some l =>
    cases hkk : keyOf k with
    | none => rw [hd, hkk] at P; exact P.elim
    | some kk =>
      rw [hd, hkk] at P
      dsimp only at P
      obtain ⟨a, kvs, rfl, q, r⟩ := R.dct_of h hd
      cases key_at hk hkk
      refine ⟨a, _, rfl, .inl ⟨kvs, kk, q, rfl, rfl⟩, Post.ok (rel := relE K) P R ?_⟩
      have := r.val kk
      cases hv : valD l kk with
      | none => rw [hv] at this; rw [this]; exact hx
      | some z => rw [hv] at this; obtain ⟨v, e, q⟩ := this; rw [e]; exact q
theorem isD_of {K : PySem.W.Frag} {th : List Addr} {G H : Hp} {s : S} {σ : St} {d : D} {vd : V} (R : Rep K B th G s σ H) (h : At K th G d vd) (hi : isDct s d = true) : ∃ a, vd = .ref a ∧ IsD H a := by
  unfold isDct at hi
  cases hd : dctOf s d with
  | none => rw [hd] at hi; cases hi
  | some l =>
    obtain ⟨a, kvs, rfl, q, r⟩ := R.dct_of h hd
    exact ⟨a, rfl, .inl ⟨kvs, q⟩⟩
theorem ve_get2 (hu : X.A.units + 1 < cLine) (ho : VE X B W o to mo) (hi : VE X B W i ti mi) (hf : VE X B W f tf mf) (m : M2 X o "get" apos i f cpos) : VE X B W (.Call (.Attribute o "get" apos) [i, f] [] cpos) (tDGet2 to ti tf) (eGet2 mo mi mf) :=
  ⟨pe_dget2 hu ho.pe hi.pe hf.pe m, fun s th G σ H Q R P => ho.sem s th G σ H _ R (P.bind fun d s1 th1 G1 H1 vd l1 R1 r1 P1 => by
    split at P1
    · rename_i hd
      obtain ⟨a, rfl, q⟩ := isD_of R1 r1 hd
      refine ⟨a, rfl, q, hi.sem s1 th1 G1 σ H1 _ R1 (P1.bind fun k s2 th2 G2 H2 vk l2 R2 r2 P2 => hf.sem s2 th2 G2 σ H2 _ R2 (P2.bind fun x s3 th3 G3 H3 vx l3 R3 r3 P3 => ?_))⟩
      have l23 := l2.trans l3
      obtain ⟨a', o, e, g, q⟩ := sem_get R3 (r1.mono l23.pre l23.ex) (r2.mono l3.pre l3.ex) r3 P3
      cases e
      exact ⟨o, g, q⟩
    · exact P1.elim)⟩
theorem ve_get1 (hu : X.A.units + 1 < cLine) (ho : VE X B W o to mo) (hi : VE X B W i ti mi) (m : M1 X o "get" apos i cpos) : VE X B W (.Call (.Attribute o "get" apos) [i] [] cpos) (tDGet1 to ti) (eGet1 mo mi) :=
  ⟨pe_dget1 hu ho.pe hi.pe m, fun s th G σ H Q R P => ho.sem s th G σ H _ R (P.bind fun d s1 th1 G1 H1 vd l1 R1 r1 P1 => by
    split at P1
    · rename_i hd
      obtain ⟨a, rfl, q⟩ := isD_of R1 r1 hd
      refine ⟨a, rfl, q, hi.sem s1 th1 G1 σ H1 _ R1 (P1.bind fun k s2 th2 G2 H2 vk l2 R2 r2 P2 => ?_)⟩
      obtain ⟨a', o, e, g, q⟩ := sem_get (x := .non) (vx := V.non) R2 (r1.mono l2.pre l2.ex) r2 (show V.non = V.non from rfl) P2
      cases e
      exact ⟨o, g, q⟩
    · exact P1.elim)⟩

/-! ### methods of an own list -/
def eLM (f : List D → List D → Option (D × List D)) (mo : ME) (ma : MA) : ME := fun s => (mo s).bind fun d s => match d with
  | .loc n => match s.m[n]? with
    | some (.lst _) => (ma s).bind fun as s => match s.m[n]? with
      | some (.lst l) => match f l as with
        | some (y, l') => .ok (y, { s with m := s.m.set n (.lst l') })
        | none => .no
      | _ => .no
    | _ => .no
  | _ => .no
def SemLM (K : PySem.W.Frag) (r : V → List V → Hp → VK → Prop) (f : List D → List D → Option (D × List D)) : Prop :=
  ∀ th G H a l as vs xs y l' (Q : VK), H a = some (.lst vs) → AtL K th G l vs → AtL K th G as xs → f l as = some (y, l') → (∀ v vs', At K th G y v → AtL K th G l' vs' → Q v (upd H a (.lst vs'))) → r (.ref a) xs H Q
theorem sem_lm {r : V → List V → Hp → VK → Prop} {f : List D → List D → Option (D × List D)} (hr : SemLM X.K r f) (ho : Sem X.K B W (relE X.K) to mo) (ha : Sem X.K B W (relA X.K) ta ma) : Sem X.K B W (relE X.K) (tBM X.K "list" r to ta) (eLM f mo ma) := fun s th G σ H Q R P =>
  ho s th G σ H _ R (P.bind fun d s1 th1 G1 H1 vd l1 R1 r1 P1 => by
    split at P1
    · rename_i n
      obtain ⟨a, hn, rfl⟩ := r1
      split at P1
      · rename_i l0 hm
        obtain ⟨_, vs0, q0, _⟩ := R1.st n _ a hm hn
        refine ⟨.inl ⟨rfl, vs0, .inl (.inl q0)⟩, ha s1 th1 G1 σ H1 _ R1 (P1.bind fun as s2 th2 G2 H2 xs l2 R2 r2 P2 => ?_)⟩
        split at P2
        · rename_i l hm2
          have hn2 := pre_get l2.pre hn
          obtain ⟨_, vs, q, rr⟩ := R2.st n _ a hm2 hn2
          cases hf : f l as with
          | none => rw [hf] at P2; exact P2.elim
          | some z =>
            obtain ⟨y, l'⟩ := z
            rw [hf] at P2
            exact hr th2 G2 H2 a l as vs xs y l' Q q rr r2 hf fun v vs' hv hvs => P2 th2 G2 _ v (Le.put hn2) (R2.putLst hm2 hn2 q hvs) hv
        · exact P2.elim
      · exact P1.elim
    · exact P1.elim)
def lmApp (l as : List D) : Option (D × List D) := match as with
  | [y] => if l.length < SZ then some (.non, l ++ [y]) else none
  | _ => none
def lmPop (l as : List D) : Option (D × List D) := match as with
  | [] => match l[l.length - 1]? with
    | some y => some (y, l.dropLast)
    | none => none
  | _ => none
def lmPopAt (l as : List D) : Option (D × List D) := match as with
  | [.int i] => if l.length ≤ SZ then match ixN l.length i with
      | some k => match l[k]? with
        | some y => some (y, l.eraseIdx k)
        | none => none
      | none => none
    else none
  | _ => none
def lmIns (l as : List D) : Option (D × List D) := match as with
  | [.int i, y] => if l.length < SZ ∧ 0 ≤ i ∧ i < 2 ^ 63 then some (.non, l.take i.toNat ++ [y] ++ l.drop i.toNat) else none
  | _ => none
theorem AtL.dropLast {K : PySem.W.Frag} {th : List Addr} {G : Hp} {l : List D} {vs : List V} (h : AtL K th G l vs) : AtL K th G l.dropLast vs.dropLast := by
  rw [List.dropLast_eq_take, List.dropLast_eq_take, h.length]
  exact h.take _
theorem semlm_app {K : PySem.W.Frag} : SemLM K rAppend lmApp := fun th G H a l as vs xs y l' Q q rl ra hf k => by
  unfold lmApp at hf
  split at hf
  · rename_i z
    split at hf
    · rename_i hz
      cases hf
      obtain ⟨v, rfl, hv⟩ := ra.one_of
      exact ⟨a, vs, v, rfl, rfl, q, by rw [rl.length, SZ_eq]; exact hz, k .non _ rfl (rl.append (.one hv))⟩
    · cases hf
  · cases hf
theorem semlm_pop {K : PySem.W.Frag} : SemLM K rPop lmPop := fun th G H a l as vs xs y l' Q q rl ra hf k => by
  unfold lmPop at hf
  split at hf
  · cases hy : l[l.length - 1]? with
    | none => rw [hy] at hf; cases hf
    | some z =>
      rw [hy] at hf
      cases hf
      cases ra
      obtain ⟨v, h1, h2⟩ := rl.get hy
      exact ⟨a, vs, v, rfl, rfl, q, by rw [rl.length]; exact h1, k _ _ h2 rl.dropLast⟩
  · cases hf
theorem semlm_popAt {K : PySem.W.Frag} : SemLM K rPopAt lmPopAt := fun th G H a l as vs xs y l' Q q rl ra hf k => by
  unfold lmPopAt at hf
  split at hf
  · rename_i i
    split at hf
    · rename_i hz
      cases hi : ixN l.length i with
      | none => rw [hi] at hf; cases hf
      | some j =>
        rw [hi] at hf
        dsimp only at hf
        cases hy : l[j]? with
        | none => rw [hy] at hf; cases hf
        | some z =>
          rw [hy] at hf
          cases hf
          obtain ⟨v, rfl, hv⟩ := ra.one_of
          cases hv
          obtain ⟨w, h1, h2⟩ := rl.get hy
          obtain ⟨e1, e2, e3, e4⟩ := ixN_seq hi
          have hz' : l.length ≤ 16777216 := hz
          exact ⟨a, vs, i, j, w, rfl, rfl, q, by omega, by omega, by rw [rl.length]; exact e1, h1, k _ _ h2 (rl.eraseIdx j)⟩
    · cases hf
  · cases hf
def rInsL : V → List V → Hp → VK → Prop := fun x vs H Q => ∃ (l : Addr) (xs : List V) (i : Int) (y : V), x = .ref l ∧ vs = [.int i, y] ∧ H l = some (.lst xs) ∧ xs.length < sizeLine ∧ 0 ≤ i ∧ i < 2 ^ 63 ∧
    Q .non (upd H l (.lst (xs.take i.toNat ++ [y] ++ xs.drop i.toNat)))
theorem semlm_ins {K : PySem.W.Frag} : SemLM K rInsL lmIns := fun th G H a l as vs xs y l' Q q rl ra hf k => by
  unfold lmIns at hf
  split at hf
  · rename_i i z
    split at hf
    · rename_i hz
      cases hf
      obtain ⟨v, w, rfl, hv, hw⟩ := two_at ra
      cases hv
      exact ⟨a, vs, i, w, rfl, rfl, q, by rw [rl.length, SZ_eq]; exact hz.1, hz.2.1, hz.2.2, k .non _ rfl (((rl.take _).append (.one hw)).append (rl.drop _))⟩
    · cases hf
  · cases hf
theorem ve_append (ho : VE X B W o to mo) (ha : VA X B W [a] ta ma) (hbase : attributeBase o "append" X.env (eval o X.env) = eval o X.env := by rfl)
    (hfew : ((backTo cpos (starEach [a] X.env)).all (fun x => !x.1) && (backToKw cpos (keywordEach [] X.env)).all (fun x => x.1.isSome)
      && decide (([a] : List Expr).length + ([] : List Keyword).length + (if ([] : List Keyword).isEmpty then 0 else 1) < 30)) = true := by rfl)
    (hline : (apos.endLine == cpos.line) = true := by rfl) (hs : starEach [a] X.env = (false, eval a X.env) :: starEach [] X.env := by rfl) :
    VE X B W (.Call (.Attribute o "append" apos) [a] [] cpos) (tBM X.K "list" rAppend to ta) (eLM lmApp mo ma) := ⟨pe_bm F.plainAttrs_list F.slot_list_append F.type_list_append mt_append ho.pe ha.pa hbase hfew hline hs rfl, sem_lm semlm_app ho.sem ha.sem⟩
theorem ve_popAt (ho : VE X B W o to mo) (ha : VA X B W [a] ta ma) (hbase : attributeBase o "pop" X.env (eval o X.env) = eval o X.env := by rfl)
    (hfew : ((backTo cpos (starEach [a] X.env)).all (fun x => !x.1) && (backToKw cpos (keywordEach [] X.env)).all (fun x => x.1.isSome)
      && decide (([a] : List Expr).length + ([] : List Keyword).length + (if ([] : List Keyword).isEmpty then 0 else 1) < 30)) = true := by rfl)
    (hline : (apos.endLine == cpos.line) = true := by rfl) (hs : starEach [a] X.env = (false, eval a X.env) :: starEach [] X.env := by rfl) :
    VE X B W (.Call (.Attribute o "pop" apos) [a] [] cpos) (tBM X.K "list" rPopAt to ta) (eLM lmPopAt mo ma) := ⟨pe_bm F.plainAttrs_list F.slot_list_pop F.type_list_pop mt_popAt ho.pe ha.pa hbase hfew hline hs rfl, sem_lm semlm_popAt ho.sem ha.sem⟩
theorem ve_insert {b : Expr} (ho : VE X B W o to mo) (ha : VA X B W [a, b] ta ma) (hbase : attributeBase o "insert" X.env (eval o X.env) = eval o X.env := by rfl)
    (hfew : ((backTo cpos (starEach [a, b] X.env)).all (fun x => !x.1) && (backToKw cpos (keywordEach [] X.env)).all (fun x => x.1.isSome)
      && decide (([a, b] : List Expr).length + ([] : List Keyword).length + (if ([] : List Keyword).isEmpty then 0 else 1) < 30)) = true := by rfl)
    (hline : (apos.endLine == cpos.line) = true := by rfl) (hs : starEach [a, b] X.env = (false, eval a X.env) :: starEach [b] X.env := by rfl) (hpl : (backTo cpos (starEach [b] X.env)).any (·.1) = false := by rfl) :
    VE X B W (.Call (.Attribute o "insert" apos) [a, b] [] cpos) (tBM X.K "list" rInsL to ta) (eLM lmIns mo ma) := ⟨pe_bm F.plainAttrs_list F.slot_list_insert F.type_list_insert mt_insert ho.pe ha.pa hbase hfew hline hs hpl, sem_lm semlm_ins ho.sem ha.sem⟩

theorem sem_lm0 {r : V → List V → Hp → VK → Prop} {f : List D → List D → Option (D × List D)} (hr : SemLM X.K r f) (ho : Sem X.K B W (relE X.K) to mo) : Sem X.K B W (relE X.K) (tBM0 X.K "list" r to) (eLM f mo aNil) := fun s th G σ H Q R P =>
  sem_lm (ta := tNil) hr ho (va_nil (X := X) (B := B) (W := W)).sem s th G σ H Q R P
theorem ve_pop (ho : VE X B W o to mo) (hbase : attributeBase o "pop" X.env (eval o X.env) = eval o X.env := by rfl) (hline : (apos.endLine == cpos.line) = true := by rfl) :
    VE X B W (.Call (.Attribute o "pop" apos) [] [] cpos) (tBM0 X.K "list" rPop to) (eLM lmPop mo aNil) := ⟨pe_bm0 F.plainAttrs_list F.slot_list_pop F.type_list_pop mt_pop ho.pe hbase hline, sem_lm0 semlm_pop ho.sem⟩

/-! ### del d[k] -/
def sDelM (mo mi : ME) : MS := fun s => (mo s).to fun d s => (mi s).to fun k s => match d with
  | .loc n => match s.m[n]?, keyOf k with
    | some (.dct l), some k => if (valD l k).isSome then .nx { s with m := s.m.set n (.dct (dropD l k)) } else .no
    | _, _ => .no
  | _ => .no
theorem vs_ddel (ho : VE X B W o to mo) (hi : VE X B W i ti mi) : VS X B W (.Delete [.Subscript o i tpos] pos) (sDDel to ti) (sDelM mo mi) := ⟨ps_ddel ho.pe hi.pe, fun s th G σ H Dn R P =>
  ho.sem s th G σ H _ R (P.to fun d s1 th1 G1 H1 vd l1 R1 r1 P1 => hi.sem s1 th1 G1 σ H1 _ R1 (P1.to fun k s2 th2 G2 H2 vk l2 R2 r2 P2 => by
    split at P2
    · rename_i n
      obtain ⟨a, hn, rfl⟩ := r1
      have hn2 := pre_get l2.pre hn
      split at P2
      · rename_i l kk hm hk
        split at P2
        · rename_i hv
          obtain ⟨g, kvs, q, rr1, rr2⟩ := R2.st n _ a hm hn2
          have rr : AtK X.K th2 G2 l kvs := ⟨rr1, rr2⟩
          cases key_at r2 hk
          refine ⟨a, kvs, kk, rfl, q, rfl, ?_, P2 th2 G2 _ σ (Le.put hn2) (R2.putDct hm hn2 q rr.drop)⟩
          have := rr.val kk
          cases e : valD l kk with
          | none => rw [e] at hv; cases hv
          | some z => rw [e] at this; obtain ⟨v, e', _⟩ := this; rw [e']; rfl
        · exact P2.elim
      · exact P2.elim
    · exact P2.elim))⟩
end
end VL
namespace VL
open PySem L2

/-! ### a walk over a dict of data -/
def kD : Key → D
  | .inl i => .int i
  | .inr x => .str x.cps.toList
def dItems (ks : List Key) (l : List D) : List D := pairs (ks.map kD) l
def dKeys (ks : List Key) (_ : List D) : List D := ks.map kD
def sForD (w : List Key → List D → List D) (i : Nat) (g : MG) (b : MS) : MS := fun s => (eTake i s).to fun d s => match d with
  | .dct ks l => forL g b (w ks l) s
  | _ => .no
structure Swp (G G' : Hp) : Prop where
  d : ∀ a kvs, Rd G a (.dK kvs) → Rd G' a (.dK kvs)
  l : ∀ a xs, G a = some (.lst xs) → G' a = some (.lst xs)
  rl : ∀ a xs, Rd G a (.lst xs) → Rd G' a (.lst xs)
  t : ∀ a xs, Rd G a (.tup xs) → Rd G' a (.tup xs)
  x : ∀ a fs, G a = some (.xd fs) → G' a = some (.xd fs)
  p : ∀ a xs, Pl G a xs → Pl G' a xs
section
variable {K : PySem.W.Frag} {B : Bs} {W : WX} {th th0 th1 : List Addr} {G G' H G0 H0 G1 H1 : Hp} {s s0 : S} {σ σ2 : St}
mutual
theorem At.swap (e : Swp G G') : ∀ {d : D} {v : V}, At K th G d v → At K th G' d v
  | .non, _, h => h
  | .bl _, _, h => h
  | .int _, _, h => h
  | .str _, _, h => h
  | .tup _, _, h => by obtain ⟨a, vs, e1, q, r⟩ := h; exact ⟨a, vs, e1, ⟨q.sq.imp (e.t _ _) id, fun z => e.p _ _ (q.pl z)⟩, AtL.swap e r⟩
  | .lst _, _, h => by obtain ⟨a, vs, e1, q, r⟩ := h; exact ⟨a, vs, e1, e.l _ _ q, AtL.swap e r⟩
  | .dct _ _, _, h => by obtain ⟨a, vs, e1, q, z, r⟩ := h; exact ⟨a, vs, e1, e.d _ _ q, z, AtL.swap e r⟩
  | .scr _, _, h => by obtain ⟨a, e1, q⟩ := h; exact ⟨a, e1, q.imp (e.rl _ _) id⟩
  | .loc _, _, h => h
  | .obj _, _, h => h
  | .exn _ _ _ _, _, h => by obtain ⟨e1, vs, q, z, n, r⟩ := h; exact ⟨e1, vs, AtL.swap e q, z, n, fun dd hd => e.x _ _ (r dd hd)⟩
theorem AtL.swap (e : Swp G G') : ∀ {l : List D} {vs : List V}, AtL K th G l vs → AtL K th G' l vs
  | [], _, h => h
  | _ :: _, _, h => by obtain ⟨v, r, e1, q, z⟩ := h; exact ⟨v, r, e1, At.swap e q, AtL.swap e z⟩
end
theorem swp_lock {a : Addr} {kvs : List (Key × V)} {od : Obj} (h : G a = some (.dK kvs)) : Swp G (upd G a (.frz od (.dK kvs))) where
  d := fun b ks r => by
    by_cases hb : b = a
    · subst hb
      rcases r with r | ⟨o, r⟩
      · rw [h] at r; cases r; exact .inr ⟨od, upd_same⟩
      · rw [h] at r; cases r
    · rcases r with r | ⟨o, r⟩
      · exact .inl (by rw [upd_ne hb]; exact r)
      · exact .inr ⟨o, by rw [upd_ne hb]; exact r⟩
  l := fun b xs r => by
    have hb : b ≠ a := fun z => by rw [z, h] at r; cases r
    rw [upd_ne hb]; exact r
  rl := fun b xs r => by
    have hb : b ≠ a := fun z => by
      rcases r with r | ⟨o, r⟩ <;> (rw [z, h] at r; cases r)
    rcases r with r | ⟨o, r⟩
    · exact .inl (by rw [upd_ne hb]; exact r)
    · exact .inr ⟨o, by rw [upd_ne hb]; exact r⟩
  t := fun b xs r => by
    have hb : b ≠ a := fun z => by
      rcases r with r | ⟨o, r⟩ <;> (rw [z, h] at r; cases r)
    rcases r with r | ⟨o, r⟩
    · exact .inl (by rw [upd_ne hb]; exact r)
    · exact .inr ⟨o, by rw [upd_ne hb]; exact r⟩
  x := fun b xs r => by
    have hb : b ≠ a := fun z => by rw [z, h] at r; cases r
    rw [upd_ne hb]; exact r
  p := fun b xs ⟨o, r, ho⟩ => by
    have hb : b ≠ a := fun z => by rw [z, h] at r; cases r
    exact ⟨o, by rw [upd_ne hb]; exact r, ho⟩
theorem swp_unlock {a : Addr} {kvs : List (Key × V)} {od : Obj} (h : G a = some (.frz od (.dK kvs))) : Swp G (upd G a (.dK kvs)) where
  d := fun b ks r => by
    by_cases hb : b = a
    · subst hb
      rcases r with r | ⟨o, r⟩
      · rw [h] at r; cases r
      · rw [h] at r; cases r; exact .inl upd_same
    · rcases r with r | ⟨o, r⟩
      · exact .inl (by rw [upd_ne hb]; exact r)
      · exact .inr ⟨o, by rw [upd_ne hb]; exact r⟩
  l := fun b xs r => by
    have hb : b ≠ a := fun z => by rw [z, h] at r; cases r
    rw [upd_ne hb]; exact r
  rl := fun b xs r => by
    have hb : b ≠ a := fun z => by
      rcases r with r | ⟨o, r⟩ <;> (rw [z, h] at r; cases r)
    rcases r with r | ⟨o, r⟩
    · exact .inl (by rw [upd_ne hb]; exact r)
    · exact .inr ⟨o, by rw [upd_ne hb]; exact r⟩
  t := fun b xs r => by
    have hb : b ≠ a := fun z => by
      rcases r with r | ⟨o, r⟩ <;> (rw [z, h] at r; cases r)
    rcases r with r | ⟨o, r⟩
    · exact .inl (by rw [upd_ne hb]; exact r)
    · exact .inr ⟨o, by rw [upd_ne hb]; exact r⟩
  x := fun b xs r => by
    have hb : b ≠ a := fun z => by rw [z, h] at r; cases r
    rw [upd_ne hb]; exact r
  p := fun b xs ⟨o, r, ho⟩ => by
    have hb : b ≠ a := fun z => by rw [z, h] at r; cases r
    exact ⟨o, by rw [upd_ne hb]; exact r, ho⟩
theorem ObAt.swap {H' : Hp} {a : Addr} {ob : Ob} (sw : Swp G G') (hg : ∀ b, G b = none → G' b = none) (keep : ∀ b o, G b = none → H b = some o → H' b = some o) (h : ObAt K th G H a ob) : ObAt K th G' H' a ob := by
  cases ob with
  | lst l => obtain ⟨g, vs, e1, q⟩ := h; exact ⟨hg _ g, vs, keep _ _ g e1, q.swap sw⟩
  | dct l => obtain ⟨g, vs, e1, z, q⟩ := h; exact ⟨hg _ g, vs, keep _ _ g e1, z, q.swap sw⟩
  | ins C l => obtain ⟨g, dx, vs, e1, z, q⟩ := h; exact ⟨hg _ g, dx, vs, keep _ _ g e1, z, q.swap sw⟩
  | dead => exact h
theorem Rep.swap {H' : Hp} (R : Rep K B th G s σ H) (sw : Swp G G') (hg : ∀ b, G b = none → G' b = none) (ex : Ex G' H') (tb : ∀ P, GxR.TabG H P → GxR.TabG H' P) (al : ∀ b, H b ≠ none → H' b ≠ none) (keep : ∀ b o, G b = none → H b = some o → H' b = some o) : Rep K B th G' s σ H' where
  len := R.len
  slot := fun i d e => by
    obtain ⟨v, h1, h2⟩ := R.slot i d e
    exact ⟨v, h1, h2.swap sw⟩
  eG := ex
  tb := fun P h => tb P (R.tb P h)
  tl := R.tl
  nd := R.nd
  al := fun a h => al a (R.al a h)
  st := fun n ob a e1 e2 => (R.st n ob a e1 e2).swap sw hg keep
theorem some_of_upd {a : Addr} {o : HO} {b : Addr} {X : Hp} (h : X b ≠ none) : upd X a o b ≠ none := by
  by_cases hb : b = a
  · rw [hb, upd_same]; exact fun z => by cases z
  · rw [upd_ne hb]; exact h
theorem tabG_upd {a P : Addr} {o o' : HO} (h : GxR.TabG H P) (ha : H a = some o) (ho : ∀ ps, o ≠ .tbl ps) : GxR.TabG (upd H a o') P := by
  obtain ⟨ps, e, t⟩ := h
  have : P ≠ a := fun z => by rw [z, ha] at e; exact ho ps (Option.some.inj e)
  exact ⟨ps, by rw [upd_ne this]; exact e, t⟩
section
variable {a : Addr} {kvs : List (Key × V)} {od : Obj}
/-- lock in the data alone, the heap locked -/
theorem Rep.frzG (R : Rep K B th G s σ H) (hG : G a = some (.dK kvs)) (hH : H a = some (.frz od (.dK kvs))) : Rep K B th (upd G a (.frz od (.dK kvs))) s σ H :=
  R.swap (swp_lock hG) (fun b g => by rw [upd_ne (fun z => by rw [z, hG] at g; cases g)]; exact g) (fun b o e => by
    by_cases hb : b = a
    · rw [hb, upd_same] at e; cases e; rw [hb, hH]; exact rfl
    · rw [upd_ne hb] at e; exact R.eG b o e) (fun _ h => h) (fun _ h => h) fun _ _ _ h => h
theorem Rep.thawG (R : Rep K B th G s σ H) (hG : G a = some (.frz od (.dK kvs))) : Rep K B th (upd G a (.dK kvs)) s σ H :=
  R.swap (swp_unlock hG) (fun b g => by rw [upd_ne (fun z => by rw [z, hG] at g; cases g)]; exact g) (fun b o e => by
    by_cases hb : b = a
    · rw [hb, upd_same] at e; cases e; rw [hb]; exact .inr ⟨od, R.eG a _ hG⟩
    · rw [upd_ne hb] at e; exact R.eG b o e) (fun _ h => h) (fun _ h => h) fun _ _ _ h => h
theorem Rep.lockH (R : Rep K B th G s σ H) (hG : G a = some (.dK kvs)) (hH : H a = some (.dK kvs)) : Rep K B th (upd G a (.frz od (.dK kvs))) s σ (upd H a (.frz od (.dK kvs))) :=
  R.swap (swp_lock hG) (fun b g => by rw [upd_ne (fun z => by rw [z, hG] at g; cases g)]; exact g) R.eG.both (fun P h => tabG_upd h hH fun _ z => nomatch z) (fun _ h => some_of_upd h) fun b o g h => by
    rw [upd_ne (fun z => by rw [z, hG] at g; cases g)]; exact h
theorem Rep.openH (R : Rep K B th G s σ H) (hG : G a = some (.frz od (.dK kvs))) : Rep K B th (upd G a (.dK kvs)) s σ (upd H a (.dK kvs)) :=
  have hH : H a = some (.frz od (.dK kvs)) := R.eG a _ hG
  R.swap (swp_unlock hG) (fun b g => by rw [upd_ne (fun z => by rw [z, hG] at g; cases g)]; exact g) R.eG.both (fun P h => tabG_upd h hH fun _ z => nomatch z) (fun _ h => some_of_upd h) fun b o g h => by
    rw [upd_ne (fun z => by rw [z, hG] at g; cases g)]; exact h
theorem Le.thaw {th' : List Addr} {G' H' Hf H2 : Hp} (hG : G a = some (.dK kvs)) (l : Le th (upd G a (.frz od (.dK kvs))) Hf th' G' H') (hf : ∀ b o, G b = none → H b = some o → Hf b = some o) (h2 : ∀ b, b ≠ a → H2 b = H' b) : Le th G H th' (upd G' a (.dK kvs)) H2 :=
  ⟨l.pre, fun b o e => by
    by_cases hb : b = a
    · rw [hb, hG] at e; cases e; rw [hb, upd_same]
    · rw [upd_ne hb]; exact l.ex b o (by rw [upd_ne hb]; exact e), fun b o e g n => by
    have hb : b ≠ a := fun z => by rw [z, hG] at g; cases g
    obtain ⟨h1, h3, h4⟩ := l.fr b o (hf b o g e) (by rw [upd_ne hb]; exact g) n
    exact ⟨by rw [h2 b hb]; exact h1, by rw [upd_ne hb]; exact h3, h4⟩⟩
theorem PostS.thaw {c : C} {Dn : Ends} (P : PostS K B W th G H c Dn) (hG : G a = some (.dK kvs)) : PostS K B W th (upd G a (.frz od (.dK kvs))) H c Dn := by
  have gf : ∀ {th' G' H'}, Le th (upd G a (.frz od (.dK kvs))) H th' G' H' → G' a = some (.frz od (.dK kvs)) := fun l => l.ex _ _ upd_same
  have le : ∀ {th' G' H'}, Le th (upd G a (.frz od (.dK kvs))) H th' G' H' → Le th G H th' (upd G' a (.dK kvs)) H' := fun l => l.thaw hG (fun _ _ _ h => h) fun _ _ => rfl
  cases c with
  | nx s => exact fun th' G' H' σ' l R => P th' _ H' σ' (le l) (R.thawG (gf l))
  | rt d s => exact fun th' G' H' σ' v l R r => P th' _ H' σ' v (le l) (R.thawG (gf l)) (r.swap (swp_unlock (gf l)))
  | bk s => exact fun th' G' H' σ' l R => P th' _ H' σ' (le l) (R.thawG (gf l))
  | ct s => exact fun th' G' H' σ' l R => P th' _ H' σ' (le l) (R.thawG (gf l))
  | ex e s => exact fun th' G' H' σ' cls d l R r => P th' _ H' σ' cls d (le l) (R.thawG (gf l)) (by obtain ⟨q1, us, q2, q3, q4, q5⟩ := r; exact ⟨q1, us, q2.swap (swp_unlock (gf l)), q3, q4, fun dd hd => (swp_unlock (gf l)).x _ _ (q5 dd hd)⟩)
  | no => exact P
theorem PostS.openL {c : C} {Dn : Ends} (P : PostS K B W th G H c Dn) (hG : G a = some (.dK kvs)) : PostS K B W th (upd G a (.frz od (.dK kvs))) (upd H a (.frz od (.dK kvs))) c
    ⟨fun σ' H' => H' a = some (.frz od (.dK kvs)) ∧ Dn.nx σ' (upd H' a (.dK kvs)), fun v H' => H' a = some (.frz od (.dK kvs)) ∧ Dn.rt v (upd H' a (.dK kvs)), fun σ' H' => H' a = some (.frz od (.dK kvs)) ∧ Dn.bk σ' (upd H' a (.dK kvs)), fun σ' H' => H' a = some (.frz od (.dK kvs)) ∧ Dn.ct σ' (upd H' a (.dK kvs))⟩ := by
  have gf : ∀ {th' G' H'}, Le th (upd G a (.frz od (.dK kvs))) (upd H a (.frz od (.dK kvs))) th' G' H' → G' a = some (.frz od (.dK kvs)) := fun l => l.ex _ _ upd_same
  have hf : ∀ b o, G b = none → H b = some o → upd H a (.frz od (.dK kvs)) b = some o := fun b o g h => by
    rw [upd_ne (fun z => by rw [z, hG] at g; cases g)]; exact h
  have le : ∀ {th' G' H'}, Le th (upd G a (.frz od (.dK kvs))) (upd H a (.frz od (.dK kvs))) th' G' H' → Le th G H th' (upd G' a (.dK kvs)) (upd H' a (.dK kvs)) := fun l => l.thaw hG hf fun b hb => upd_ne hb
  have le2 : ∀ {th' G' H'}, Le th (upd G a (.frz od (.dK kvs))) (upd H a (.frz od (.dK kvs))) th' G' H' → Le th G H th' (upd G' a (.dK kvs)) H' := fun l => l.thaw hG hf fun _ _ => rfl
  cases c with
  | nx s => exact fun th' G' H' σ' l R => ⟨R.eG _ _ (gf l), P th' _ _ σ' (le l) (R.openH (gf l))⟩
  | rt d s => exact fun th' G' H' σ' v l R r => ⟨R.eG _ _ (gf l), P th' _ _ σ' v (le l) (R.openH (gf l)) (r.swap (swp_unlock (gf l)))⟩
  | bk s => exact fun th' G' H' σ' l R => ⟨R.eG _ _ (gf l), P th' _ _ σ' (le l) (R.openH (gf l))⟩
  | ct s => exact fun th' G' H' σ' l R => ⟨R.eG _ _ (gf l), P th' _ _ σ' (le l) (R.openH (gf l))⟩
  | ex e s => exact fun th' G' H' σ' cls d l R r => P th' _ H' σ' cls d (le2 l) (R.thawG (gf l)) (by obtain ⟨q1, us, q2, q3, q4, q5⟩ := r; exact ⟨q1, us, q2.swap (swp_unlock (gf l)), q3, q4, fun dd hd => (swp_unlock (gf l)).x _ _ (q5 dd hd)⟩)
  | no => exact P
end
theorem kD_at {k : Key} : At K th G (kD k) (kV k) := by
  cases k with
  | inl i => rfl
  | inr x => obtain ⟨c⟩ := x; rfl
theorem relI_items {d : Addr} {o : Obj} {kvs : List (Key × V)} {ks : List Key} {l : List D} (q : ∀ th1 G1 H1, Le th G H th1 G1 H1 → Ex G1 H1 → H1 d = some (.frz o (.dK kvs))) (hk : kvs.map (·.1) = ks) (r : AtL K th G l (kvs.map (·.2))) : relI K H0 th G H (dItems ks l) (Iti d o kvs) := fun th1 G1 H1 i le ex => by
  have q1 := q th1 G1 H1 le ex
  have hl := r.length
  have hlen : (dItems ks l).length = kvs.length := by
    rw [← hk]; simp [dItems, pairs] at hl ⊢; omega
  refine ⟨fun hi => ⟨q1, by omega⟩, fun x hx => ?_⟩
  have hlt : i < kvs.length := by
    have := (List.getElem?_eq_some_iff.mp hx).1
    omega
  refine ⟨⟨q1, hlt⟩, fun z H2 y => ?_⟩
  obtain ⟨T, k, v, h1, rfl, hT, rfl⟩ := y
  obtain ⟨x1, y1, e1, e2, rfl⟩ := pairs_get hx
  rw [← hk] at e1
  simp [h1] at e1
  subst e1
  obtain ⟨w, h3, h4⟩ := (r.mono le.pre le.ex).get e2
  simp [h1] at h3
  subst h3
  exact ⟨_, .inr ⟨T, _, hT, rfl, rfl⟩, at_pair kD_at h4 hT ex (by cases k <;> rfl)⟩
theorem relI_keys {d : Addr} {o : Obj} {kvs : List (Key × V)} {ks : List Key} {l : List D} (q : ∀ th1 G1 H1, Le th G H th1 G1 H1 → Ex G1 H1 → H1 d = some (.frz o (.dK kvs))) (hk : kvs.map (·.1) = ks) (r : AtL K th G l (kvs.map (·.2))) : relI K H0 th G H (dKeys ks l) (Itk d o kvs) := fun th1 G1 H1 i le ex => by
  have q1 := q th1 G1 H1 le ex
  have hlen : (dKeys ks l).length = kvs.length := by rw [← hk]; simp [dKeys]
  refine ⟨fun hi => ⟨q1, by omega⟩, fun x hx => ?_⟩
  have hlt : i < kvs.length := by
    have := (List.getElem?_eq_some_iff.mp hx).1
    omega
  refine ⟨⟨q1, hlt⟩, fun z H2 y => ?_⟩
  obtain ⟨rfl, k, v, h1, rfl⟩ := y
  simp only [dKeys, ← hk] at hx
  simp [h1] at hx
  subst hx
  exact ⟨_, .inl ⟨rfl, rfl⟩, kD_at⟩
theorem PS.or {X : Cx} {st : Stmt} {t u : TS} (h : PS X st t) (k : PS X st u) : PS X st (fun D σ H => t D σ H ∨ u D σ H) := ⟨fun pins s σ H D I hw => by
  rcases hw with hw | hw
  · exact h.run pins s σ H D I hw
  · exact k.run pins s σ H D I hw⟩
/-- a walker of a locked dict -/
def WalkD (K : PySem.W.Frag) (w : List Key → List D → List D) (wi : TI) (i : Nat) : Prop := ∀ (σ : St) (a : Addr) (H : Hp) (od : Obj) (kvs : List (Key × V)) (R : It → Hp → Prop), σ[i]? = some (some (.ref a)) → H a = some (.frz od (.dK kvs)) →
  (∀ J, (∀ th G l H0, (∀ th1 G1 H1, Le th G H th1 G1 H1 → Ex G1 H1 → H1 a = some (.frz od (.dK kvs))) → AtL K th G l (kvs.map (·.2)) → relI K H0 th G H (w (kvs.map (·.1)) l) J) → R J H) → wi σ H R
theorem walkd_items {i : Nat} : WalkD K dItems (iItems (tVar i)) i := fun σ a H od kvs R hs hH k => ⟨.ref a, hs, a, od, kvs, rfl, hH, k _ fun th G l H0 q r => relI_items q rfl r⟩
theorem walkd_keys {i : Nat} : WalkD K dKeys (iKeys (tVar i)) i := fun σ a H od kvs R hs hH k => ⟨.ref a, hs, a, od, rfl, .inl ⟨kvs, hH, k _ fun th G l H0 q r => relI_keys q rfl r⟩⟩
theorem sem_forD {X : Cx} {w : List Key → List D → List D} {wi : TI} {i : Nat} {g : TG} {tb : TS} {mg : MG} {mb : MS} (he : Sem K B W (relE K) (tVar i) (eTake i)) (hw : WalkD K w wi i) (hg : SemG K B W g mg) (hok : GOk mg) (hb : SemS K B W tb mb) :
    SemS K B W (fun D σ H => tFor wi g tb D σ H ∨ tLock (tFor wi g tb) D σ H) (sForD w i mg mb) := fun s th G σ H Dn R P => by
  cases hm : eTake i s with
  | no => unfold sForD at P; rw [hm] at P; exact P.elim
  | ex e s' =>
    unfold eTake at hm
    split at hm
    · split at hm
      · cases hm
      · cases hm
      · cases hm
    · cases hm
    · cases hm
  | ok q =>
    obtain ⟨d, s1⟩ := q
    have h0 := he s th G σ H (fun v H' => ∃ th1 G1, Le th G H th1 G1 H' ∧ Rep K B th1 G1 s1 σ H' ∧ At K th1 G1 d v) R (by rw [hm]; exact fun th' G' H' b l R r => ⟨th', G', l, R, r⟩)
    obtain ⟨v, hs, th1, G1, l1, R1, r1⟩ := h0
    unfold sForD at P
    rw [hm] at P
    simp only [VL.R.to_ok] at P
    cases d with
    | dct ks l =>
      obtain ⟨a, kvs, rfl, q, rfl, r⟩ := r1
      dsimp only at P
      have P1 := P.later l1
      rcases q with hG | ⟨od, hG⟩
      · rcases R1.eG a _ hG with hH | ⟨od, hH⟩
        · refine .inr ⟨a, _, hH, True.intro, fun od => ?_⟩
          have R2 := R1.lockH (od := od) hG hH
          have hg1 : upd G1 a (.frz od (.dK kvs)) a = some (.frz od (.dK kvs)) := upd_same
          exact hw σ a _ od kvs _ hs upd_same fun J hJ => for_core hg hok hb (hJ th1 _ l (fun _ => none) (fun th2 G2 H2 l2 ex => ex _ _ (l2.ex _ _ hg1)) (r.swap (swp_lock hG))) (Le.refl _ _ _) R2 (P1.openL hG)
        · have hg1 : upd G1 a (.frz od (.dK kvs)) a = some (.frz od (.dK kvs)) := upd_same
          exact .inl (hw σ a _ od kvs _ hs hH fun J hJ => for_core hg hok hb (hJ th1 _ l (fun _ => none) (fun th2 G2 H2 l2 ex => ex _ _ (l2.ex _ _ hg1)) (r.swap (swp_lock hG))) (Le.refl _ _ _) (R1.frzG hG hH) (P1.thaw hG))
      · exact .inl (hw σ a _ od kvs _ hs (R1.eG _ _ hG) fun J hJ => for_core hg hok hb (hJ th1 G1 l (fun _ => none) (fun th2 G2 H2 l2 ex => ex _ _ (l2.ex _ _ hG)) r) (Le.refl _ _ _) R1 P1)
    | _ => exact P.elim
end
section
variable {X : Cx} {B : Bs} {W : WX} {tg : Expr} {pos p2 apos cpos tpos : Pos} {body : List Stmt} {tb : TS} {mb : MS} {g : TG} {mg : MG} {x : Str}
theorem vs_forKeys (i : Nat) (hp : PassesOwn (model X.prog X.w) X.A X.env X.xe) (hc : X.calm = true) (he : VE X B W (.Name x pos) (tVar i) (eTake i)) (hg : VG X B W tg g mg) (hok : GOk mg) (hb : VSs X B W body tb mb) (hs : ∀ v, foldedSetIterable (.Name x pos) X.env v = pure v := by intro _; rfl) :
    VS X B W (.For tg (.Name x pos) body [] p2) (fun D σ H => tFor (iKeys (tVar i)) g tb D σ H ∨ tLock (tFor (iKeys (tVar i)) g tb) D σ H) (sForD dKeys i mg mb) :=
  have h := ps_for hp hc (pi_keys he.pe) hg.pg hb.ps hs
  ⟨PS.or h (ps_lock h), sem_forD (X := X) he.sem walkd_keys hg.sem hok hb.sem⟩
theorem vs_forItems {elts : List Expr} {kk : Nat} (i : Nat) (hp : PassesOwn (model X.prog X.w) X.A X.env X.xe) (hc : X.calm = true) (he : VE X B W (.Name x pos) (tVar i) (eTake i)) (hg : VG X B W (.Tuple elts kk tpos) g mg) (hok : GOk mg) (hb : VSs X B W body tb mb)
    (hbase : attributeBase (.Name x pos) "items" X.env (eval (.Name x pos) X.env) = eval (.Name x pos) X.env := by rfl) (hline : (apos.endLine == cpos.line) = true := by rfl) (hs : ∀ v, foldedSetIterable (.Call (.Attribute (.Name x pos) "items" apos) [] [] cpos) X.env v = pure v := by intro _; rfl) :
    VS X B W (.For (.Tuple elts kk tpos) (.Call (.Attribute (.Name x pos) "items" apos) [] [] cpos) body [] p2) (fun D σ H => tFor (iItems (tVar i)) g tb D σ H ∨ tLock (tFor (iItems (tVar i)) g tb) D σ H) (sForD dItems i mg mb) :=
  have h := ps_for hp hc (pi_items he.pe hbase hline) hg.pg hb.ps hs
  ⟨PS.or h (ps_lock h), sem_forD (X := X) he.sem walkd_items hg.sem hok hb.sem⟩
end
end VL
/-! all, any of a generator expression over a tuple or a list; the element is quiet -/
namespace GW
open PySem PySem.Spec PyProof.Rows L2 GxR

/-- the element at the item v answers b, whatever runs it, while all but the table stands as in sA -/
def EltQ (X : Cx) (P : Addr) (scope : Scope) (x : Str) (elt : Expr) (Bq : L2.St → Hp → V → Bool → Prop) : Prop :=
  ∀ (pins : List (Addr × Obj)) (σ : L2.St) (HA : Hp) (sA : Shared) (ce : Env) (A' : Around) (E' : Value → Shared → Prop) (v : V) (u : Value) (b : Bool) (sB : Shared) (mB : Str → Option Value),
    Inv X pins σ HA sA → ce.scope = scope → ce.globals = X.env.globals → ce.cells = cloFrom X.env.cells scope.names [] → A'.handled = none →
    (∀ q o, q ≠ P → sA.heap.get? q = some o → sB.heap.get? q = some o) → sB.heap.Ns ce.locals mB → mB x = some u → RelV v u → Bq σ HA v b →
    wpAny (model X.prog X.w) A' (eval elt ce) (fun y sC => y = .bool b ∧ Keeps sB sC) E' sB

def bAt (bs : List Bool) (j : Nat) : Bool := (bs[j]?).getD false
theorem all_bAt (bs : List Bool) : (List.range bs.length).all (bAt bs) = bs.all id := by
  rw [Bool.eq_iff_iff, List.all_eq_true, List.all_eq_true]
  constructor
  · intro h b hb
    obtain ⟨j, hj, rfl⟩ := List.getElem_of_mem hb
    have := h j (List.mem_range.mpr hj)
    simpa [bAt, hj] using this
  · intro h j hj
    have hj' := List.mem_range.mp hj
    have := h bs[j] (List.getElem_mem hj')
    simpa [bAt, hj'] using this
theorem any_bAt (bs : List Bool) : (List.range bs.length).any (bAt bs) = bs.any id := by
  rw [Bool.eq_iff_iff, List.any_eq_true, List.any_eq_true]
  constructor
  · rintro ⟨j, hj, h⟩
    have hj' := List.mem_range.mp hj
    refine ⟨bs[j], List.getElem_mem hj', ?_⟩
    simpa [bAt, hj'] using h
  · rintro ⟨b, hb, h⟩
    obtain ⟨j, hj, rfl⟩ := List.getElem_of_mem hb
    exact ⟨j, List.mem_range.mpr hj, by simpa [bAt, hj] using h⟩

section
variable {X : Cx} {pins : List (Addr × Obj)} {σ : L2.St} {H : Hp} {s : Shared}
/-- the generator at g in sE, to be walked -/
def Set1 (X : Cx) (pins : List (Addr × Obj)) (σ : L2.St) (HA : Hp) (P : Addr) (bs : List Bool) (g : Addr) (sE : Shared) : Prop :=
  ∃ (fp wr : List Addr) (G : Array GenState → Array GenState → Prop) (F : Nat → Value → Prop) (St : Nat → Shared → Prop),
    WalksS X.prog X.w X.A.in1 g fp wr G bs.length F St ∧ St 0 sE ∧ TruthOf X.prog X.w X.A.in1 F (bAt bs) ∧ ∀ s', Moved wr G sE s' → ∃ HB, Tabbed P HA HB ∧ Inv X pins σ HB s'

theorem walks_mono {prog : Program} {w : World} {A : Around} {I : Addr} {fp wr : List Addr} {n : Nat} {P P' : Nat → Value → Prop} {St : Nat → Heap → Prop} (W : Walks prog w A I fp wr n P St) (hP : ∀ i v, i < n → P i v → P' i v) : Walks prog w A I fp wr n P' St :=
  ⟨W.sub, W.frame, fun i s Q E hi st k => W.item i s Q E hi st fun v h' tk p => k v h' tk (hP i v hi p), W.done, W.self⟩
/-- walks of a tuple, of a list -/
theorem src {a : Addr} {vs : List V} {HA : Hp} {sA : Shared} {Q : Value → Shared → Prop} (I : Inv X pins σ HA sA) (h : SqL X.K HA a vs ∨ SqT X.K HA a vs)
    (k : ∀ (o : Obj) (St : Nat → Heap → Prop), (∀ A' : Around, A'.handled = none → Walks X.prog X.w A' sA.heap.objs.size [sA.heap.objs.size, a] [sA.heap.objs.size] vs.length (fun i y => ∃ z, vs[i]? = some z ∧ RelV z y) St) → St 0 (sA.heap.push o) →
      a < sA.heap.objs.size → Q (.ref sA.heap.objs.size) { sA with heap := sA.heap.push o }) : wpAny (model X.prog X.w) X.A (pyIter (.ref a)) Q X.xe sA := by
  rcases h with h | h
  · obtain ⟨its, rv, p, _⟩ := I.list h
    have pl : sA.heap.IsList a its.toArray := p.isList
    have hlt : a < sA.heap.objs.size := p.lt
    refine wpAny_pyIter_list pl (k _ (fun i h => h.IsListIter sA.heap.objs.size a i ∧ h.IsList a its.toArray) (fun A' hA => ?_) ⟨⟨_, Heap.get?_push_size _ rfl, rfl, rfl⟩, pl.push _⟩ hlt)
    have W := walks_mono (Walks.list (prog := X.prog) (w := X.w) (A := A') hA sA.heap.objs.size a (Nat.ne_of_lt hlt) its.toArray) (P' := fun i y => ∃ z, vs[i]? = some z ∧ RelV z y) fun i v hi e => ?_
    · have e9 : its.toArray.size = vs.length := by rw [rv.length]; exact List.size_toArray
      rw [e9] at W
      exact W
    · rw [List.getElem?_toArray] at e
      have hi' : i < vs.length := by rw [rv.length]; exact (List.getElem?_eq_some_iff.mp e).1
      obtain ⟨u, hu, ru⟩ := rv.get (List.getElem?_eq_getElem hi')
      rw [e] at hu; cases hu
      exact ⟨_, List.getElem?_eq_getElem hi', ru⟩
  · obtain ⟨its, rv, p, _⟩ := I.tuple h
    have pl : sA.heap.IsTuple a its.toArray := p
    have hlt : a < sA.heap.objs.size := by obtain ⟨o, ho, _⟩ := id p; exact Heap.lt_size ho
    refine wpAny_pyIter_tuple pl (k _ (fun i h => h.IsTupleIter sA.heap.objs.size a i ∧ h.IsTuple a its.toArray) (fun A' hA => ?_) ⟨⟨_, Heap.get?_push_size _ rfl, rfl, rfl⟩, pl.push _⟩ hlt)
    have W := walks_mono (Walks.tuple (prog := X.prog) (w := X.w) (A := A') hA sA.heap.objs.size a (Nat.ne_of_lt hlt) its.toArray) (P' := fun i y => ∃ z, vs[i]? = some z ∧ RelV z y) fun i v hi e => ?_
    · have e9 : its.toArray.size = vs.length := by rw [rv.length]; exact List.size_toArray
      rw [e9] at W
      exact W
    · rw [List.getElem?_toArray] at e
      have hi' : i < vs.length := by rw [rv.length]; exact (List.getElem?_eq_some_iff.mp e).1
      obtain ⟨u, hu, ru⟩ := rv.get (List.getElem?_eq_getElem hi')
      rw [e] at hu; cases hu
      exact ⟨_, List.getElem?_eq_getElem hi', ru⟩

theorem gen_seq {c P : Addr} {elt iter : Expr} {x : Str} {px gp : Pos} {scope : Scope} {Bq : L2.St → Hp → V → Bool → Prop} {te : TE} {k : Nat} {QQ : Value → Shared → Prop} {RR : List Bool → Hp → Prop}
    (hr : Room k X.A) (TB : TabB X.base X.mg c P) (hcode : X.env.code = .ref c) (S : GenS X.env scope x) (hi : PE X iter te) (hel : EltQ X P scope x elt Bq) (hfo : ∀ v, genFold iter X.env v = pure v) (I : Inv X pins σ H s)
    (h : te σ H fun v HA => ∃ a vs bs, v = .ref a ∧ (SqL X.K HA a vs ∨ SqT X.K HA a vs) ∧ bs.length = vs.length ∧ (∀ (i : Nat) z b, vs[i]? = some z → bs[i]? = some b → Bq σ HA z b) ∧ TabG HA P ∧ RR bs HA)
    (hQ : ∀ bs HA g sE, RR bs HA → Set1 X pins σ HA P bs g sE → QQ (.ref g) sE) :
    wpAny (model X.prog X.w) X.A (eval (.GeneratorExp elt [⟨.Name x px, iter, [], 0⟩] scope gp) X.env) QQ X.xe s := by
  refine wpAny_GeneratorExp_walksQ hr.hd S.co (closure_ok S.free) S.cell S.dot S.loc S.kind (by have := hr.dp; omega) (thn (hi.run pins s σ H _ I h) fun xv sA ⟨v, HA, IA, rA, a, vs, bs, ev, hsq, hbl, hbq, ⟨ps, hP, ht⟩, qA⟩ => ?_) hfo
  subst ev
  obtain rfl : xv = Value.ref a := rA
  refine src IA hsq fun o St W hst haS => ?_
  have tP : sA.heap.get? P = some { cls := .none, data := .fields ps } := IA.hok P _ hP
  have ltP : P < sA.heap.objs.size := Heap.lt_size tP
  have tP2 : (sA.heap.push o).get? P = some { cls := .none, data := .fields ps } := Heap.get?_push_of_some _ tP
  have hd2 : PySem.W.CodeHd (sA.heap.push o) c P := TB.code.keeps fun b u e => Heap.get?_push_of_some _ (IA.bk b u e)
  have nl2 : (sA.heap.push o).NoLimit := IA.nolimit.push o
  have szp : (sA.heap.push o).objs.size = sA.heap.objs.size + 1 := Heap.size_push ..
  have go : ∀ (code : Value) (hC : Heap) (tk : Nat) (ps' : Array Value), Heap.ExtBut P (sA.heap.push o) hC → (sA.heap.push o).objs.size ≤ hC.objs.size → hC.get? P = some { cls := .none, data := .fields ps' } → (∃ more, ps' = ps ++ more) → TriplesOk ps'.toList →
      wpAny (model X.prog X.w) X.A (builtinsFor X.env.globals X.env.builtins) (fun bi sD =>
        ∃ Ia fp wr n₀ Pf St₀ pz F, Value.ref sA.heap.objs.size = .ref Ia ∧ (∀ A' : Around, A'.handled = none → Walks X.prog X.w A' Ia fp wr n₀ Pf St₀) ∧ St₀ 0 sD.heap ∧ (∀ b ∈ fp, b < sD.heap.objs.size) ∧ sD.heap.NoLimit ∧ cStatics ∉ wr ∧
          (∀ hr2 : Heap, (∀ b o, sD.heap.get? b = some o → hr2.get? b = some o) →
            QuietGen X.prog X.w (genEnv scope (cloFrom X.env.cells scope.names []) sD.heap.objs.size code bi X.env) x [] elt (List.range sD.heap.objs.size) wr Pf pz F hr2) ∧
          (∀ g hE tkE gs, gs.bare = true → sD.heap.objs.size < g → hE.objs.size = g + 1 → (∀ b o, sD.heap.get? b = some o → hE.get? b = some o) →
            WalksS X.prog X.w X.A.in4 g (g :: sD.heap.objs.size :: List.range sD.heap.objs.size) (sD.heap.objs.size :: wr) (GenOnlyQ sD.gens.size) (passing pz n₀ 0).length
              (fun j y => ∃ i, (passing pz n₀ 0)[j]? = some i ∧ F i y) (GenAt X.prog X.w X.A.in4 g sD.gens.size sD.heap.objs.size (List.range sD.heap.objs.size) wr pz n₀ F) →
            GenAt X.prog X.w X.A.in4 g sD.gens.size sD.heap.objs.size (List.range sD.heap.objs.size) wr pz n₀ F 0 { sD with gens := sD.gens.push gs, toks := tkE, heap := hE } →
            QQ (.ref g) { sD with gens := sD.gens.push gs, toks := tkE, heap := hE })) X.xe { sA with heap := hC, toks := tk } := by
    intro code hC tk ps' ext hsz tC hmore htC
    obtain ⟨bm, ob, e1, e2, e3, e4, e5, e6, e7, e8⟩ := TB.bm
    have ncP : cStatics ≠ P := fun e => by
      obtain ⟨_, hns, _⟩ := IA.nolimit
      obtain ⟨o', es, ep, ho, hd, _⟩ := hns
      rw [e, tP] at ho
      cases ho
      cases hd
    have ncl : cStatics < sA.heap.objs.size := let ⟨_, hns, _⟩ := IA.nolimit; hns.lt
    have kC : ∀ b u, b ≠ P → sA.heap.get? b = some u → hC.get? b = some u := fun b u hb e => ext b u hb (Heap.get?_push_of_some _ e)
    refine wpAny_builtinsFor (m := X.mg) (by rw [IA.ok.glob]; exact ((IA.mod.glob.keeps IA.bk).push o).extBut ext TB.gP) e1 e2 (kC _ _ e4 (IA.bk _ _ e5)) e6 e7 e8 ?_
    have two : ∀ b ∈ [sA.heap.objs.size, a], b = sA.heap.objs.size ∨ b = a := fun b hb => by simpa using hb
    have naP : a ≠ P := fun z => by
      rcases hsq with q | q
      · obtain ⟨its, rv, p, _⟩ := IA.list q
        obtain ⟨o', ho, hc, _⟩ := p.isList
        rw [z, tP] at ho
        cases ho
        cases hc
      · obtain ⟨its, rv, p, _⟩ := IA.tuple q
        obtain ⟨o', ho, hc, _⟩ := id p
        rw [z, tP] at ho
        cases ho
        cases hc
    refine ⟨sA.heap.objs.size, _, [sA.heap.objs.size], vs.length, _, St, (fun _ => true), (fun i y => ∃ b, bs[i]? = some b ∧ y = .bool b), rfl, W, ?_, ?_, nl2.extBut ext ncP, ?_, ?_, ?_⟩
    · refine (W X.A hr.hd).frame _ _ _ hst fun b hb u e => ext b u (fun z => ?_) e
      rcases two b hb with z2 | z2
      · exact Nat.ne_of_lt ltP (z.symm.trans z2)
      · exact naP (z2.symm.trans z)
    · intro b hb
      show b < hC.objs.size
      have hlC : sA.heap.objs.size < hC.objs.size := by rw [szp] at hsz; exact hsz
      rcases two b hb with z | z
      · rw [z]; exact hlC
      · rw [z]; exact Nat.lt_trans haS hlC
    · intro z
      have e9 : cStatics = sA.heap.objs.size := by simpa using z
      rw [e9] at ncl
      exact Nat.lt_irrefl _ ncl
    · intro hr2 hrk
      refine ⟨fun A' E' i v s₂ m₂ hA hPv hn hm hk => by simp only [List.forIn_nil]; exact wpAny_pure ⟨rfl, keeps_refl _⟩, fun A' E' i v s₂ m₂ hA hPv hp hn hm hk => ?_⟩
      obtain ⟨z, hz, rz⟩ := hPv
      have hlt : i < bs.length := by rw [hbl]; exact (List.getElem?_eq_some_iff.mp hz).1
      refine wpAny_mono (hel pins σ HA sA _ A' E' z v bs[i] s₂ m₂ IA rfl rfl rfl hA (fun q oq hq e => ?_) hn hm rz (hbq i z _ hz (List.getElem?_eq_getElem hlt))) (fun y s3 r => ⟨⟨_, List.getElem?_eq_getElem hlt, r.1⟩, r.2⟩) fun _ _ e => e
      have hql := Heap.lt_size e
      have hlC : sA.heap.objs.size < hC.objs.size := by rw [szp] at hsz; exact hsz
      refine hk q (List.mem_range.mpr (Nat.lt_trans hql hlC)) (fun zz => ?_) oq (hrk q oq (kC q oq hq e))
      have e9 : q = sA.heap.objs.size := by simpa using zz
      rw [e9] at hql
      exact Nat.lt_irrefl _ hql
    · intro g hE tkE gs hgb hag hszE hkE WE hat
      simp only [GxR.passing_true, List.length_range] at WE
      rw [← hbl] at WE hat
      refine hQ bs HA g _ qA ⟨_, _, _, _, _, WE.in4_1, hat, ?_, fun s' hm => ?_⟩
      · intro j y sj Qj Ej hy hQj
        obtain ⟨i, hij, b, hb, rfl⟩ := hy
        obtain ⟨hj, ej⟩ := List.getElem?_eq_some_iff.mp hij
        rw [List.getElem_range] at ej
        subst ej
        have hQ2 : Qj (bAt bs j) sj := hQj
        unfold bAt at hQ2
        rw [hb] at hQ2
        exact wpAny_truthy_bool hQ2
      · obtain ⟨more, em⟩ := hmore
        have nwr : ∀ b u, sA.heap.get? b = some u → b ∉ hC.objs.size :: [sA.heap.objs.size] := fun b u e hb => by
          have hl := Heap.lt_size e
          have hlC : sA.heap.objs.size < hC.objs.size := by rw [szp] at hsz; exact hsz
          rcases (show b = hC.objs.size ∨ b = sA.heap.objs.size by simpa using hb) with z | z
          · rw [z] at hl; exact Nat.lt_irrefl _ (Nat.lt_trans hl hlC)
          · rw [z] at hl; exact Nat.lt_irrefl _ hl
        have J := inv_tab (more := more) (h' := s'.heap) (g' := s'.gens) (d' := s'.drawn) (t' := s'.toks) IA hP (fun b u hb e => hm.heap b u (nwr b u e) (hkE b u (kC b u hb e)))
          (by rw [← em]; exact hm.heap P _ (nwr P _ tP) (hkE P _ tC)) (AllBare.movedS (IA.bare.push hgb) hm)
        rw [sh_eta sA s' hm.os] at J
        exact ⟨upd HA P (.tbl (ps ++ more)), ⟨⟨ps ++ more, upd_same, by rw [← em]; exact htC⟩, fun b hb => upd_ne hb⟩, J⟩
  refine ⟨nl2, ?_⟩
  cases hf : codeAmong gp ps.toList with
  | none =>
    refine wpAny_genexprCodeX hcode (hd2.code tP2 ht) (hd2.tab tP2) hf fun c' h' tk hx hge hlt hco' _ htab' _ => ?_
    obtain ⟨o1, vv, f1, tf, fl, tg, inF, tx, tt, op, _, _, _, _, _, _, _, _, _, htr, _⟩ := hco'
    exact go _ h' tk _ hx (Nat.le_trans hge (Nat.le_of_lt hlt)) htab'.2 ⟨_, rfl⟩ htr
  | some cv =>
    refine wpAny_genexprCode_hit hcode (hd2.code tP2 ht) hf ?_
    exact go cv (sA.heap.push o) sA.toks ps (Heap.ExtBut.refl _ _) (Nat.le_refl _) tP2 ⟨#[], by simp⟩ ht
def tQ (K : PySem.W.Frag) (P : Addr) (Bq : L2.St → Hp → V → Bool → Prop) (f : List Bool → Bool) (te : TE) : TE := fun σ H Q => te σ H fun v HA => ∃ a vs bs, v = .ref a ∧ (SqL K HA a vs ∨ SqT K HA a vs) ∧ bs.length = vs.length ∧ (∀ (i : Nat) z b, vs[i]? = some z → bs[i]? = some b → Bq σ HA z b) ∧ TabG HA P ∧
  ∀ HB, Tabbed P HA HB → Q (.bl (f bs)) HB
theorem pe_all {c P : Addr} {elt iter : Expr} {x : Str} {px p pos gp : Pos} {scope : Scope} {Bq : L2.St → Hp → V → Bool → Prop} {te : TE} {k : Nat}
    (hr : Room k X.A) (hg : Gl X "all") (hm : X.mg "all" = none) (hbt : bootBuiltins "all" = some (.builtin "all")) (TB : TabB X.base X.mg c P) (hcode : X.env.code = .ref c) (S : GenS X.env scope x) (hi : PE X iter te) (hel : EltQ X P scope x elt Bq) (hfo : ∀ v, genFold iter X.env v = pure v)
    (he : starEach [.GeneratorExp elt [⟨.Name x px, iter, [], 0⟩] scope gp] X.env = (false, eval (.GeneratorExp elt [⟨.Name x px, iter, [], 0⟩] scope gp) X.env) :: starEach [] X.env := by rfl) :
    PE X (.Call (.Name "all" p) [.GeneratorExp elt [⟨.Name x px, iter, [], 0⟩] scope gp] [] pos) (tQ X.K P Bq (fun bs => bs.all id) te) := by
  refine ⟨fun pins s σ H Q I h => ?_⟩
  refine wpAny_Call_Name_kw (ld_blt I hg hm hbt (PyProof.Rows.callWith_builtin1 ?_ he (by rfl)))
  rw [he]
  refine Calls.spliced_cons (gen_seq (RR := fun bs HA => ∀ HB, Tabbed P HA HB → Q (.bl (bs.all id)) HB) hr TB hcode S hi hel hfo I h fun bs HA g sE hR hG => ?_)
  obtain ⟨fp, wr, G, F, St, W, hst, htr, hI⟩ := hG
  refine Calls.spliced_nil (call_all_walkS (W.self 0 _ _ _ hst ⟨g, fp, wr, G, _, F, St, _, rfl, W, hst, htr, fun s' hmv => ?_⟩))
  obtain ⟨HB, hT, J⟩ := hI s' hmv
  refine ⟨.bl _, HB, J, rfl, ?_⟩
  rw [all_bAt bs]
  exact hR HB hT
theorem pe_any {c P : Addr} {elt iter : Expr} {x : Str} {px p pos gp : Pos} {scope : Scope} {Bq : L2.St → Hp → V → Bool → Prop} {te : TE} {k : Nat}
    (hr : Room k X.A) (hg : Gl X "any") (hm : X.mg "any" = none) (TB : TabB X.base X.mg c P) (hcode : X.env.code = .ref c) (S : GenS X.env scope x) (hi : PE X iter te) (hel : EltQ X P scope x elt Bq) (hfo : ∀ v, genFold iter X.env v = pure v)
    (he : starEach [.GeneratorExp elt [⟨.Name x px, iter, [], 0⟩] scope gp] X.env = (false, eval (.GeneratorExp elt [⟨.Name x px, iter, [], 0⟩] scope gp) X.env) :: starEach [] X.env := by rfl) :
    PE X (.Call (.Name "any" p) [.GeneratorExp elt [⟨.Name x px, iter, [], 0⟩] scope gp] [] pos) (tQ X.K P Bq (fun bs => bs.any id) te) := by
  refine ⟨fun pins s σ H Q I h => ?_⟩
  refine wpAny_Call_Name_kw (ld_blt I hg hm boot_any (PyProof.Rows.callWith_builtin1 ?_ he (by rfl)))
  rw [he]
  refine Calls.spliced_cons (gen_seq (RR := fun bs HA => ∀ HB, Tabbed P HA HB → Q (.bl (bs.any id)) HB) hr TB hcode S hi hel hfo I h fun bs HA g sE hR hG => ?_)
  obtain ⟨fp, wr, G, F, St, W, hst, htr, hI⟩ := hG
  refine Calls.spliced_nil (call_any_walkS (W.self 0 _ _ _ hst ⟨g, fp, wr, G, _, F, St, _, rfl, W, hst, htr, fun s' hmv => ?_⟩))
  obtain ⟨HB, hT, J⟩ := hI s' hmv
  refine ⟨.bl _, HB, J, rfl, ?_⟩
  rw [any_bAt bs]
  exact hR HB hT
end
end GW
namespace VL
open PySem PySem.Spec PyProof.Rows L2 GxR

/-! ### all(.. for x in ..), any(.. for x in ..), the element quiet -/
def testL (pb : S → D → Option Bool) (s : S) : List D → Option (List Bool)
  | [] => some []
  | d :: l => match pb s d, testL pb s l with
    | some b, some bs => some (b :: bs)
    | _, _ => none
def eQ (f : List Bool → Bool) (pb : S → D → Option Bool) (it : ME) : ME := fun s => (it s).bind fun d s => match seqOf s d with
  | some l => match testL pb s l with
    | some bs => .ok (.bl (f bs), s)
    | none => .no
  | none => .no
def allB (bs : List Bool) : Bool := bs.all id
def anyB (bs : List Bool) : Bool := bs.any id
def BqOf (K : PySem.W.Frag) (B : Bs) (pb : S → D → Option Bool) : L2.St → Hp → V → Bool → Prop := fun σ H v b => ∃ s th G d, Rep K B th G s σ H ∧ At K th G d v ∧ pb s d = some b
section
variable {K : PySem.W.Frag} {B : Bs} {W : WX} {th : List Addr} {G H H' : Hp} {s : S} {σ : L2.St}
theorem Rep.tabbed (R : Rep K B th G s σ H) {P : Addr} (hP : B.Tb P) (h : Tabbed P H H') : Rep K B th G s σ H' ∧ Le th G H th G H' := by
  obtain ⟨ps, e0, _⟩ := R.tb P hP
  obtain ⟨⟨qs, e1, t1⟩, oth⟩ := h
  have ne : ∀ b o, H b = some o → (∀ p, o ≠ .tbl p) → b ≠ P := fun b o e k z => by rw [z, e0] at e; exact k ps (Option.some.inj e).symm
  refine ⟨⟨R.len, R.slot, fun a o e => ?_, fun P2 h2 => ?_, R.tl, R.nd, fun a h => ?_, fun n ob a h1 h2 => ?_⟩, ⟨List.prefix_rfl, Sub.refl G, fun a o e g n => ⟨?_, g, n⟩⟩⟩
  · have k := R.eG a o e
    by_cases ha : a = P
    · subst ha
      rw [e0] at k
      cases o <;> first
        | exact ⟨qs, e1⟩
        | (cases k; done)
        | (rcases k with k | ⟨u, k⟩ <;> cases k)
        | (obtain ⟨_, k⟩ := k; cases k)
    · rw [oth a ha]; exact k
  · by_cases hp : P2 = P
    · rw [hp]; exact ⟨qs, e1, t1⟩
    · obtain ⟨ps2, e2, t2⟩ := R.tb P2 h2
      exact ⟨ps2, by rw [oth P2 hp]; exact e2, t2⟩
  · by_cases ha : a = P
    · rw [ha, e1]; exact fun z => by cases z
    · rw [oth a ha]; exact R.al a h
  · have o := R.st n ob a h1 h2
    cases ob with
    | lst l => obtain ⟨g, vs, q, r⟩ := o; exact ⟨g, vs, by rw [oth a (ne a _ q fun _ z => nomatch z)]; exact q, r⟩
    | dct l => obtain ⟨g, vs, q, z, r⟩ := o; exact ⟨g, vs, by rw [oth a (ne a _ q fun _ z => nomatch z)]; exact q, z, r⟩
    | ins C l => obtain ⟨g, dx, vs, q, z, r⟩ := o; exact ⟨g, dx, vs, by rw [oth a (ne a _ q fun _ z => nomatch z)]; exact q, z, r⟩
    | dead => trivial
  · by_cases ha : a = P
    · rw [ha, e0] at e; cases e
      rw [ha]; exact ⟨qs, e1⟩
    · rw [oth a ha, e]; exact keepF_self o
theorem testL_get {pb : S → D → Option Bool} : ∀ {l : List D} {bs : List Bool}, testL pb s l = some bs → bs.length = l.length ∧ ∀ (i : Nat) d b, l[i]? = some d → bs[i]? = some b → pb s d = some b
  | [], bs, h => by cases h; exact ⟨rfl, fun i d b e => by simp at e⟩
  | d :: l, bs, h => by
    simp only [testL] at h
    cases h1 : pb s d with
    | none => rw [h1] at h; cases h
    | some b =>
      cases h2 : testL pb s l with
      | none => rw [h1, h2] at h; cases h
      | some cs =>
        rw [h1, h2] at h; cases h
        obtain ⟨i1, i2⟩ := testL_get h2
        refine ⟨by simp [i1], fun i d' b' e1 e2 => ?_⟩
        cases i with
        | zero => simp at e1 e2; subst e1; subst e2; exact h1
        | succ i => simp at e1 e2; exact i2 i d' b' e1 e2
theorem sem_q {P : Addr} {te : TE} {m : ME} {f : List Bool → Bool} {pb : S → D → Option Bool} (hP : B.Tb P) (h : Sem K B W (relE K) te m) : Sem K B W (relE K) (GW.tQ K P (BqOf K B pb) f te) (eQ f pb m) := fun s th G σ H Q R Pq =>
  h s th G σ H _ R (Pq.bind fun d s1 th1 G1 H1 v l1 R1 r1 P1 => by
    cases hd : seqOf s1 d with
    | none => rw [hd] at P1; exact P1.elim
    | some l =>
      rw [hd] at P1
      dsimp only at P1
      cases ht : testL pb s1 l with
      | none => rw [ht] at P1; exact P1.elim
      | some bs =>
        rw [ht] at P1
        obtain ⟨a, vs, rfl, hsq, r⟩ := R1.seq_of r1 hd
        obtain ⟨hl, hb⟩ := testL_get ht
        refine ⟨a, vs, bs, rfl, hsq, by rw [hl, r.length], fun i z b e1 e2 => ?_, R1.tb P hP, fun HB hT => ?_⟩
        · obtain ⟨d', e3, at3⟩ := r.get2 e1
          exact ⟨s1, th1, G1, d', R1, at3, hb i d' b e3 e2⟩
        · obtain ⟨R2, l2⟩ := R1.tabbed hP hT
          exact P1 th1 G1 HB _ l2 R2 rfl)
end
section
variable {X : Cx} {B : Bs} {W : WX} {elt iter : Expr} {te : TE} {m : ME} {x : Str} {px p pos gp : Pos} {scope : Scope} {pb : S → D → Option Bool} {c P : Addr} {k : Nat}
theorem ve_all (hr : Room k X.A) (hg : Gl X "all") (hm : X.mg "all" = none) (hbt : bootBuiltins "all" = some (.builtin "all")) (TB : TabB X.base X.mg c P) (hP : B.Tb P) (hcode : X.env.code = .ref c) (Sc : GenS X.env scope x) (hi : VE X B W iter te m) (hel : GW.EltQ X P scope x elt (BqOf X.K B pb))
    (hfo : ∀ v, genFold iter X.env v = pure v := by intro _; rfl) (he : starEach [.GeneratorExp elt [⟨.Name x px, iter, [], 0⟩] scope gp] X.env = (false, eval (.GeneratorExp elt [⟨.Name x px, iter, [], 0⟩] scope gp) X.env) :: starEach [] X.env := by rfl) :
    VE X B W (.Call (.Name "all" p) [.GeneratorExp elt [⟨.Name x px, iter, [], 0⟩] scope gp] [] pos) (GW.tQ X.K P (BqOf X.K B pb) allB te) (eQ allB pb m) := ⟨GW.pe_all hr hg hm hbt TB hcode Sc hi.pe hel hfo he, sem_q hP hi.sem⟩
theorem ve_any (hr : Room k X.A) (hg : Gl X "any") (hm : X.mg "any" = none) (TB : TabB X.base X.mg c P) (hP : B.Tb P) (hcode : X.env.code = .ref c) (Sc : GenS X.env scope x) (hi : VE X B W iter te m) (hel : GW.EltQ X P scope x elt (BqOf X.K B pb))
    (hfo : ∀ v, genFold iter X.env v = pure v := by intro _; rfl) (he : starEach [.GeneratorExp elt [⟨.Name x px, iter, [], 0⟩] scope gp] X.env = (false, eval (.GeneratorExp elt [⟨.Name x px, iter, [], 0⟩] scope gp) X.env) :: starEach [] X.env := by rfl) :
    VE X B W (.Call (.Name "any" p) [.GeneratorExp elt [⟨.Name x px, iter, [], 0⟩] scope gp] [] pos) (GW.tQ X.K P (BqOf X.K B pb) anyB te) (eQ anyB pb m) := ⟨GW.pe_any hr hg hm TB hcode Sc hi.pe hel hfo he, sem_q hP hi.sem⟩
/-- i <= x < j -/
def pbRange (i j : Int) : S → D → Option Bool := fun _ d => match d with
  | .int z => some (decide (i ≤ z) && decide (z < j))
  | _ => none
theorem elt_range {i j : Int} {k1 k2 : Nat} {p1 p2 p3 p4 : Pos} (hk : scope.kind = .function) (hl : scope.names.lookup x = some .local) (hd : (x == ("__debug__" : Str)) = false := by decide) :
    GW.EltQ X P scope x (.Compare (.Constant (.int i) k1 p1) [.LtE, .Lt] [.Name x p2, .Constant (.int j) k2 p3] p4) (BqOf X.K B (pbRange i j)) := by
  intro pins σ HA sA ce A' E' v u b sB mB I hsc _ _ hA keep hn hm rv hb
  obtain ⟨s, th, G, d, R, at1, hp⟩ := hb
  cases d with
  | int z =>
    cases at1
    simp only [pbRange, Option.some.injEq] at hp
    obtain ⟨t, rfl⟩ := rv
    refine Compare_chain (wpAny_Constant_int (chain_link ?_)) (by with_unfolding_all rfl)
    refine wpAny_Name (wpAny_loadName_local (by rw [hsc]; exact hk) (show ce.scope.names.lookup x = some .local by rw [hsc]; exact hl) hn hm ?_) hd
    refine le_int (wpAny_truthy_bool ?_)
    cases hz : decide (i ≤ z) with
    | false =>
      rw [hz] at hp
      exact ite_ff ⟨by rw [← hp]; rfl, keeps_tok _ _⟩
    | true =>
      rw [hz] at hp
      refine ite_tt (chain_last (wpAny_Constant_int ?_))
      exact lt_int ⟨by rw [← hp]; rfl, keeps_tok _ _⟩
  | _ => simp [pbRange] at hp
end
end VL
namespace VL
open PySem PySem.Spec PyProof.Rows L2

/-! ### defs that take data and give data -/
inductive PR where
  | ok (d : D) | ex (e : Exn) | no
mutual
def noLoc : D → Bool
  | .loc _ => false
  | .exn _ _ _ _ => false
  | .tup l => noLocs l
  | .lst l => noLocs l
  | .dct _ l => noLocs l
  | _ => true
def noLocs : List D → Bool
  | [] => true
  | d :: l => noLoc d && noLocs l
end
def startD (n : Nat) (ds : List D) : List (Option D) := ds.map some ++ List.replicate (n - ds.length) none
def pureOf (n np : Nat) (m : MS) : List D → PR := fun ds => if ds.length = np then match m ⟨startD n ds, []⟩ with
    | .rt d _ => if noLoc d = true then .ok d else .no
    | .nx _ => .ok .non
    | .ex e _ => if noLocs (e.fs.map (·.2)) = true then .ex e else .no
    | _ => .no
  else .no
def eCall (f : List D → PR) (a : MA) : ME := fun s => (a s).bind fun ds s => if noLocs ds = true then match f ds with
    | .ok d => .ok (d, s)
    | .ex e => .ex e s
    | .no => .no
  else .no
abbrev s0 : S := ⟨[], []⟩
def spP (K : PySem.W.Frag) (B : Bs) (f : List D → PR) : Sp := fun vs H Q E => ∃ G ds, Rep K B [] G s0 [] H ∧ AtL K [] G ds vs ∧ match f ds with
  | .ok d => ∀ G' H' v, Le [] G H [] G' H' → Rep K B [] G' s0 [] H' → At K [] G' d v → Q v H'
  | .ex e => ∀ G' H' cls dd, Le [] G H [] G' H' → Rep K B [] G' s0 [] H' → ExAt K B [] G' H' e cls dd → E cls dd H'
  | .no => False
section
variable {K : PySem.W.Frag} {B : Bs} {th th' : List Addr} {G G' H H' : Hp} {s : S} {σ : L2.St}
mutual
theorem At.bare : ∀ {d : D} {v : V}, noLoc d = true → At K th G d v → At K th' G d v
  | .non, _, _, h => h
  | .bl _, _, _, h => h
  | .int _, _, _, h => h
  | .str _, _, _, h => h
  | .tup _, _, n, h => by obtain ⟨a, vs, e1, q, r⟩ := h; exact ⟨a, vs, e1, q, AtL.bare n r⟩
  | .lst _, _, n, h => by obtain ⟨a, vs, e1, q, r⟩ := h; exact ⟨a, vs, e1, q, AtL.bare n r⟩
  | .dct _ _, _, n, h => by obtain ⟨a, vs, e1, q, z, r⟩ := h; exact ⟨a, vs, e1, q, z, AtL.bare n r⟩
  | .scr _, _, _, h => h
  | .loc _, _, n, _ => by cases n
  | .obj _, _, _, h => h
  | .exn _ _ _ _, _, n, _ => by cases n
theorem AtL.bare : ∀ {l : List D} {vs : List V}, noLocs l = true → AtL K th G l vs → AtL K th' G l vs
  | [], _, _, h => h
  | _ :: _, _, n, h => by
    obtain ⟨v, r, e1, q, z⟩ := h
    simp only [noLocs, Bool.and_eq_true] at n
    exact ⟨v, r, e1, At.bare n.1 q, AtL.bare n.2 z⟩
end
theorem Rep.enter (R : Rep K B th G s σ H) : Rep K B [] G s0 [] H := ⟨rfl, fun i d e => by simp at e, R.eG, R.tb, rfl, List.nodup_nil, fun a h => by simp at h, fun n ob a e => by simp at e⟩
theorem Le.enter {th0 : List Addr} (l : Le th0 G H th' G' H') (h : th0 = []) : Le [] G H [] G' H' := ⟨List.prefix_rfl, l.ex, fun a o e g _ => by
  subst h
  obtain ⟨h1, h2, _⟩ := l.fr a o e g (by simp)
  exact ⟨h1, h2, by simp⟩⟩
theorem Rep.leave (R : Rep K B th G s σ H) (l : Le [] G H [] G' H') (R' : Rep K B [] G' s0 [] H') : Rep K B th G' s σ H' ∧ Le th G H th G' H' := by
  have ne : ∀ a, H a ≠ none → H' a ≠ none := fun a h => by
    cases e : H a with
    | none => exact absurd e h
    | some o =>
      cases g : G a with
      | none =>
        obtain ⟨u, hu⟩ := keepF_some (l.fr a o e g (by simp)).1
        rw [hu]; exact fun z => by cases z
      | some u =>
        obtain ⟨w, hw⟩ := keepO_some (R'.eG a u (l.ex a u g))
        rw [hw]; exact fun z => by cases z
  refine ⟨⟨R.len, fun i d e => ?_, R'.eG, R'.tb, R.tl, R.nd, fun a h => ne a (R.al a h), fun n ob a e1 e2 => ?_⟩, ⟨List.prefix_rfl, l.ex, fun a o e g n => ?_⟩⟩
  · obtain ⟨v, h1, h2⟩ := R.slot i d e
    exact ⟨v, h1, h2.mono List.prefix_rfl l.ex⟩
  · have h := R.st n ob a e1 e2
    cases ob with
    | lst z => obtain ⟨g, vs, q, r⟩ := h; exact ⟨(l.fr a _ q g (by simp)).2.1, vs, (l.fr a _ q g (by simp)).1, r.mono List.prefix_rfl l.ex⟩
    | dct z => obtain ⟨g, vs, q, z, r⟩ := h; exact ⟨(l.fr a _ q g (by simp)).2.1, vs, (l.fr a _ q g (by simp)).1, z, r.mono List.prefix_rfl l.ex⟩
    | ins C z => obtain ⟨g, dx, vs, q, z, r⟩ := h; exact ⟨(l.fr a _ q g (by simp)).2.1, dx, vs, (l.fr a _ q g (by simp)).1, z, r.mono List.prefix_rfl l.ex⟩
    | dead => trivial
  · exact ⟨(l.fr a o e g (by simp)).1, (l.fr a o e g (by simp)).2.1, n⟩
theorem sem_call {W : WX} {f : List D → PR} {t : TA} {m : MA} (h : Sem K B W (relA K) t m) : Sem K B W (relE K) (tCallS (spP K B f) (WE W) t) (eCall f m) := fun s th G σ H Q R P =>
  h s th G σ H _ R (P.bind fun ds s1 th1 G1 H1 vs l1 R1 r1 P1 => by
    split at P1
    · rename_i hn
      refine ⟨G1, ds, R1.enter, AtL.bare hn r1, ?_⟩
      cases hf : f ds with
      | ok d =>
        rw [hf] at P1
        intro G' H' v l R2 r2
        obtain ⟨R3, l3⟩ := R1.leave l R2
        exact P1 th1 G' H' v l3 R3 (r2.mono List.nil_prefix (Sub.refl _))
      | ex e =>
        rw [hf] at P1
        intro G' H' cls dd l R2 r2
        obtain ⟨R3, l3⟩ := R1.leave l R2
        exact P1 th1 G' H' cls dd l3 R3 (by obtain ⟨q1, us, q2, q3⟩ := r2; exact ⟨q1, us, q2.mono List.nil_prefix (Sub.refl _), q3⟩)
      | no => rw [hf] at P1; exact P1.elim
    · exact P1.elim)
theorem startD_len {N : List Str} {ds : List D} {vs : List V} (h : vs.length = ds.length) : (startD N.length ds).length = (L2.start N vs).length := by
  simp [startD, L2.start, h]
theorem Rep.start {N : List Str} {ds : List D} {vs : List V} (R : Rep K B [] G s0 [] H) (r : AtL K [] G ds vs) : Rep K B [] G ⟨startD N.length ds, []⟩ (L2.start N vs) H := by
  refine R.slots (startD_len r.length) fun i d e => ?_
  unfold startD at e
  unfold L2.start
  have hl := r.length
  by_cases hi : i < ds.length
  · rw [List.getElem?_append_left (by simpa using hi)] at e
    rw [List.getElem?_append_left (by rw [List.length_map, hl]; exact hi)]
    rw [List.getElem?_map] at e
    cases hd : ds[i]? with
    | none => rw [hd] at e; cases e
    | some z =>
      rw [hd] at e
      cases e
      obtain ⟨v, h1, h2⟩ := r.get hd
      exact ⟨v, by rw [List.getElem?_map, h1]; rfl, h2⟩
  · rw [List.getElem?_append_right (by simpa using Nat.le_of_not_lt hi)] at e
    rw [List.getElem?_replicate] at e
    split at e <;> cases e
theorem body_run {P : Program} {w : World} {mg : Str → Option Value} {base : Heap} {N : List Str} {np : Nat} {W : WX} {t : TS} {m : MS} {vs : List V} {Q : VK} {E : XK} (hW : W = fun c d _ H => E c d H) (h : SemS K B W t m) (hsp : spP K B (pureOf N.length np m) vs H Q E) :
    t { nx := fun _ H' => Q .non H', rt := Q } (L2.start N vs) H := by
  obtain ⟨G, ds, R, r, hm⟩ := hsp
  have key : pureOf N.length np m ds = if ds.length = np then (match m ⟨startD N.length ds, []⟩ with
    | .rt d _ => if noLoc d = true then .ok d else .no
    | .nx _ => .ok .non
    | .ex e _ => if noLocs (e.fs.map (·.2)) = true then .ex e else .no
    | _ => .no) else .no := rfl
  by_cases hl : ds.length = np
  · rw [if_pos hl] at key
    refine h _ _ _ _ _ _ (R.start (N := N) r) ?_
    cases hc : m ⟨startD N.length ds, []⟩ with
    | nx s' =>
      rw [hc] at key
      rw [key] at hm
      exact fun th' G' H' σ' l R' => hm G' H' .non (l.enter rfl) R'.enter rfl
    | rt d s' =>
      rw [hc] at key
      by_cases hn : noLoc d = true
      · rw [key] at hm
        simp only [hn, if_true] at hm
        exact fun th' G' H' σ' v l R' r' => hm G' H' v (l.enter rfl) R'.enter (r'.bare hn)
      · rw [key] at hm
        simp only [hn] at hm
        exact hm.elim
    | ex e s' =>
      rw [hc] at key
      by_cases hn : noLocs (e.fs.map (·.2)) = true
      · rw [key] at hm
        simp only [hn, if_true] at hm
        subst hW
        exact fun th' G' H' σ' cls dd l R' r' => hm G' H' cls dd (l.enter rfl) R'.enter (by obtain ⟨q1, us, q2, q3⟩ := r'; exact ⟨q1, us, q2.bare hn, q3⟩)
      · rw [key] at hm
        simp only [hn] at hm
        exact hm.elim
    | bk s' => rw [hc] at key; rw [key] at hm; exact hm.elim
    | ct s' => rw [hc] at key; rw [key] at hm; exact hm.elim
    | no => rw [hc] at key; rw [key] at hm; exact hm.elim
  · rw [if_neg hl] at key
    rw [key] at hm
    exact hm.elim
theorem sp_len {n np : Nat} {m : MS} {vs : List V} {Q : VK} {E : XK} (hsp : spP K B (pureOf n np m) vs H Q E) : vs.length = np := by
  obtain ⟨G, ds, R, r, hm⟩ := hsp
  by_cases hl : ds.length = np
  · rw [r.length]; exact hl
  · have key : pureOf n np m ds = .no := if_neg hl
    rw [key] at hm
    exact hm.elim
end
/-- the promise of a def that takes data and gives data -/
abbrev FnP (P : Program) (w : World) (K : PySem.W.Frag) (mg : Str → Option Value) (base : Heap) (B : Bs) (k : Nat) (f : Addr) (fd : FuncData) (ps : List Str) (pf : List D → PR) : Prop := FnOk P w K mg base (L2.CX P w) k f fd ps (spP K B pf)
section
variable {P : Program} {w : World} {K : PySem.W.Frag} {mg : Str → Option Value} {base : Heap} {B : Bs} {x qual : Str} {params : Arguments} {body : List Stmt} {scope : Scope} {dvs : List V} {kws : List (Str × V)} {f : Addr} {fd : FuncData}
theorem def_pure {N ps : List Str} {k : Nat} {m : MS} (F : FunD K x qual params body scope dvs kws f fd) (Sc : FnScope N ps scope)
    (hbody : ∀ (cdv : Value) (A : Around) (outer : List Env) (s : Shared) (H : Hp) (E : XK), fd.code = cdv → Room k (A.deeper (envOfC qual scope s.heap.objs.size f cdv)) → ∃ t, VSs (cxOf (L2.CX P w) P w K mg base N qual scope f cdv A outer s H E) B (fun c d _ H => E c d H) body t m) :
    FnP P w K mg base B (k + 1) f fd ps (pureOf N.length ps.length m) :=
  by
  obtain ⟨oc, od, dV, kV, doc, pm, an, cdv, ct, osl, rfl, lk, hcd, _, _⟩ := F.ex
  exact fn_of lk hcd Sc (fun vs H Q E h => sp_len h) fun A outer s H vs Q E hr h => by
    obtain ⟨t, hv⟩ := hbody cdv A outer s H E rfl hr
    exact ⟨t, hv.ps, body_run (P := P) (w := w) (mg := mg) (base := base) rfl hv.sem h⟩
end
section
variable {X : Cx} {B : Bs} {W : WX} {e : Expr} {es : List Expr} {t : TA} {m : MA} {pf : List D → PR} {p pos : Pos} {k : Nat} {f : Addr} {fd : FuncData} {ps : List Str} {x : Str}
theorem ve_call (F : FnP X.prog X.w X.K X.mg X.base B k f fd ps pf) (hr : Room k X.A) (hg : Gl X x) (hm : X.mg x = some (.ref f)) (hk : PySem.W.keepIn X.K (.ref f) = true) (hb : Binds X.K fd ps []) (tk : Takes X W) (ha : VA X B W (e :: es) t m)
    (hdb : (x == ("__debug__" : Str)) = false := by decide) (he : starEach (e :: es) X.env = (false, eval e X.env) :: starEach es X.env := by rfl) (hpl : (backTo pos (starEach es X.env)).any (·.1) = false := by rfl) :
    VE X B W (.Call (.Name x p) (e :: es) [] pos) (tCallS (spP X.K B pf) (WE W) t) (eCall pf m) := ⟨pe_callS F hr hg hm hk hb (fun σ => passAt tk σ) ha.pa hdb he hpl, sem_call ha.sem⟩
end
end VL
namespace VL
open PySem PySem.Spec PyProof.Rows L2

/-! ### a def by its name -/
structure CallOk (P : Program) (w : World) (K : PySem.W.Frag) (mg : Str → Option Value) (base : Heap) (B : Bs) (x : Str) (k : Nat) (ps : List Str) (pf : List D → PR) : Prop where
  ex : ∃ f fd, FnP P w K mg base B k f fd ps pf ∧ mg x = some (.ref f) ∧ PySem.W.keepIn K (.ref f) = true ∧ Binds K fd ps []
section
variable {X : Cx} {B : Bs} {W : WX} {e : Expr} {es : List Expr} {t : TA} {m : MA} {pf : List D → PR} {p pos : Pos} {k n : Nat} {ps : List Str} {x : Str} {a b : Expr} {ta tb : TE} {ma mb : ME}
theorem ve_own_call (c : CallOk X.prog X.w X.K X.mg X.base B x k ps pf) (hr : Room n X.A) (hn : k ≤ n) (hg : Gl X x) (tk : Takes X W) (ha : VA X B W (e :: es) t m)
    (hdb : (x == ("__debug__" : Str)) = false := by decide) (he : starEach (e :: es) X.env = (false, eval e X.env) :: starEach es X.env := by rfl) (hpl : (backTo pos (starEach es X.env)).any (·.1) = false := by rfl) :
    VE X B W (.Call (.Name x p) (e :: es) [] pos) (tCallS (spP X.K B pf) (WE W) t) (eCall pf m) := by
  obtain ⟨f, fd, F, hm, hk, hb⟩ := c.ex
  exact ve_call F (hr.mono hn) hg hm hk hb tk ha hdb he hpl
/-! ### a global that is an int, a text -/
theorem ve_gint {i : Int} (hg : Gl X x) (hm : ∃ t, X.mg x = some (.int i t)) (hd : (x == ("__debug__" : Str)) = false := by decide) : VE X B W (.Name x p) (tC (.int i)) (eC (.int i)) := by
  obtain ⟨t, hm⟩ := hm
  exact ⟨pe_glob hg hm ⟨t, rfl⟩ hd, sem_c fun _ _ => rfl⟩
theorem ve_gstr {z : Str} {l : List Nat} (hg : Gl X x) (hm : ∃ t, X.mg x = some (.str z t)) (h : z.cps = l.toArray := by rfl) (hd : (x == ("__debug__" : Str)) = false := by decide) : VE X B W (.Name x p) (tC (.str z)) (eC (.str l)) := by
  obtain ⟨t, hm⟩ := hm
  refine ⟨pe_glob hg hm ⟨t, rfl⟩ hd, sem_c fun _ _ => ?_⟩
  obtain ⟨c⟩ := z
  have h : c = l.toArray := h
  subst h; rfl
abbrev fLt : D → D → S → R (D × S) := fP (gCmp (fun i j => decide (i < j)) fun i j => decide (i < j))
abbrev fLe : D → D → S → R (D × S) := fP (gCmp (fun i j => decide (i ≤ j)) fun i j => !decide (j < i))
abbrev fGt : D → D → S → R (D × S) := fP (gCmp (fun i j => decide (j < i)) fun i j => decide (j < i))
abbrev fGe : D → D → S → R (D × S) := fP (gCmp (fun i j => decide (j ≤ i)) fun i j => !decide (i < j))
/-! ### times -/
def mulOk (i j : Int) : Bool := decide (-18446744073709551616 < i ∧ i < 18446744073709551616) || decide (-18446744073709551616 < j ∧ j < 18446744073709551616)
def fMul : D → D → S → R (D × S) := fP (gI mulOk fun i j => .int (i * j))
theorem ve_mul (ha : VE X B W a ta ma) (hb : VE X B W b tb mb) : VE X B W (.BinOp a .Mult b pos) (tOp (rI CMul fun i j => .int (i * j)) ta tb) (eOp fMul ma mb) := ⟨pe_op op_mul ha.pe hb.pe, sem_op (semR_I (fun i j h => by
  simp only [mulOk, Bool.or_eq_true, decide_eq_true_eq] at h
  have e : (2 : Int) ^ 64 = 18446744073709551616 := rfl
  show (-(2 ^ 64 : Int) < i ∧ i < (2 ^ 64 : Int)) ∨ (-(2 ^ 64 : Int) < j ∧ j < (2 ^ 64 : Int))
  rw [e]
  exact h) fun _ _ _ _ => rfl) ha.sem hb.sem⟩
/-! ### the block of a comprehension -/
structure BlkC (N : List Str) (sc scope : Scope) (own : List (Str × Nat)) : Prop where
  u : scope.names.all (fun y => decide (scope.names.lookup y.1 = some y.2)) = true
  i : own.all (fun p => decide (N[p.2]? = some p.1)) = true
  f : scope.names.all (fun y => decide (y.2 ≠ .free) || (decide (sc.names.lookup y.1 = some .cell) || decide (sc.names.lookup y.1 = some .free))) = true
  o : scope.names.all (fun y => (decide (y.2 ≠ .local) && decide (y.2 ≠ .cell)) || (decide (y.1 ∈ own.map (·.1)) || decide (y.1 ∉ N))) = true
theorem blk_ok {N : List Str} {sc scope : Scope} {own : List (Str × Nat)} (hk : scope.kind = .function) (h : BlkC N sc scope own) : BlkOk N sc scope own where
  kind := hk
  uniq := fun y hy => of_decide_eq_true (List.all_eq_true.mp h.u y hy)
  ix := fun p hp => of_decide_eq_true (List.all_eq_true.mp h.i p hp)
  free := fun y hy e => by
    have := List.all_eq_true.mp h.f y hy
    simp only [Bool.or_eq_true, decide_eq_true_eq] at this
    rcases this with q | q
    · exact absurd e q
    · exact q
  own := fun y hy e => by
    have := List.all_eq_true.mp h.o y hy
    simp only [Bool.or_eq_true, Bool.and_eq_true, decide_eq_true_eq] at this
    rcases this with q | q
    · rcases e with e | e
      · exact absurd e q.1
      · exact absurd e q.2
    · exact q

theorem hu {A : Around} {n : Nat} (j : Nat) (hr : Room n A) (h : j ≤ 199 := by decide) : A.units + j < cLine := by have := hr.un; omega
theorem gen_sc {env : Env} {scope : Scope} {x : Str} (hk : scope.kind = .function) (hc : scope.isCoroutine = false) (cell : scope.names.all (fun y => decide (y.2 ≠ .cell)) = true) (dot : scope.names.lookup (".0" : Str) = some NameKind.local)
    (loc : scope.names.lookup x = some .local) (fr : scope.names.all (fun y => decide (y.2 ≠ .free)) = true) : GxR.GenS env scope x :=
  ⟨hk, hc, fun y hy => of_decide_eq_true (List.all_eq_true.mp cell y hy), dot, loc, fun y hy e => absurd e (of_decide_eq_true (List.all_eq_true.mp fr y hy))⟩
theorem tk_of {P : Program} {w : World} {K : PySem.W.Frag} {mg : Str → Option Value} {base : Heap} {N : List Str} {qual : Str} {scope : Scope} {f : Addr} {cd : Value} {A : Around} {outer : List Env} {s : Shared} {H : Hp} {E : XK} :
    Takes (cxOf (L2.CX P w) P w K mg base N qual scope f cd A outer s H E) (fun c d _ H => E c d H) := takes_of rfl rfl rfl rfl
theorem vb_len : bootBuiltins "len" = some (.builtin "len") := by decide +kernel
theorem vb_sum : bootBuiltins "sum" = some (.builtin "sum") := by decide +kernel
theorem vb_abs : bootBuiltins "abs" = some (.builtin "abs") := by decide +kernel
theorem vb_max : bootBuiltins "max" = some (.builtin "max") := by decide +kernel
theorem vb_min : bootBuiltins "min" = some (.builtin "min") := by decide +kernel
theorem vb_all : bootBuiltins "all" = some (.builtin "all") := by decide +kernel
theorem vb_any : bootBuiltins "any" = some (.builtin "any") := by decide +kernel
theorem vb_sorted : bootBuiltins "sorted" = some (.builtin "sorted") := by decide +kernel
theorem vb_int : bootBuiltins "int" = some (.type "int") := by decide +kernel
theorem vb_bool : bootBuiltins "bool" = some (.type "bool") := by decide +kernel
theorem vb_str : bootBuiltins "str" = some (.type "str") := by decide +kernel
theorem vb_list : bootBuiltins "list" = some (.type "list") := by decide +kernel
theorem vb_tuple : bootBuiltins "tuple" = some (.type "tuple") := by decide +kernel
theorem vb_set : bootBuiltins "set" = some (.type "set") := by decide +kernel
theorem vb_dict : bootBuiltins "dict" = some (.type "dict") := by decide +kernel
/-! ### all, any of a list of truths -/
def blsD : List D → Option (List Bool)
  | [] => some []
  | .bl b :: l => (blsD l).map (b :: ·)
  | _ => none
theorem blsD_at {K : PySem.W.Frag} {th : List Addr} {G : Hp} : ∀ {l : List D} {vs : List V} {bs : List Bool}, AtL K th G l vs → blsD l = some bs → vs = bs.map V.bl
  | [], _, _, h, e => by cases h; cases e; rfl
  | d :: l, _, bs, h, e => by
    obtain ⟨v, r, rfl, q, z⟩ := h
    cases d <;> simp only [blsD] at e <;> first
      | (cases e; done)
      | (cases hb : blsD l with
         | none => rw [hb] at e; cases e
         | some cs =>
           rw [hb] at e
           cases e
           cases q
           rw [blsD_at z hb]; rfl)
def gAllL (f : List Bool → Bool) : S → D → Option D := fun s d => match lstOf s d with
  | some l => match blsD l with
    | some bs => some (.bl (f bs))
    | none => none
  | none => none
theorem semC_all {K : PySem.W.Frag} : SemC K B W (rAll K) (c1 (gAllL allB)) := semC_1 fun s th G σ H Q d v z R h e P => by
  simp only [gAllL] at e
  cases hl : lstOf s d with
  | none => rw [hl] at e; cases e
  | some l =>
    rw [hl] at e
    dsimp only at e
    cases hb : blsD l with
    | none => rw [hb] at e; cases e
    | some bs =>
      rw [hb] at e
      cases e
      obtain ⟨a, vs, rfl, q, r⟩ := R.lst_of h hl
      cases blsD_at r hb
      exact ⟨a, bs, rfl, .inl (.inl q), Post.ok (rel := relE K) P R rfl⟩
theorem semC_any {K : PySem.W.Frag} : SemC K B W (rAny K) (c1 (gAllL anyB)) := semC_1 fun s th G σ H Q d v z R h e P => by
  simp only [gAllL] at e
  cases hl : lstOf s d with
  | none => rw [hl] at e; cases e
  | some l =>
    rw [hl] at e
    dsimp only at e
    cases hb : blsD l with
    | none => rw [hb] at e; cases e
    | some bs =>
      rw [hb] at e
      cases e
      obtain ⟨a, vs, rfl, q, r⟩ := R.lst_of h hl
      cases blsD_at r hb
      exact ⟨a, bs, rfl, .inl (.inl q), Post.ok (rel := relE K) P R rfl⟩

/-! ### the reading that the mirror itself tells -/
def cE (K : PySem.W.Frag) (B : Bs) (W : WX) (m : ME) : TE := fun σ H Q => ∃ s th G, Rep K B th G s σ H ∧ Post K B W σ th G H (relE K) (m s) Q
def cTt (K : PySem.W.Frag) (B : Bs) (W : WX) (m : MT) : TT := fun σ H Q => ∃ s th G, Rep K B th G s σ H ∧ Post K B W σ th G H relT (m s) Q
theorem ve_c {K : PySem.W.Frag} {t : TE} (h : VE X B W a t ma) (hK : X.K = K := by rfl) : VE X B W a (cE K B W ma) ma := by
  subst hK
  exact ⟨⟨fun pins s σ H Q I ⟨s', th, G, R, P⟩ => h.pe.run pins s σ H Q I (h.sem s' th G σ H Q R P)⟩, fun s th G σ H Q R P => ⟨s, th, G, R, P⟩⟩
theorem vts_c {K : PySem.W.Frag} {t : TT} {mt : MT} {ifs : List Expr} (h : VTs X B W ifs t mt) (hK : X.K = K := by rfl) : VTs X B W ifs (cTt K B W mt) mt := by
  subst hK
  exact ⟨⟨fun pins s σ H Q I ⟨s', th, G, R, P⟩ => h.pt.run pins s σ H Q I (h.sem s' th G σ H Q R P)⟩, fun s th G σ H Q R P => ⟨s, th, G, R, P⟩⟩

/-! ### name = [..] on one line -/
variable {elt tg iter : Expr} {ifs : List Expr} {scope : Scope} {own : List (Str × Nat)} {spos py : Pos} {wi : TI} {g : TG} {tt : TT} {te : TE} {mi : MA} {mg : MG} {mt : MT} {me : ME} {y : Str}
theorem vs_setLc (i : Nat) {ef : MF → ME} (hef : ∀ {X : Cx} {e : Expr} {t : TE} {mf : MF}, VF X B W e t mf → VE X B W e t (ef mf)) (hc : X.calm = true) (hN : X.N.Nodup) (hi : VI X B W tg iter wi mi) (ok : BlkOk X.N X.env.scope scope own)
    (hg : ∀ (s : Shared) (H : Hp) (C : Addr) (cl : List (Str × Addr)) (fp : List Addr), VG (X.blk s H scope (compEnvC scope cl C X.env) fp) B Wf tg g mg) (hin : GIn g (own.map (·.2))) (hmono : GMono g)
    (ht : ∀ (s : Shared) (H : Hp) (C : Addr) (cl : List (Str × Addr)) (fp : List Addr), VTs (X.blk s H scope (compEnvC scope cl C X.env) fp) B Wf ifs tt mt)
    (he : ∀ (s : Shared) (H : Hp) (C : Addr) (cl : List (Str × Addr)) (fp : List Addr), VE (X.blk s H scope (compEnvC scope cl C X.env) fp) B Wf elt te me) (s0 : Shared)
    (hy : X.N[i]? = some y := by rfl) (hyl : X.env.scope.names.lookup y = some .local := by rfl) (hsw : swapsWith (.ListComp elt [⟨tg, iter, ifs, 0⟩] scope pos) (some (.Name y py)) spos.line X.env = pure true := by rfl)
    (hs : ∀ x, foldedSetIterable iter X.env x = pure x := by intro _; rfl) :
    VS X B W (.Assign [.Name y py] (.ListComp elt [⟨tg, iter, ifs, 0⟩] scope pos) spos) (tAsg (tLc wi g tt te (own.map (·.2))) (gName i)) (sAsg (ef (fLc mi mg mt me (own.map (·.2)))) (gN i)) :=
  ⟨ps_setLc hc hN hy hyl hsw hi.pi ok (fun s H C cl fp => (hg s H C cl fp).pg) (fun s H C cl fp => (ht s H C cl fp).pt) (fun s H C cl fp => (he s H C cl fp).pe) hs,
    fun s th G σ H Dn R P => (hef (vf_lc (pos := pos) hc hN hi ok hg hin hmono ht he s0 hs)).sem s th G σ H _ R (P.to fun d s' th' G' H' v l' R' r P' => P'.nx0 (R'.sets r))⟩
end
end VL
/-! t[::-1] of tuples -/
namespace TR
open PySem PySem.Spec PyProof.Rows L2
section
variable {prog : Program} {w : World} {A : Around} {E : Value → Shared → Prop} {s : Shared}
theorem adj_back (n : Nat) : Builtin.Slice.sliceAdjust none none (-1) (n : Int) = ((n : Int) - 1, -1) := by
  unfold Builtin.Slice.sliceAdjust
  have neg : (-1 : Int) < 0 := by omega
  simp [neg]
theorem places_back (n : Nat) : Builtin.Slice.slicePlaces ((n : Int) - 1) (-1) (-1) = n := by
  unfold Builtin.Slice.slicePlaces
  have neg : ¬ ((-1 : Int) > 0) := by omega
  simp only [neg, if_false]
  split <;> simp <;> omega
theorem applied_back {sl : Addr} {vs : Value} {n : Nat} {Q : Int × Int × Nat → Shared → Prop} (hsl : s.heap.IsSliceOf sl .none .none vs) (ps : IsPart vs (some (-1)))
    (k : Q ((n : Int) - 1, -1, n) s) : wpAny (model prog w) A (Builtin.Slice.sliceApplied (.ref sl) (pure (n : Int))) Q E s := by
  obtain ⟨o3, g3, c3, d3⟩ := id hsl
  unfold Builtin.Slice.sliceApplied Builtin.Slice.sliceFields
  refine wpAny_bind (wpAny_bind (wpAny_field g3 d3 (x := .none) rfl (wpAny_bind (wpAny_field g3 d3 (x := .none) rfl (wpAny_bind (wpAny_field g3 d3 (x := vs) rfl (wpAny_pure ?_)))))))
  refine wpAny_bind (HT.slicePart_ ps ?_)
  show wpAny _ _ (if ((-1 : Int) == 0) = true then _ else _) _ _ s
  rw [if_neg (by decide)]
  refine wpAny_bind (HT.slicePart_ .none (wpAny_bind (HT.slicePart_ .none (wpAny_bind (wpAny_pure ?_)))))
  show wpAny _ _ (match Builtin.Slice.sliceAdjust none none (-1) (n : Int) with | (p, q) => pure (p, (-1 : Int), Builtin.Slice.slicePlaces p q (-1))) _ _ s
  rw [adj_back n]
  show wpAny _ _ (pure ((n : Int) - 1, (-1 : Int), Builtin.Slice.slicePlaces ((n : Int) - 1) (-1) (-1))) _ _ s
  rw [places_back]
  exact wpAny_pure k
theorem fm_congr {α β : Type} {f g : α → Option β} : ∀ {l : List α}, (∀ a ∈ l, f a = g a) → l.filterMap f = l.filterMap g
  | [], _ => rfl
  | a :: l, h => by rw [List.filterMap_cons, List.filterMap_cons, h a List.mem_cons_self, fm_congr fun b hb => h b (List.mem_cons_of_mem _ hb)]
theorem pick_back (xs : Array Value) : ((List.range xs.size).filterMap fun (m : Nat) => xs[(((xs.size : Int) - 1) + (m : Int) * (-1)).toNat]?).toArray = xs.toList.reverse.toArray := by
  have e := PySem.W.krv_pick xs
  unfold slicePick at e
  rw [PySem.W.krv_bounds] at e
  rw [← e]
  show _ = ((sliceRange ((xs.size : Int) - 1) (-1) (-1)).filterMap (xs[·]?)).toArray
  rw [PySem.W.krv_sliceRange, List.filterMap_map]
  congr 1
  apply fm_congr
  intro m hm
  have := List.mem_range.mp hm
  show xs[(((xs.size : Int) - 1) + (m : Int) * (-1)).toNat]? = xs[xs.size - 1 - m]?
  congr 1
  omega
theorem item_back {t sl : Addr} {items : Array Value} {vs : Value} {Q : Value → Shared → Prop} (ht : IsTup s.heap t items) (hsl : s.heap.IsSliceOf sl .none .none vs) (ps : IsPart vs (some (-1)))
    (k : Q (.ref s.heap.objs.size) { s with heap := s.heap.push { cls := .type "tuple", data := .seq items.toList.reverse.toArray } })
    (hz : items.size ≤ sizeLine) : wpAny (model prog w) A (getItem (.ref t) (.ref sl)) Q E s := by
  have fits : sizeOk (.seq items.toList.reverse.toArray) := by
    show items.toList.reverse.toArray.size ≤ sizeLine
    rw [List.size_toArray, List.length_reverse, Array.length_toList]
    exact hz
  obtain ⟨o3, g3, c3, d3⟩ := id hsl
  have hT3 : s.TypeIs (.ref sl) "slice" := ⟨o3, g3, c3⟩
  unfold getItem
  try with_reducible refine wpAny_holding ?_
  first | refine wpAny_bind (wpAny_pure ?_) | skip
  refine wpAny_bind (wpAny_sequenceKey ht.typeIs (by decide) ?_)
  refine wpAny_bind (wpAny_callSpecial?_slot (name := Str.ofString "__getitem__") ht.typeIs PyProof.Rows.slot_tuple_getitem
    (wpAny_call_entry PyProof.Rows.slot_tuple_getitem ht.typeIs entry_tuple_getitem ?_ (args_tuple_getitem _ _)))
  show wpAny _ _ (Builtin.Tuple.tupleItemsOf (.ref t) >>= _) _ _ s
  refine wpAny_bind (tupleItemsOf_ ht ?_)
  refine wpAny_bind (wpAny_typeOf hT3 ?_)
  rw [if_pos (by decide)]
  refine wpAny_bind (applied_back hsl ps ?_)
  have hno : ¬ ((((items.size : Int) - 1) == 0 && (-1 : Int) == 1 && items.size == items.size) = true) := by
    rw [show ((-1 : Int) == 1) = false by decide, Bool.and_false, Bool.false_and]
    exact Bool.false_ne_true
  show wpAny _ _ (if (((items.size : Int) - 1) == 0 && (-1 : Int) == 1 && items.size == items.size) = true then _ else _) _ _ s
  rw [if_neg hno, pick_back]
  first
    | exact wpAny_bind (m := Builtin.Tuple.tupleExact _) (wpAny_newObj_type (wpAny_pure ⟨_, rfl, wpAny_pure k⟩) fits)
    | exact wpAny_bind (m := Builtin.Tuple.tupleExact _) (wpAny_newObj_type (wpAny_bind (wpAny_pure (wpAny_pure ⟨_, rfl, wpAny_pure k⟩))) fits)
    | exact wpAny_bind (wpAny_bind (m := Builtin.Tuple.tupleExact _) (wpAny_newObj_type (wpAny_pure (wpAny_pure ⟨_, rfl, wpAny_pure k⟩)) fits))
    | exact wpAny_bind (wpAny_bind (m := Builtin.Tuple.tupleExact _) (wpAny_newObj_type (wpAny_pure ⟨_, rfl, wpAny_pure k⟩) fits))
end
section
variable {X : Cx}
/-- xs[::-1] of a list or a tuple -/
def tBack (K : PySem.W.Frag) (te : TE) : TE := fun σ H Q => te σ H fun x H1 => ∃ a xs, x = .ref a ∧ ((SqL K H1 a xs ∧ ∀ p, H1 p = none → Q (.ref p) (upd H1 p (.lst xs.reverse))) ∨ (SqT K H1 a xs ∧ NewT H1 xs.reverse Q))
theorem pe_back {e : Expr} {te : TE} {k : Nat} {p1 p2 p3 pos : Pos} (he : PE X e te) : PE X (.Subscript e (.Slice none none (some (.UnaryOp .USub (.Constant (.int 1) k p1) p2)) p3) pos) (tBack X.K te) := by
  refine ⟨fun pins s σ H Q I h => Subscript_ (thn (he.run pins s σ H _ I h) fun v s1 ⟨x, H1, I1, r1, a, xs, ex, q1⟩ => ?_)⟩
  subst ex
  cases r1
  have minus : PO X (some (.UnaryOp .USub (.Constant (.int 1) k p1) p2)) (tPart (tUn (rU fun i => .int (-i)) (tC (.int 1)))) := po_some (pe_un un_neg pe_int)
  refine wpAny_Slice (thn (po_none.run pins s1 σ H1 (fun o Hx => o = none ∧ Hx = H1) I1 ⟨rfl, rfl⟩) fun vl s2 ⟨l, H2, I2, pl, el, e2⟩ => ?_)
  subst el e2
  refine thn (po_none.run pins s2 σ H2 (fun o Hx => o = none ∧ Hx = H2) I2 ⟨rfl, rfl⟩) fun vu s3 ⟨u, H3, I3, pu, eu, e3⟩ => ?_
  subst eu e3
  refine thn (minus.run pins s3 σ H3 (fun o Hx => o = some (-1) ∧ Hx = H3) I3 ⟨1, rfl, -1, rfl, rfl, rfl⟩) fun vs s4 ⟨o, H4, I4, ps, eo, e4⟩ => ?_
  subst eo e4
  have I5 : Inv X pins σ H4 { s4 with heap := s4.heap.push { cls := .type "slice", data := .fields #[vl, vu, vs] } } := I4.kept (t' := s4.toks) fun b ob q => Heap.get?_push_of_some _ q
  show wpAny (model X.prog X.w) X.A (subscriptTail e (.Slice none none (some (.UnaryOp .USub (.Constant (.int 1) k p1) p2)) p3) (.ref a) (.ref s4.heap.objs.size)) (EP X pins σ Q) X.xe _
  rcases q1 with ⟨hx, q⟩ | ⟨hx, q⟩
  · obtain ⟨its, r, ht, hz⟩ := I5.list hx
    have hl := r.length
    refine tail_any (ops := [.ref a, .ref s4.heap.objs.size]) ht.isList.typeIs (PySem.slot_list_getitem.lookup) ?_ (by with_unfolding_all rfl)
    refine wpAny_getItem_list_slice ht.isList (Heap.IsSliceOf.new _ vl vu vs) pl pu ps (by decide) ?_ (by rw [List.size_toArray]; omega)
    rw [PySem.W.krv_pick]
    exact ⟨.ref _, _, I5.laid (t' := s4.toks) (o := .lst xs.reverse) (fun b ob q => Heap.get?_push_of_some _ q) (Nat.le_refl _) ⟨by rw [List.length_reverse]; exact hz, _, 0, r.reverse, Heap.get?_push_size _ rfl⟩, rfl, q _ (I5.hok.fresh (Nat.le_refl _))⟩
  · obtain ⟨its, r, ht, hz⟩ := I5.tuple hx
    have hl := r.length
    have e0 : vl = .none := by cases pl; rfl
    have e1 : vu = .none := by cases pu; rfl
    subst e0 e1
    refine tail_any (ops := [.ref a, .ref s4.heap.objs.size]) ht.typeIs PyProof.Rows.slot_tuple_getitem.lookup ?_ (by with_unfolding_all rfl)
    refine item_back ht (Heap.IsSliceOf.new _ _ _ vs) ps ?_ (by rw [List.size_toArray]; omega)
    exact new_tup I5 r.reverse (by rw [List.length_reverse]; exact hz) q s4.toks
end
end TR
/-! enumerate over tuples -/
namespace ET
open PySem PySem.Spec PyProof.Rows L2
theorem newT (t : Addr) (items : Array Value) :
    Meets (Builtin.«enumerate.__new__» ⟨[.type "enumerate", .ref t], []⟩) (fun _ R s => s.heap.IsTuple t items ∧
      R (.ok (.ret (.ref (s.heap.push { cls := .type "tuple_iterator", data := .fields #[.ref t, .int 0 0] }).objs.size)))
        { s with heap := (s.heap.push { cls := .type "tuple_iterator", data := .fields #[.ref t, .int 0 0] }).push { cls := .type "enumerate", data := .fields #[.none, .bool false, .ref s.heap.objs.size, rawInt 0, .none, .none] } }) :=
  .of_wp fun prog w A R s h => by
    obtain ⟨hp, g, d, tk, os⟩ := s
    obtain ⟨hT, h⟩ := h
    have hsub := sub_enumerate
    have q1 : ∀ {A' : Around} {E : Value → Shared → Prop} {Q : Value → Shared → Prop}, Q (.ref hp.objs.size) ⟨hp.push { cls := .type "tuple_iterator", data := .fields #[.ref t, .int 0 0] }, g, d, tk, os⟩ → wpAny (model prog w) A' (pyIter (.ref t)) Q E ⟨hp, g, d, tk, os⟩ :=
      fun q => (begins_tuple t items).iter prog w _ _ ⟨hp, g, d, tk, os⟩ _ hT q
    wp_walk using q1
    refine wpAny_stack_any fun st => wpAny_pure ?_
    split
    · rename_i c _ _ _ _ _
      cases (c == Value.type "enumerate") <;> (wp_walk using q1; exact ⟨_, rfl, h⟩)
    · wp_walk using q1
      exact ⟨_, rfl, h⟩
section
variable {prog : Program} {w : World} {A : Around} {E : Value → Shared → Prop} {s : Shared}
theorem make {t : Addr} {items : Array Value} {Q : Value → Shared → Prop} (hT : s.heap.IsTuple t items)
    (k : ∀ hh, IsEnum hh (s.heap.objs.size + 1) s.heap.objs.size 0 .none → hh.IsTupleIter s.heap.objs.size t 0 → hh.objs.size = s.heap.objs.size + 2 →
      (∀ b o, s.heap.get? b = some o → hh.get? b = some o) → Q (.ref (s.heap.objs.size + 1)) { s with heap := hh }) :
    wpAny (model prog w) A (call (.type "enumerate") [.ref t]) Q E s := by
  refine callType_new F.called_enumerate (by decide) (F.typeCall_enumerate_1 _) (F.newCall_enumerate_1 _) (fun obj => F.args_object_init_2 obj _) F.entry_enumerate_new
    (newT t items) ⟨hT, ?_⟩
  have hz : (s.heap.push { cls := .type "tuple_iterator", data := .fields #[.ref t, .int 0 0] }).objs.size = s.heap.objs.size + 1 := Heap.size_push ..
  show _ ∧ _
  rw [hz]
  have he : IsEnum ((s.heap.push { cls := .type "tuple_iterator", data := .fields #[.ref t, .int 0 0] }).push
      { cls := .type "enumerate", data := .fields #[.none, .bool false, .ref s.heap.objs.size, rawInt 0, .none, .none] }) (s.heap.objs.size + 1) s.heap.objs.size 0 .none := by
    have q := Heap.get?_push_size (s.heap.push { cls := .type "tuple_iterator", data := .fields #[.ref t, .int 0 0] })
      (o := { cls := .type "enumerate", data := .fields #[.none, .bool false, .ref s.heap.objs.size, rawInt 0, .none, .none] }) rfl
    rw [hz] at q; exact q
  exact ⟨⟨_, he, rfl⟩, k _ he ⟨_, Heap.get?_push_of_some _ (Heap.get?_push_size _ rfl), rfl, rfl⟩ (by rw [Heap.size_push, hz]) fun b o x => Heap.get?_push_of_some _ (Heap.get?_push_of_some _ x)⟩
end
/-- the tuple at a, each item in a new pair with its place -/
def IteT (K : PySem.W.Frag) (a : Addr) : It where
  go := fun i H => ∃ (xs : List V) (x : V), SqT K H a xs ∧ xs[i]? = some x
  yld := fun i H v H' => ∃ T x, v = .ref T ∧ H T = none ∧ H' = upd H T (.tup [.int (i : Nat), x]) ∧ ∀ xs, SqT K H a xs → xs[i]? = some x
  stop := fun i H => ∃ xs : List V, SqT K H a xs ∧ xs.length ≤ i
theorem turn {P : Program} {w : World} {K : PySem.W.Frag} {elts : List Expr} {kk : Nat} {tpos : Pos} (a e it : Addr) (dis : a ≠ it ∧ a ≠ e ∧ e ≠ it) :
    Turn P w K (.Tuple elts kk tpos) (IteT K a) [e, it] e (fun i h => (∃ old, IsEnum h e it ((i : Nat) : Int) old) ∧ h.IsTupleIter it a i) where
  mem := by simp
  obj := fun i h st b hb => by
    obtain ⟨⟨old, he⟩, o, ho, hc, hd⟩ := st
    rcases (show b = e ∨ b = it by simpa using hb) with rfl | rfl
    · exact ⟨_, he, fun v q => nomatch q⟩
    · exact ⟨o, ho, fun v q => by rw [hd] at q; cases q⟩
  keep := fun i h h' st k => ⟨⟨st.1.choose, k e (by simp) _ st.1.choose_spec⟩, st.2.at fun o q => k it (by simp) o q⟩
  item := by
    intro X hP hw hK hc i pins s σ H E I hf st hg
    subst hP hw hK
    obtain ⟨⟨old, he⟩, hit⟩ := st
    obtain ⟨xs, x, hq, hx⟩ := hg
    obtain ⟨its, rv, p, hz⟩ := I.tuple hq
    obtain ⟨u, hu, ru⟩ := rv.get hx
    have hel : e < s.heap.objs.size := Heap.lt_size he
    have hil : it < s.heap.objs.size := by obtain ⟨_, q, _⟩ := hit; exact Heap.lt_size q
    have hpt : s.heap.IsTuple a its.toArray := p
    have hlt : i < its.toArray.size := by
      rw [List.size_toArray, ← rv.length]
      exact (List.getElem?_eq_some_iff.mp hx).1
    refine wpAny_pyNext_enum_itemD (Draws.tuple (show X.A.in1.handled = none from I.ok.hd hc) it a dis.1 its.toArray) he ⟨hit, hpt⟩ hlt dis.2.2 (by simp [dis.2.2, Ne.symm dis.2.1]) fun y hh tk hy ho hst hT hsz hk => ?_
    have ey : y = u := by
      have q : its.toArray[i]? = some u := by simpa using hu
      rw [q] at hy
      exact (Option.some.inj hy).symm
    subst ey
    refine ⟨_, rfl, wpAny_letOwnedTupleGo_enum (s := { s with heap := hh, toks := tk + 1 }) ho fun h2 he2 sb => ?_⟩
    have hT2 : h2.get? s.heap.objs.size = some { cls := .type "tuple", data := .seq #[.int i tk, y] } := (sb.2 _ (Nat.ne_of_gt hel)).trans hT
    have new : ObjOk X.prog X.w (upd H s.heap.objs.size (.tup [.int (i : Nat), x])) h2 s.heap.objs.size (.tup [.int (i : Nat), x]) :=
      ⟨by show 2 ≤ sizeLine; decide, [.int i tk, y], .cons ⟨_, rfl⟩ (.cons ru .nil), ⟨_, hT2, rfl, _, rfl⟩⟩
    have I1 : Inv X pins σ (upd H s.heap.objs.size (.tup [.int (i : Nat), x])) { s with heap := h2, toks := tk + 1 } :=
      I.turnedNew (ch := [e, it]) (fun b ob hb q => (sb.2 b (fun z => hb (by simp [z]))).trans (hk b ob (fun z => hb (by simp [z])) (fun z => hb (by simp [z])) q)) hf (Nat.le_refl _) new
    refine ⟨.ref s.heap.objs.size, _, I1, rfl, ⟨_, x, rfl, I.hok.fresh (Nat.le_refl _), rfl, fun ys hy => by rw [I.tuple_inj hy hq]; exact hx⟩, ⟨⟨y, ?_⟩, hst.1.at fun o q => (sb.2 it (Ne.symm dis.2.2)).trans q⟩, fun b hb => ?_⟩
    · rw [show ((i + 1 : Nat) : Int) = (i : Int) + 1 by omega]; exact he2
    · have hb' : b < s.heap.objs.size := by
        rcases (show b = e ∨ b = it by simpa using hb) with z | z <;> rw [z] <;> assumption
      rw [upd_ne (Nat.ne_of_lt hb')]
      exact (hf b hb).1
  done := by
    intro X hP hw hK hc i pins s σ H E I hf st hg
    subst hP hw hK
    obtain ⟨⟨old, he⟩, hit⟩ := st
    obtain ⟨xs, hq, hx⟩ := hg
    obtain ⟨its, rv, p, hz⟩ := I.tuple hq
    have hpt : s.heap.IsTuple a its.toArray := p
    obtain ⟨f0, f1, f2, f3, f4, f5⟩ := hf it (by simp)
    have none : its.toArray[i]? = none := by
      rw [List.getElem?_toArray, List.getElem?_eq_none_iff]
      have := rv.length
      omega
    have D : Draws X.prog X.w X.A.in1 it [it, a] i (fun _ _ => False) (fun j hh => j = i ∧ hh.IsTupleIter it a i ∧ hh.IsTuple a its.toArray) :=
      { live := fun _ _ st => let ⟨o, ho, _⟩ := st.2.1; ⟨o, ho⟩
        frame := fun _ _ _ st hk => ⟨st.1, st.2.1.at fun o e => hk it (by simp) o e, st.2.2.at fun o e => hk a (by simp) o e⟩
        item := fun j _ _ _ lt st _ => absurd st.1 (Nat.ne_of_lt lt)
        done := fun s Q E st hE => wpAny_nextOf_tuple_end (show X.A.in1.handled = .none from I.ok.hd hc) st.2.1 st.2.2 none hE }
    exact wpAny_pyNext_enum_endD D he ⟨rfl, hit, hpt⟩ fun hh eb => ⟨rfl, I.turned (t' := s.toks) (fun b o hb q => eb b o hb q) f0 f1 f3 f4 f5⟩
  self := fun A i s Q E st h => wpAny_pyIter_enum st.1.choose_spec h
def iEnumT (K : PySem.W.Frag) (ta : TA) : TI := fun σ H R => ta σ H fun vs H1 => ∃ a xs, vs = [.ref a] ∧ SqT K H1 a xs ∧ R (IteT K a) H1
theorem pi_enumT {X : Cx} {e : Expr} {ta : TA} {p pos tpos : Pos} {elts : List Expr} {kk : Nat} (hg : Gl X "enumerate") (hm : X.mg "enumerate" = none) (ha : PA X [e] ta) (hs : starEach [e] X.env = [(false, eval e X.env)] := by rfl) :
    PI X (.Tuple elts kk tpos) (.Call (.Name "enumerate" p) [e] [] pos) (iEnumT X.K ta) := by
  refine ⟨fun pins s σ H R I h => Call_ (ld_blt I hg hm boot_enumerate (PyProof.Rows.callWith_type1 (thn (ha.run pos pins s σ H _ I h) fun us s1 ⟨vs, H1, I1, r1, q1⟩ => ?_) hs rfl))⟩
  obtain ⟨a, xs, ex, hq, q⟩ := q1
  subst ex
  cases r1 with
  | cons r rr =>
    cases rr
    cases r
    obtain ⟨its, rv, pt, hz⟩ := I1.tuple hq
    have hpt : s1.heap.IsTuple a its.toArray := pt
    have la : a < s1.heap.objs.size := by obtain ⟨o, ho, _⟩ := hpt; exact Heap.lt_size ho
    refine make hpt fun hh he hit hsz hk => wpAny_pyIter_enum he ?_
    have I2 : Inv X pins σ H1 { s1 with heap := hh } := I1.kept (t' := s1.toks) hk
    have dis : a ≠ s1.heap.objs.size ∧ a ≠ s1.heap.objs.size + 1 ∧ s1.heap.objs.size + 1 ≠ s1.heap.objs.size := ⟨Nat.ne_of_lt la, Nat.ne_of_lt (Nat.lt_succ_of_lt la), Nat.succ_ne_self _⟩
    refine ⟨s1.heap.objs.size + 1, [s1.heap.objs.size + 1, s1.heap.objs.size], _, _, H1, rfl, I2, turn a (s1.heap.objs.size + 1) s1.heap.objs.size dis, ⟨⟨.none, he⟩, hit⟩, fun b hb => ?_, q⟩
    have hle : s1.heap.objs.size ≤ b := by
      rcases (show b = s1.heap.objs.size + 1 ∨ b = s1.heap.objs.size by simpa using hb) with z | z <;> rw [z]
      · exact Nat.le_add_right _ _
      · exact Nat.le_refl _
    exact I1.fpOk hle (I1.hok.fresh hle)
end ET
/-! sorted of a list of data -/
namespace SD
open PySem PySem.Spec PyProof.Rows L2 PySem.W
section
variable {X : Cx} {β : Type}
theorem each_of {vf : β → V} : ∀ {bs : List β} {its : List Value}, Vals (bs.map vf) its → EachIs (fun u b => RelV (vf b) u) its bs
  | [], _, h => by cases h; exact .nil
  | b :: bs, _, h => by
    cases h with
    | cons r t => exact .cons r (each_of t)
theorem vals_of {vf : β → V} : ∀ {bs : List β} {its : List Value}, EachIs (fun u b => RelV (vf b) u) its bs → Vals (bs.map vf) its
  | _, _, .nil => .nil
  | _, _, .cons r t => .cons r (vals_of t)
theorem each_reads {vf : β → V} {enc : β → PyData} {pins : List (Addr × Obj)} {σ : L2.St} {H : Hp} {s : Shared} (I : Inv X pins σ H s) : ∀ {bs : List β} {its : List Value}, (∀ b ∈ bs, Dp X.K H (vf b) (enc b)) → Vals (bs.map vf) its → EachIs (fun u b => ∃ as, Reads s.heap u (enc b) as) its bs
  | [], _, _, h => by cases h; exact .nil
  | b :: bs, _, hd, h => by
    cases h with
    | cons r t => exact .cons (Dp.reads I (enc b) (vf b) _ (hd b List.mem_cons_self) r) (each_reads I (fun c hc => hd c (List.mem_cons_of_mem _ hc)) t)
def rSD (K : PySem.W.Frag) (β : Type) : List V → Hp → VK → Prop := fun vs H Q => ∃ (a : Addr) (bs : List β) (vf : β → V) (enc : β → PyData), vs = [.ref a] ∧ SqL K H a (bs.map vf) ∧ (∀ b ∈ bs, Dp K H (vf b) (enc b)) ∧
  AllAlike (bs.map enc) ∧ Sortable (bs.map enc) ∧ (∀ b ∈ bs, (enc b).depth ≤ 64) ∧ ∀ p, H p = none → Q (.ref p) (upd H p (.lst ((bs.mergeSort (dataLe false enc)).map vf)))
theorem cr_SD (hu : X.A.units + 67 < cLine) : CallR X (.builtin "sorted") (rSD X.K β) := by
  intro pins s σ H vs us Q I r h
  obtain ⟨a, bs, vf, enc, rfl, hs, hd, hal, hk, hdep, q⟩ := h
  obtain ⟨its, rv, hl, hz⟩ := I.list hs
  rw [Vals.ref1 r]
  have hlen : its.length = bs.length := by rw [← rv.length, List.length_map]
  have hz' : bs.length ≤ sizeLine := by rw [List.length_map] at hz; exact hz
  refine sorted_data hl.isList (each_of rv) (each_reads I hd rv) hal hk hz' (fun b hb => by have := hdep b hb; omega) fun out ho he => ?_
  obtain ⟨ep, he'⟩ := PyProof.Rows.sortedAll_at s.heap its out.toArray
  have hlen2 : ((bs.mergeSort (dataLe false enc)).map vf).length ≤ sizeLine := by
    rw [List.length_map, List.length_mergeSort]
    exact hz'
  exact ⟨.ref _, _, I.laid (t' := s.toks) (o := .lst ((bs.mergeSort (dataLe false enc)).map vf)) (fun _ _ => PyProof.Rows.sortedAll_old) (Nat.le_succ _) ⟨hlen2, out, ep, vals_of he, he'⟩, rfl, q _ (I.hok.fresh (Nat.le_succ _))⟩
end
end SD
namespace VL
open PySem L2
section
variable {X : Cx} {B : Bs} {W : WX} {e a b c : Expr} {te ta tb tc : TE} {m ma mb mc : ME} {pos p : Pos} {tg : Expr}
variable {th : List Addr} {G H : Hp} {s : S} {σ : St}
/-! ### x[::-1] -/
def eBack (m : ME) : ME := fun s => (m s).bind fun d s => match d with
  | .tup l => .ok (.tup l.reverse, s)
  | .lst l => .ok (.lst l.reverse, s)
  | .scr l => .ok (.lst (l.reverse.map D.int), s)
  | .loc n => match lstOf s (.loc n) with
    | some l => .ok (.lst l.reverse, s)
    | none => .no
  | _ => .no
theorem post_lstF {K : PySem.W.Frag} {l : List D} {vs : List V} {Q : VK} {q : Addr} (R : Rep K B th G s σ H) (P : Post K B W σ th G H (relE K) (.ok (.lst l, s)) Q) (r : AtL K th G l vs) (hq : H q = none) : Q (.ref q) (upd H q (.lst vs)) :=
  P th (upd G q (.lst vs)) (upd H q (.lst vs)) (.ref q) (Le.new hq R.eG) (R.frz hq _) ⟨q, vs, rfl, upd_same, r.mono List.prefix_rfl (Sub.new (R.gnone hq))⟩
theorem scr_at {K : PySem.W.Frag} {l : List Int} : AtL K th G (l.map D.int) (l.map V.int) := by
  induction l with
  | nil => rfl
  | cons i l ih => exact ⟨_, _, rfl, rfl, ih⟩
theorem ve_back {k : Nat} {p1 p2 p3 : Pos} (h : VE X B W e te m) : VE X B W (.Subscript e (.Slice none none (some (.UnaryOp .USub (.Constant (.int 1) k p1) p2)) p3) pos) (TR.tBack X.K te) (eBack m) :=
  ⟨TR.pe_back h.pe, fun s th G σ H Q R P => h.sem s th G σ H _ R (P.bind fun d s1 th1 G1 H1 v l1 R1 r P1 => by
    cases d with
    | tup l =>
      obtain ⟨q, vs, rfl, hq, hr⟩ := r
      exact ⟨q, vs, rfl, .inr ⟨R1.eG.sqT hq.sq, post_tup R1 P1 hr.reverse⟩⟩
    | lst l =>
      obtain ⟨q, vs, rfl, hq, hr⟩ := r
      exact ⟨q, vs, rfl, .inl ⟨.inl (.inl (R1.eG.lst hq)), fun t ht => post_lstF R1 P1 hr.reverse ht⟩⟩
    | scr l =>
      obtain ⟨q, rfl, hq⟩ := r
      exact ⟨q, l.map V.int, rfl, .inl ⟨R1.eG.sqL hq, fun t ht => post_lstF R1 P1 (by rw [← List.map_reverse]; exact scr_at) ht⟩⟩
    | loc n =>
      simp only at P1
      cases e2 : lstOf s1 (.loc n) with
      | none => rw [e2] at P1; exact P1.elim
      | some l =>
        rw [e2] at P1
        obtain ⟨q, vs, rfl, hq, hr⟩ := R1.lst_of r e2
        exact ⟨q, vs, rfl, .inl ⟨.inl (.inl hq), fun t ht => post_lstF R1 P1 hr.reverse ht⟩⟩
    | _ => exact P1.elim)⟩

/-! ### a, b = x, y -/
def sPar2 (i j : Nat) (ma : MA) : MS := fun s => (ma s).to fun l s => match l with
  | [d, e] => .nx { s with r := (s.r.set i (some d)).set j (some e) }
  | _ => .no
def sPar3 (i j k : Nat) (ma : MA) : MS := fun s => (ma s).to fun l s => match l with
  | [d, e, f] => .nx { s with r := ((s.r.set i (some d)).set j (some e)).set k (some f) }
  | _ => .no
theorem vs_par2 {tl : TA} {ml : MA} {x y : Str} {px py pt : Pos} {kt k2 pt2} (i j : Nat) (hc : X.calm = true) (hN : X.N.Nodup) (h : VA X B W [a, b] tl ml) (hw : swappedStores [.Tuple [.Name x px, .Name y py] kt pt] (.Tuple [a, b] k2 pt2) X.env = pure (some [x, y]) := by rfl)
    (hi : X.N[i]? = some x := by rfl) (hj : X.N[j]? = some y := by rfl) (hij : i ≠ j := by decide) (hx : X.env.scope.names.lookup x = some .local := by rfl) (hy : X.env.scope.names.lookup y = some .local := by rfl)
    (hs : swapsWithSole [.Tuple [.Name x px, .Name y py] kt pt] (.Tuple [a, b] k2 pt2) pos.line X.env = pure false := by rfl) :
    VS X B W (.Assign [.Tuple [.Name x px, .Name y py] kt pt] (.Tuple [a, b] k2 pt2) pos) (tPar i j tl) (sPar2 i j ml) :=
  ⟨ps_par hc hN hi hj hij hx hy h.pa hw hs, fun s th G σ H Dn R P => h.sem s th G σ H _ R (P.to fun l s1 th1 G1 H1 vs l1 R1 r P1 => by
    split at P1
    · obtain ⟨v, w, rfl, hv, hw⟩ := two_at r
      exact ⟨v, w, rfl, P1.nx0 ((R1.sets hv).sets hw)⟩
    · exact P1.elim)⟩
theorem three_at {K : PySem.W.Frag} {x y z : D} {vs : List V} (h : AtL K th G [x, y, z] vs) : ∃ v w u, vs = [v, w, u] ∧ At K th G x v ∧ At K th G y w ∧ At K th G z u := by
  obtain ⟨v, r, rfl, h1, w, r2, rfl, h2, u, r3, rfl, h3, rfl⟩ := h
  exact ⟨v, w, u, rfl, h1, h2, h3⟩
theorem vs_par3 {tl : TA} {ml : MA} {x y z : Str} {px py pz pt : Pos} {kt k2 pt2} (i j k : Nat) (hc : X.calm = true) (hN : X.N.Nodup) (h : VA X B W [a, b, c] tl ml) (hw : swappedStores [.Tuple [.Name x px, .Name y py, .Name z pz] kt pt] (.Tuple [a, b, c] k2 pt2) X.env = pure (some [x, y, z]) := by rfl)
    (hi : X.N[i]? = some x := by rfl) (hj : X.N[j]? = some y := by rfl) (hk : X.N[k]? = some z := by rfl) (hij : i ≠ j := by decide) (hik : i ≠ k := by decide) (hjk : j ≠ k := by decide) (hx : X.env.scope.names.lookup x = some .local := by rfl) (hy : X.env.scope.names.lookup y = some .local := by rfl) (hz : X.env.scope.names.lookup z = some .local := by rfl)
    (hs : swapsWithSole [.Tuple [.Name x px, .Name y py, .Name z pz] kt pt] (.Tuple [a, b, c] k2 pt2) pos.line X.env = pure false := by rfl) :
    VS X B W (.Assign [.Tuple [.Name x px, .Name y py, .Name z pz] kt pt] (.Tuple [a, b, c] k2 pt2) pos) (tPar3 i j k tl) (sPar3 i j k ml) :=
  ⟨ps_par3 hc hN hi hj hk hij hik hjk hx hy hz h.pa hw hs, fun s th G σ H Dn R P => h.sem s th G σ H _ R (P.to fun l s1 th1 G1 H1 vs l1 R1 r P1 => by
    split at P1
    · obtain ⟨v, w, u, rfl, hv, hw, hu⟩ := three_at r
      exact ⟨v, w, u, rfl, P1.nx0 (((R1.sets hv).sets hw).sets hu)⟩
    · exact P1.elim)⟩
/-! ### enumerate -/
def enumL (l : List D) : List D := pairs (rng 0 l.length) l
def iEnumM (a : MA) : MA := fun s => (a s).bind fun l s => match l with
  | [.tup l] => .ok (enumL l, s)
  | [.lst l] => .ok (enumL l, s)
  | _ => .no
theorem enumL_get {l : List D} {i : Nat} {d : D} (h : (enumL l)[i]? = some d) : ∃ x, l[i]? = some x ∧ d = .tup [.int (i : Nat), x] := by
  obtain ⟨x, y, h1, h2, rfl⟩ := pairs_get h
  refine ⟨y, h2, ?_⟩
  have hi := (List.getElem?_eq_some_iff.mp h1).1
  simp only [rng, List.length_map, List.length_range] at hi
  simp [rng, hi] at h1
  rw [← h1]
theorem enumL_length {l : List D} : (enumL l).length = l.length := by simp [enumL, pairs, rng]
theorem relI_enumT {K : PySem.W.Frag} {H0 : Hp} {a : Addr} {l : List D} {vs : List V} (q : ∀ th1 G1 H1, Le th G H th1 G1 H1 → Ex G1 H1 → SqT K H1 a vs) (r : AtL K th G l vs) : relI K H0 th G H (enumL l) (ET.IteT K a) := fun th1 G1 H1 i le ex => by
  have q1 := q th1 G1 H1 le ex
  refine ⟨fun hi => ⟨vs, q1, by rw [r.length]; rw [enumL_length] at hi; exact hi⟩, fun d hd => ?_⟩
  obtain ⟨x, hx, rfl⟩ := enumL_get hd
  obtain ⟨v, hv, hx⟩ := (r.mono le.pre le.ex).get hx
  refine ⟨⟨vs, v, q1, hv⟩, fun z H2 y => ?_⟩
  obtain ⟨T, x', rfl, hT, rfl, f1⟩ := y
  have e1 := f1 vs q1
  rw [hv] at e1; cases e1
  exact ⟨_, .inr ⟨T, _, hT, rfl, rfl⟩, at_pair (show At K th1 G1 (.int (i : Nat)) (.int (i : Nat)) from rfl) hx hT ex rfl⟩
theorem relI_enumL {K : PySem.W.Frag} {H0 : Hp} {a : Addr} {l : List D} {vs : List V} (q : ∀ th1 G1 H1, Le th G H th1 G1 H1 → Ex G1 H1 → SqL K H1 a vs) (r : AtL K th G l vs) : relI K H0 th G H (enumL l) (Ite K a) := fun th1 G1 H1 i le ex => by
  have q1 := q th1 G1 H1 le ex
  refine ⟨fun hi => ⟨vs, q1, by rw [r.length]; rw [enumL_length] at hi; exact hi⟩, fun d hd => ?_⟩
  obtain ⟨x, hx, rfl⟩ := enumL_get hd
  obtain ⟨v, hv, hx⟩ := (r.mono le.pre le.ex).get hx
  refine ⟨⟨vs, v, q1, hv⟩, fun z H2 y => ?_⟩
  obtain ⟨T, x', rfl, hT, rfl, f1⟩ := y
  have e1 := f1 vs q1
  rw [hv] at e1; cases e1
  exact ⟨_, .inr ⟨T, _, hT, rfl, rfl⟩, at_pair (show At K th1 G1 (.int (i : Nat)) (.int (i : Nat)) from rfl) hx hT ex rfl⟩
def iEnumA (K : PySem.W.Frag) (ta : TA) : TI := fun σ H R => ET.iEnumT K ta σ H R ∨ iEnum K ta σ H R
theorem vi_enum {elts : List Expr} {kk : Nat} {tpos : Pos} {tl : TA} {ml : MA} (hg : Gl X "enumerate") (hm : X.mg "enumerate" = none) (h : VA X B W [a] tl ml) (hs : starEach [a] X.env = [(false, eval a X.env)] := by rfl) :
    VI X B W (.Tuple elts kk tpos) (.Call (.Name "enumerate" p) [a] [] pos) (iEnumA X.K tl) (iEnumM ml) := ⟨PI.or (ET.pi_enumT hg hm h.pa hs) (pi_enum hg hm h.pa hs), fun s th G σ H Q R P => by
  unfold iEnumM at P
  cases hk : ml s with
  | no => rw [hk] at P; exact P.elim
  | ex x s1 => rw [hk] at P; exact .inl (h.sem s th G σ H _ R (by rw [hk]; exact P))
  | ok z =>
    obtain ⟨l, s1⟩ := z
    rw [hk, VL.R.bind_ok] at P
    split at P
    · exact .inl (h.sem s th G σ H _ R (by
        rw [hk]
        intro th1 G1 H1 vs l1 R1 r
        obtain ⟨v, rfl, q, ws, rfl, hq, hr⟩ := AtL.one_of r
        exact ⟨q, ws, rfl, R1.eG.sqT hq.sq, P th1 G1 H1 _ l1 R1 (relI_enumT (fun th2 G2 H2 l2 ex => ex.sqT (l2.ex.sqT hq.sq)) hr)⟩))
    · exact .inr (h.sem s th G σ H _ R (by
        rw [hk]
        intro th1 G1 H1 vs l1 R1 r
        obtain ⟨v, rfl, q, ws, rfl, hq, hr⟩ := AtL.one_of r
        exact ⟨q, ws, rfl, .inl (.inl (R1.eG.lst hq)), P th1 G1 H1 _ l1 R1 (relI_enumL (fun th2 G2 H2 l2 ex => .inl (.inl (ex.lst (l2.ex _ _ hq)))) hr)⟩))
    · exact P.elim⟩

/-! ### sorted -/
def alikes (l : List D) : Bool := l.all fun d => l.all fun e => PySem.W.alike (toP d) (toP e)
def srtKind (l : List D) : Bool := l.all (fun d => match d with
  | .tup (_ :: _) => true
  | _ => false) || l.all fun d => match d with
  | .int _ => true
  | .str _ => true
  | .bl _ => true
  | .lst _ => true
  | _ => false
def srtOk (l : List D) : Bool := okDs 63 l && (alikes l && srtKind l)
def sortD (l : List D) : List D := l.mergeSort (PySem.W.dataLe false toP)
def gSorted : List D → S → R (Ob × S) := fun l s => match l with
  | [d] => match lstOf s d with
    | some l => if srtOk l = true then .ok (.lst (sortD l), s) else .no
    | none => .no
  | _ => .no
theorem AtL.zip {K : PySem.W.Frag} : ∀ {l : List D} {vs : List V}, AtL K th G l vs → ∃ bs : List (D × V), bs.map Prod.fst = l ∧ bs.map Prod.snd = vs ∧ ∀ b ∈ bs, At K th G b.1 b.2
  | [], _, h => ⟨[], rfl, h.symm, fun _ hb => by simp at hb⟩
  | d :: l, _, h => by
    obtain ⟨v, r, rfl, h1, h2⟩ := h
    obtain ⟨bs, e1, e2, h3⟩ := AtL.zip h2
    refine ⟨(d, v) :: bs, by simp [e1], by simp [e2], fun b hb => ?_⟩
    rcases List.mem_cons.mp hb with rfl | hb
    · exact h1
    · exact h3 b hb
theorem AtL.unzip {K : PySem.W.Frag} : ∀ {bs : List (D × V)}, (∀ b ∈ bs, At K th G b.1 b.2) → AtL K th G (bs.map Prod.fst) (bs.map Prod.snd)
  | [], _ => rfl
  | b :: bs, h => ⟨b.2, _, rfl, h b List.mem_cons_self, AtL.unzip fun c hc => h c (List.mem_cons_of_mem _ hc)⟩
theorem okDs_all : ∀ {l : List D} {n : Nat}, okDs n l = true → ∀ d ∈ l, okD n d = true
  | d :: l, n, h, e, he => by
    simp only [okDs, Bool.and_eq_true] at h
    rcases List.mem_cons.mp he with rfl | he
    · exact h.1
    · exact okDs_all h.2 e he
theorem sort_fst {bs : List (D × V)} : (bs.mergeSort (PySem.W.dataLe false fun b => toP b.1)).map Prod.fst = sortD (bs.map Prod.fst) :=
  List.map_mergeSort fun _ _ _ _ => rfl
theorem kind_of {l : List D} (h : srtKind l = true) : PySem.W.Sortable (l.map toP) := by
  unfold srtKind at h
  rw [Bool.or_eq_true] at h
  rcases h with h | h
  · refine .inl fun d hd => ?_
    obtain ⟨z, hz, rfl⟩ := List.mem_map.mp hd
    have := List.all_eq_true.mp h z hz
    split at this
    · exact ⟨_, _, rfl⟩
    · cases this
  · refine .inr fun d hd => ?_
    obtain ⟨z, hz, rfl⟩ := List.mem_map.mp hd
    have := List.all_eq_true.mp h z hz
    cases z <;> first | (cases this; done) | exact ⟨fun q => by simp [toP] at q, fun xs q => by simp [toP] at q⟩
theorem semC_sorted {K : PySem.W.Frag} : SemCF K B W (SD.rSD K (D × V)) gSorted := fun s th G σ H Q l vs R rl P => by
  match l, rl, P with
  | [], _, P => exact P.elim
  | [d], rl, P =>
    obtain ⟨v, rfl, hv⟩ := rl.one_of
    simp only [gSorted] at P
    cases e : lstOf s d with
    | none => rw [e] at P; exact P.elim
    | some z =>
      rw [e] at P
      simp only at P
      split at P
      · rename_i ho
        unfold srtOk at ho
        simp only [Bool.and_eq_true] at ho
        obtain ⟨h1, h2, h3⟩ := ho
        obtain ⟨p, ws, rfl, hq, hr⟩ := R.lst_of hv e
        obtain ⟨bs, rfl, rfl, hb⟩ := hr.zip
        have em : bs.map (fun b => toP b.1) = (bs.map Prod.fst).map toP := by rw [List.map_map]; rfl
        refine ⟨p, bs, Prod.snd, fun b => toP b.1, rfl, .inl (.inl hq), fun b hm => dp_of R.eG 63 _ _ (okDs_all h1 _ (List.mem_map.mpr ⟨b, hm, rfl⟩)) (hb b hm), ?_, ?_, fun b hm => ?_, fun t ht => ?_⟩
        · rw [em]
          intro x hx y hy
          obtain ⟨x2, hx2, rfl⟩ := List.mem_map.mp hx
          obtain ⟨y2, hy2, rfl⟩ := List.mem_map.mp hy
          exact List.all_eq_true.mp (List.all_eq_true.mp h2 x2 hx2) y2 hy2
        · rw [em]; exact kind_of h3
        · exact Nat.le_trans (okD_P 63 _ (okDs_all h1 _ (List.mem_map.mpr ⟨b, hm, rfl⟩))).2 (by decide)
        · exact post_f R P (by rw [← sort_fst]; exact AtL.unzip fun b hm => hb b ((List.mergeSort_perm _ _).mem_iff.mp hm)) ht
      · exact P.elim
  | _ :: _ :: _, _, P => exact P.elim
end
end VL
/-! an own exception is made: __init__ as XJ tells -/
namespace XI
open PySem PySem.W PySem.Calls PyProof.Rows PySem.HandSPX
/-- what __init__ leaves, with or without a dict -/
structure IEnd (h h' : Heap) (x C : Addr) (d : Option Addr) (t1 : Addr) (fs : List (Str × Value)) : Prop where
  keep : ∀ b o, b ≠ x → h.get? b = some o → h'.get? b = some o
  obj : h'.get? x = some { cls := .ref C, dict := d, data := .fields #[.ref t1, .none, .none, .none, .bool false, .none] }
  big : ∀ dx, d = some dx → h.objs.size ≤ dx ∧ dx ≠ x ∧ h'.Ns1 dx (fun y => fs.lookup y)
def Inits (prog : Program) (w : World) (K : Frag) (mg : Str → Option Value) (C fI : Addr) (vs : List Value) (fs : List (Str × Value)) : Prop :=
  ∀ (A : Around) (s : Shared) (R : Result → Shared → Prop) (x t0 : Addr) (mb : Str → Option Value), K.In s.heap → s.heap.Ns mainGlobals mg → s.heap.Ns builtinsNs mb → mb "super" = some (.type "super") → s.heap.NoLimit → A.depth < recursionLimit →
    s.heap.get? x = some (excO C t0) → K.lookup x = none → (∀ h' tk d t1, (d = none ↔ fs = []) → IEnd s.heap h' x C d t1 fs → R (.ok (.ret .none)) { s with heap := h', toks := tk }) → codeAny (model prog w) A (.call (.ref fI) ⟨.ref x :: vs, []⟩) R s
/-- a made exception -/
structure Made (h h' : Heap) (e C : Addr) (d : Option Addr) (fs : List (Str × Value)) : Prop where
  keep : ∀ b o, h.get? b = some o → h'.get? b = some o
  new : h.objs.size ≤ e
  obj : ∃ oe vs, h'.get? e = some oe ∧ oe.cls = .ref C ∧ oe.dict = d ∧ oe.data = .fields vs ∧ vs[1]? = some .none
  big : ∀ dx, d = some dx → h.objs.size ≤ dx ∧ dx ≠ e ∧ h'.Ns1 dx (fun y => fs.lookup y)
/-- the class's facts that the making asks -/
structure Cl (K : Frag) (C fI : Addr) : Prop where
  cls : ∃ nm q N bs bm sn sub ab col dd k0 k1 k2 k3 k5, K.lookup C = some (excClassObj nm q C N bs bm true sn sub ab col dd k0 k1 k2 k3 k5 "ValueError.__new__") ∧ refsVE bm = true
  iC : findIn K (.ref C) "__init__" = some (some (.ref fI))
  tC : typeIn K (.ref fI) = some (.type "function")
  kC : keepIn K (.ref C) = true
  exC : subIn K (.ref C) (.type "BaseException") = some true
  tyC : typeIn K (.ref C) = some (.type "type")
section
variable {prog : Program} {w : World} {A : Around} {R : Result → Shared → Prop} {s : Shared} {K : Frag} {mg : Str → Option Value} {C fI : Addr} {vs : List Value} {fs : List (Str × Value)} {mb : Str → Option Value}
theorem made (T : Cl K C fI) (I : Inits prog w K mg C fI vs fs) (hz : vs.length ≤ 1000) (X : K.In s.heap) (hG : s.heap.Ns mainGlobals mg) (hB : s.heap.Ns builtinsNs mb) (hb : mb "super" = some (.type "super")) (hlim : s.heap.NoLimit) (hroom : A.depth + 1 < recursionLimit)
    (hq : ∀ h' tk e d, (d = none ↔ fs = []) → Made s.heap h' e C d fs → R (.ok (.ret (.ref e))) { s with heap := h', toks := tk }) :
    codeAny (model prog w) A (.call (.ref C) ⟨vs, []⟩) R s := by
  obtain ⟨nm, q, N, bs, bm, sn, sub, ab, col, dd, k0, k1, k2, k3, k5, hC, hbm⟩ := T.cls
  obtain ⟨h0, g, dr, tk, os⟩ := s
  have kp : ∀ b o, h0.get? b = some o → ((h0.push (kdv_tup vs)).push (excO C h0.objs.size)).get? b = some o := fun b o z => Heap.get?_push_of_some _ (Heap.get?_push_of_some _ z)
  have at_e : ((h0.push (kdv_tup vs)).push (excO C h0.objs.size)).get? (h0.objs.size + 1) = some (excO C h0.objs.size) := by heap_get
  have notK : K.lookup (h0.objs.size + 1) = none := by
    cases z : K.lookup (h0.objs.size + 1) with
    | none => rfl
    | some o => exact absurd (Nat.lt_of_succ_lt (Heap.lt_size (X _ _ z))) (Nat.lt_irrefl _)
  refine call_own F.excBase_ValueError (fun X => refsVE_contains X bm hbm) (X _ _ hC) (looks_findIn X T.iC) (fun self => bind_fn X self T.tC) (by rw [sizeLine_eq]; omega) ?_
  refine I _ ⟨(h0.push (kdv_tup vs)).push (excO C h0.objs.size), g, dr, tk, os⟩ _ _ _ mb (X.keeps kp) (hG.keeps kp) (hB.keeps kp) hb (hlim.keeps kp) (show A.depth + 1 < recursionLimit from hroom) at_e notK fun h' tk' d t1 hd M => ?_
  refine ⟨rfl, hq h' tk' (h0.objs.size + 1) d hd ⟨fun b o z => M.keep b o (Nat.ne_of_lt (Nat.lt_succ_of_lt (Heap.lt_size z))) (kp b o z), Nat.le_succ _, ⟨_, _, M.obj, rfl, rfl, rfl, rfl⟩, fun dx hx => ?_⟩⟩
  obtain ⟨b1, b2, b3⟩ := M.big dx hx
  have z : h0.objs.size + 1 + 1 ≤ dx := by simpa only [Heap.size_push] using b1
  exact ⟨Nat.le_trans (show h0.objs.size ≤ h0.objs.size + 1 + 1 by omega) z, b2, b3⟩
end
end XI
namespace VL
open PySem PySem.Spec PyProof.Rows L2
/-- a field that a message can tell -/
def ShortV : V → Prop
  | .int i => i.natAbs.log2 < 1920
  | .str z => z.length ≤ 1000000
  | _ => False
theorem short_of {v : V} {u : Value} (h : ShortV v) (r : RelV v u) : XI.Short u := by
  cases v with
  | int i => obtain ⟨t, rfl⟩ := r; exact .inl ⟨i, t, rfl, h⟩
  | str z => obtain ⟨t, rfl⟩ := r; exact .inr ⟨z, t, rfl, h⟩
  | _ => exact h.elim
/-- the own exception x -/
structure ExcMk (prog : Program) (w : World) (K : PySem.W.Frag) (mg : Str → Option Value) (x : Str) (C : Addr) (ks : List Str) : Prop where
  gC : mg x = some (.ref C)
  ini : ∃ fI, XI.Cl K C fI ∧ ∀ us : List Value, us.length = ks.length → (∀ u ∈ us, XI.Short u) → XI.Inits prog w K mg C fI us (ks.zip us)
  len : ks.length ≤ 1000
theorem zip_rel (f : Str) : ∀ {ks : List Str} {vs : List V} {us : List Value}, Vals vs us → RelO (List.lookup f (ks.zip vs)) (List.lookup f (ks.zip us))
  | [], _, _, _ => by simp; trivial
  | k :: ks, _, _, .nil => by simp; trivial
  | k :: ks, _, _, .cons r rs => by
    simp only [List.zip_cons_cons, List.lookup]
    cases f == k with
    | true => exact r
    | false => exact zip_rel f rs
variable {X : Cx} {C : Addr} {ks : List Str}
def tMk (C : Addr) (ks : List Str) (ta : TA) : L2.St → Hp → XK → Prop := fun σ H Q => ta σ H fun vs H1 => vs.length = ks.length ∧ (∀ v ∈ vs, ShortV v) ∧ (ks = [] → Q (.ref C) none H1) ∧ (ks ≠ [] → ∀ d, H1 d = none → Q (.ref C) (some d) (upd H1 d (.xd (ks.zip vs))))
theorem pmk_x {a : Expr} {as : List Expr} {ta : TA} {x : Str} {p pos : Pos} {k : Nat} (T : ExcMk X.prog X.w X.K X.mg x C ks) (hr : Room k X.A) (ha : PA X (a :: as) ta) (hg : Gl X x)
    (he : starEach (a :: as) X.env = (false, eval a X.env) :: starEach as X.env := by rfl) (hpl : (backTo pos (starEach as X.env)).any (·.1) = false := by rfl) (hdb : (x == ("__debug__" : Str)) = false := by decide) :
    PMk X (.Call (.Name x p) (a :: as) [] pos) (tMk C ks ta) := by
  intro pins s σ H Q I h
  obtain ⟨fI, cl, ini⟩ := T.ini
  refine wpAny_Call_Name_kw (ld_glob I hg T.gC ?_ hdb)
  refine PySem.W.callWith_K (h₀ := X.base) I.ok.mod.kin cl.kC (thn (ha.run pos pins s σ H _ I h) fun us s1 hh => ?_) he hpl
  obtain ⟨vs, H1, I1, r1, hlen, hsh, q0, q1⟩ := hh
  refine ⟨I1.kIn, ?_⟩
  have hul : us.length = ks.length := by rw [← hlen]; exact r1.length.symm
  have hus : ∀ u ∈ us, XI.Short u := by
    clear q0 q1 hul hlen
    induction r1 with
    | nil => intro u hu; simp at hu
    | cons r rs ih =>
      intro u hu
      rcases List.mem_cons.mp hu with rfl | hu
      · exact short_of (hsh _ List.mem_cons_self) r
      · exact ih (fun v hv => hsh v (List.mem_cons_of_mem _ hv)) u hu
  have lim := I1.nolimit
  obtain ⟨mb, hb1, hb2⟩ := I1.mod.blt
  have hB : s1.heap.Ns builtinsNs mb := hb1.keeps I1.bk
  have hG : s1.heap.Ns mainGlobals X.mg := I1.mod.glob.keeps I1.bk
  have hsup : mb "super" = some (.type "super") := (hb2 "super" (by decide)).trans (by decide +kernel)
  show wpAny _ _ (call (.ref C) ([] ++ us)) _ _ _
  rw [List.nil_append]
  obtain ⟨h0, g, dr, tk, os⟩ := s1
  refine wpAny_call (XI.made (s := ⟨h0, g, dr, tk, os⟩) cl (ini us hul hus) (by rw [hul]; exact T.len) I1.kIn hG hB hsup lim (by have := hr.dp; omega) fun h' tk' e d hd M => ?_)
  show MkP X pins σ Q (.ref e) ⟨h', g, dr, tk', os⟩
  obtain ⟨oe, fv, hoe, hc, hdd, hdat, h1⟩ := M.obj
  obtain ⟨G', g1, g2⟩ := restrict h' fun b => decide (b ≠ e)
  have gk : ∀ b, b ≠ e → G'.get? b = h'.get? b := fun b hb => g1 b (decide_eq_true hb)
  have ge : G'.get? e = none := g2 e (by simp)
  have old : ∀ b o, h0.get? b = some o → G'.get? b = some o := fun b o q => (gk b (Nat.ne_of_lt (Nat.lt_of_lt_of_le (Heap.lt_size q) M.new))).trans (M.keep b o q)
  have back : ∀ b o, G'.get? b = some o → h'.get? b = some o := fun b o q => by
    by_cases hb : b = e
    · rw [hb, ge] at q; cases q
    · exact (gk b hb).symm.trans q
  have hz : (ks.zip us = []) ↔ ks = [] := by
    cases ks with
    | nil => simp
    | cons a b => cases us with
      | nil => simp at hul
      | cons c d => simp
  cases d with
  | none =>
    have hk : ks = [] := hz.mp (hd.mp rfl)
    have J : Inv X pins σ H1 ⟨G', g, dr, tk', os⟩ := I1.kept (t' := tk') old
    exact ⟨e, oe, fv, ⟨G', g, dr, tk', os⟩, H1, .ref C, none, rfl, J, back, ge, hoe, ⟨hc, hdd⟩, hdat, h1, I1.hok.fresh M.new, rfl, I1.bare, raises_own cl.exC cl.tyC, q0 hk⟩
  | some dx =>
    obtain ⟨b1, b2, b3⟩ := M.big dx rfl
    have hk : ks ≠ [] := fun z => by have := hd.mpr (hz.mpr z); cases this
    have ob : ObjOk X.prog X.w (upd H1 dx (.xd (ks.zip vs))) G' dx (.xd (ks.zip vs)) := ⟨_, b3.at (fun o q => (gk dx b2).trans q), fun f => zip_rel f r1⟩
    have J : Inv X pins σ (upd H1 dx (.xd (ks.zip vs))) ⟨G', g, dr, tk', os⟩ := I1.laid (t' := tk') old b1 ob
    refine ⟨e, oe, fv, ⟨G', g, dr, tk', os⟩, _, .ref C, some dx, rfl, J, back, ge, hoe, ⟨hc, hdd⟩, hdat, h1, ?_, rfl, I1.bare, raises_own cl.exC cl.tyC, q1 hk dx (I1.hok.fresh b1)⟩
    rw [upd_ne (Ne.symm b2)]
    exact I1.hok.fresh M.new
end VL
/-! what the head tells of own exception classes and of their __init__ -/
namespace VL
open PySem PySem.Spec PyProof.Rows L2 He
open PySem.W
/-! ### the texts of __init__ -/
structure IniD where
  cls : Str
  qual : Str
  params : Arguments
  body : List Stmt
  scope : Scope
abbrev IniV : Type := Option (Str × Str × Arguments × FuncBody × Scope × Addr × List Str × Addr × Value × Value)
def iniAd (K : Frag) (x : Str) : Addr := ma K (ga K x) "__init__"
def iniW (K : Frag) (x : Str) : IniV := match K.lookup (iniAd K x) with
  | some ⟨_, _, .func fd, _⟩ => some (fd.name, fd.qualname, fd.params, fd.body, fd.scope, fd.globals, fd.closure.map (·.1), fd.builtins, fd.defaults, fd.kwdefaults)
  | _ => none
def IniD.val (d : IniD) : IniV := some ("__init__", d.qual, d.params, .stmts d.body, d.scope, mainGlobals, ["__class__"], builtinsNs, .none, .none)
def cellB (K : Frag) (cc C : Addr) : Bool := match K.lookup cc with
  | some ⟨_, _, .cell (some (.ref c)), _⟩ => c == C
  | _ => false
def fileB (K : Frag) (cda : Addr) (file : Str) : Bool := match K.lookup cda with
  | some ⟨_, _, .fields vs, _⟩ => (match vs[2]? with
    | some (Value.str f _) => file == f
    | _ => false)
  | _ => false
def iniB (K : Frag) (x q file : Str) : Bool := match K.lookup (iniAd K x) with
  | some ⟨_, _, .func fd, _⟩ => (match fd.closure with
    | [(_, cc)] => cellB K cc (ga K x)
    | _ => false) && ((match fd.code with
    | .ref cda => fileB K cda file
    | _ => false) && codeIn K fd.code q)
  | _ => false
/-- the function's object, in the form that XJ reads -/
theorem ini_ok {K : Frag} {d : IniD} {file : Str} (e : iniW K d.cls = d.val) (c : iniB K d.cls d.qual file = true) :
    ∃ (oc doc pm ct : Value) (od an : Option Addr) (osl : Array (Option Value)) (cda cc : Addr), K.lookup (iniAd K d.cls) = some ⟨oc, od, .func (ksFn "__init__" d.qual d.params d.body d.scope .none .none doc pm an (.ref cda) ct cc), osl⟩ ∧
      cellB K cc (ga K d.cls) = true ∧ fileB K cda file = true ∧ codeIn K (.ref cda) d.qual = true := by
  unfold iniW at e
  unfold iniB at c
  cases q : K.lookup (iniAd K d.cls) with
  | none => rw [q] at c; cases c
  | some o =>
    obtain ⟨oc, od, dt, osl⟩ := o
    rw [q] at c e
    cases dt with
    | func fd =>
      obtain ⟨n1, n2, n3, n4, n5, n6, n7, n8, n9, n10, n11, n12, n13, n14, n15⟩ := fd
      have e2 : (some (n1, n2, n3, n4, n5, n6, n7.map (·.1), n15, n8, n9) : IniV) = d.val := e
      simp only [IniD.val, Option.some.injEq, Prod.mk.injEq] at e2
      obtain ⟨h1, h2, h3, h4, h5, h6, h7, h8, h9, h10⟩ := e2
      obtain ⟨c1, c2⟩ := ba c
      obtain ⟨c3, c4⟩ := ba c2
      subst h1 h2 h3 h4 h5 h6 h8 h9 h10
      dsimp only at c1 c3 c4
      cases n7 with
      | nil => cases h7
      | cons p r =>
        cases r with
        | cons _ _ => exact absurd (congrArg List.length h7) (by simp)
        | nil =>
          obtain ⟨pn, cc⟩ := p
          have h8 : [pn] = [("__class__" : Str)] := h7
          injection h8 with h9 _
          subst h9
          cases n13 with
          | ref cda => exact ⟨oc, n10, n11, n14, od, n12, osl, cda, cc, rfl, c1, c3, c4⟩
          | _ => cases c3
    | _ => cases c
/-! ### the class -/
def slB : List (Option Value) → Bool
  | [_, _, _, _, some (.builtin n), _] => decide (n = "ValueError.__new__")
  | _ => false
theorem slB_ok {l : List (Option Value)} (h : slB l = true) : ∃ k0 k1 k2 k3 k5, l = [k0, k1, k2, k3, some (.builtin "ValueError.__new__"), k5] := by
  unfold slB at h
  split at h
  · rename_i k0 k1 k2 k3 n k5
    have hn : n = "ValueError.__new__" := of_decide_eq_true h
    rw [hn]
    exact ⟨k0, k1, k2, k3, k5, rfl⟩
  · cases h
def clB (K : Frag) (C : Addr) : Bool := match K.lookup C with
  | some ⟨.type t, _, .cls cd, sl⟩ => decide (t = "type") && ((match cd.mro with
    | .ref C' :: bm => C' == C && HandSPX.refsVE bm
    | _ => false) && (cd.hasDict && (!cd.hasDel && slB sl.toList)))
  | _ => false
theorem clB_ok {K : Frag} {C : Addr} (h : clB K C = true) : ∃ nm q N bs bm sn sub ab col dd k0 k1 k2 k3 k5, K.lookup C = some (excClassObj nm q C N bs bm true sn sub ab col dd k0 k1 k2 k3 k5 "ValueError.__new__") ∧ HandSPX.refsVE bm = true := by
  unfold clB at h
  cases q : K.lookup C with
  | none => rw [q] at h; cases h
  | some o =>
    obtain ⟨oc, od, dt, osl⟩ := o
    rw [q] at h
    cases oc with
    | type t =>
      cases dt with
      | cls cd =>
        obtain ⟨c1, c2, c3, c4, c5, c6, c7, c8, c9, c10, c11⟩ := cd
        obtain ⟨h1, h⟩ := ba h
        obtain ⟨h2, h⟩ := ba h
        obtain ⟨h3, h⟩ := ba h
        obtain ⟨h4, h5⟩ := ba h
        dsimp only at h2 h3 h4 h5
        have h1 : t = "type" := of_decide_eq_true h1
        subst h1
        have h3 : c6 = true := h3
        subst h3
        have h4 : c11 = false := by cases c11 <;> first | rfl | cases h4
        subst h4
        obtain ⟨ol⟩ := osl
        obtain ⟨k0, k1, k2, k3, k5, e5⟩ := slB_ok (l := ol) h5
        subst e5
        cases c3 with
        | nil => cases h2
        | cons v bm =>
          cases v with
          | ref C' =>
            have h2 : (C' == C && HandSPX.refsVE bm) = true := h2
            obtain ⟨g1, g2⟩ := ba h2
            have g1 : C' = C := by simpa using g1
            subst g1
            exact ⟨c1, c5, c4, c2, bm, c7, c8, c9, c10, od, k0, k1, k2, k3, k5, rfl, g2⟩
          | _ => cases h2
      | _ => cases h
    | _ => cases dt <;> cases h
def excB (K : Frag) (x : Str) : Bool :=
  clB K (ga K x) && (eqO (findIn K (.ref (ga K x)) "__init__") (some (some (.ref (iniAd K x)))) && (decide (typeIn K (.ref (iniAd K x)) = some (.type "function")) && (keepIn K (.ref (ga K x)) && (decide (subIn K (.ref (ga K x)) (.type "BaseException") = some true) &&
  (decide (typeIn K (.ref (ga K x)) = some (.type "type")) && (eqO (findIn K (.ref (ga K x)) "__setattr__") (some (some (.builtin "object.__setattr__"))) && (eqO (findIn K (.ref (ga K x)) "__getattribute__") (some (some (.builtin "BaseException.__getattribute__"))) &&
  (eqO (findIn K (.ref (ga K x)) "__getattr__") (some none) && (hasDictIn K (ga K x) && (eqO (findIn K (.ref (ga K x)) "__class__") (some (some (.builtin "object.__class__"))) && (eqO (specialIn K (.builtin "object.__class__") "__get__") (some (some (.builtin "getset_descriptor.__get__"))) &&
  (decide (takesIn K (.builtin "object.__class__") = some true) && (decide (mroIn K (ga K x) (.type "object") = some true) && (decide (exmOne K (.ref (ga K x)) (.ref (ga K x)) = some true) && (decide (mroIn K (ga K x) (.ref (ga K x)) = some true) &&
  (eqO (ks_superIn K (ga K x) (ga K x) "__init__") (some (some (.builtin "ValueError.__init__"))) && (decide (subIn K (.ref (ga K x)) (.type "ValueError") = some true) && (eqO (nsIn K cStatics "thirdparty.any") (some none) && decide (kitOne K (.ref (ga K x)) (.type "ValueError") = some true)))))))))))))))))))
structure ExcT (K : Frag) (x : Str) : Prop where
  cls : ∃ nm q N bs bm sn sub ab col dd k0 k1 k2 k3 k5, K.lookup (ga K x) = some (excClassObj nm q (ga K x) N bs bm true sn sub ab col dd k0 k1 k2 k3 k5 "ValueError.__new__") ∧ HandSPX.refsVE bm = true
  iC : findIn K (.ref (ga K x)) "__init__" = some (some (.ref (iniAd K x)))
  tC : typeIn K (.ref (iniAd K x)) = some (.type "function")
  kC : keepIn K (.ref (ga K x)) = true
  exC : subIn K (.ref (ga K x)) (.type "BaseException") = some true
  tyC : typeIn K (.ref (ga K x)) = some (.type "type")
  sa : findIn K (.ref (ga K x)) "__setattr__" = some (some (.builtin "object.__setattr__"))
  gt : findIn K (.ref (ga K x)) "__getattribute__" = some (some (.builtin "BaseException.__getattribute__"))
  gg : findIn K (.ref (ga K x)) "__getattr__" = some none
  hd : hasDictIn K (ga K x) = true
  cl : findIn K (.ref (ga K x)) "__class__" = some (some (.builtin "object.__class__"))
  sp : specialIn K (.builtin "object.__class__") "__get__" = some (some (.builtin "getset_descriptor.__get__"))
  tk : takesIn K (.builtin "object.__class__") = some true
  mo : mroIn K (ga K x) (.type "object") = some true
  te : exmOne K (.ref (ga K x)) (.ref (ga K x)) = some true
  self : mroIn K (ga K x) (.ref (ga K x)) = some true
  sup : ks_superIn K (ga K x) (ga K x) "__init__" = some (some (.builtin "ValueError.__init__"))
  subV : subIn K (.ref (ga K x)) (.type "ValueError") = some true
  stat : nsIn K cStatics "thirdparty.any" = some none
  kv : kitOne K (.ref (ga K x)) (.type "ValueError") = some true
theorem excB_ok {K : Frag} {x : Str} (h : excB K x = true) : ExcT K x := by
  unfold excB at h
  simp only [Bool.and_eq_true] at h
  obtain ⟨h1, h2, h3, h4, h5, h6, h7, h8, h9, h10, h11, h12, h13, h14, h15, h16, h17, h18, h19, h20⟩ := h
  exact ⟨clB_ok h1, eqO_ok h2, of_decide_eq_true h3, h4, of_decide_eq_true h5, of_decide_eq_true h6, eqO_ok h7, eqO_ok h8, eqO_ok h9, h10, eqO_ok h11, eqO_ok h12, of_decide_eq_true h13, of_decide_eq_true h14, of_decide_eq_true h15, of_decide_eq_true h16, eqO_ok h17, of_decide_eq_true h18, eqO_ok h19, of_decide_eq_true h20⟩
theorem ExcT.txt {K : Frag} {x file : Str} (T : ExcT K x) {prog : Program} {mg : Str → Option Value} {cc cda : Addr} (h1 : cellB K cc (ga K x) = true) (h2 : fileB K cda file = true) (hf : prog.main.file = file) (hs : (prog.main.scope.names.lookup ("super" : Str)).isSome = false) (hn : mg "super" = none) :
    XI.Txt prog K mg (ga K x) (iniAd K x) cc cda := by
  refine ⟨T.cls, ?_, ?_, T.self, T.sup, T.subV, T.stat, hs, hn⟩
  · unfold cellB at h1
    split at h1
    · rename_i c1 c2 c c3 q
      have h1 : c = ga K x := by simpa using h1
      subst h1
      exact ⟨_, _, _, q⟩
    · cases h1
  · unfold fileB at h2
    split at h2
    · rename_i c1 c2 vs c3 q
      split at h2
      · rename_i f t q2
        exact ⟨vs, f, t, _, _, _, q, q2, by rw [hf]; exact h2⟩
      · cases h2
    · cases h2
theorem ExcT.c {K : Frag} {x : Str} (T : ExcT K x) : XI.Cl K (ga K x) (iniAd K x) := ⟨T.cls, T.iC, T.tC, T.kC, T.exC, T.tyC⟩
theorem ExcT.e {K : Frag} {x : Str} (T : ExcT K x) : ExcC K (ga K x) := ⟨T.gt, T.gg, T.exC, T.hd, T.cl, T.sp, T.tk, T.mo⟩
/-! ### the Hook -/
def frY (n : Nat) (g : Addr → Option Obj) : Frag := frT g (asD g n ++ [cStatics])
abbrev AlY : Type := AlT × Bool × List IniV
def obsK (fa : List Fa) (fn : List DefD) (ts : List Tab) (tf : List Defn) (ex : Frag → Bool) (fi : List IniD) (g : Addr → Option Obj) (K : Frag) : AlY := (obsT fa fn ts K, ex K && tabsB g tf K, fi.map fun d => iniW K d.cls)
def obsY (n : Nat) (fa : List Fa) (fn : List DefD) (ts : List Tab) (tf : List Defn) (ex : Frag → Bool) (fi : List IniD) (g : Addr → Option Obj) : AlY := obsK fa fn ts tf ex fi g (frY n g)
def valY (fn : List DefD) (ts : List Tab) (fi : List IniD) (w : World) : AlY := (valT fn ts w, true, fi.map IniD.val)
def SaysY (fa : List Fa) (fn : List DefD) (ts : List Tab) (tf : List Defn) (ex : Frag → Bool) (fi : List IniD) (w : World) (h : Heap) (K : Frag) : Prop := SaysX fa fn ts tf ex w h K ∧ fi.map (fun d => iniW K d.cls) = fi.map IniD.val
theorem saysY_of {n : Nat} {fa : List Fa} {fn : List DefD} {ts : List Tab} {tf : List Defn} {ex : Frag → Bool} {fi : List IniD} {w : World} {h : Heap} (e : obsY n fa fn ts tf ex fi h.get? = valY fn ts fi w) : SaysY fa fn ts tf ex fi w h (frY n h.get?) := by
  obtain ⟨K, hK⟩ : ∃ K, K = frY n h.get? := ⟨_, rfl⟩
  have e : obsK fa fn ts tf ex fi h.get? K = valY fn ts fi w := by rw [hK]; exact e
  have hno : ∀ {a : Addr} {o : Obj}, h.get? a = some o → emptyTab o = true → K.lookup a = none := fun q z => by rw [hK]; exact frT_none q z
  rw [← hK]
  have e1 : obsT fa fn ts K = valT fn ts w := congrArg (fun z : AlY => z.1) e
  have e2 : (ex K && tabsB h.get? tf K) = true := congrArg (fun z : AlY => z.2.1) e
  have e3 : (fi.map fun d => iniW K d.cls) = fi.map IniD.val := congrArg (fun z : AlY => z.2.2) e
  obtain ⟨h1, h2⟩ := ba e2
  have tab : ∀ p ∈ tf, PySem.W.codeHdIn K (cT K p).1 (cT K p).2 = true ∧ ∃ o, h.get? (cT K p).2 = some o ∧ emptyTab o = true := fun p hp => by
    obtain ⟨h3, h4⟩ := ba (List.all_eq_true.mp h2 p hp)
    refine ⟨h3, ?_⟩
    cases q : h.get? (cT K p).2 with
    | none => rw [q] at h4; cases h4
    | some o => rw [q] at h4; exact ⟨o, rfl, h4⟩
  refine ⟨⟨e1, h1, fun p hp => (tab p hp).1, fun p hp => ?_, fun p hp => ?_⟩, e3⟩
  · obtain ⟨_, o, q, z⟩ := tab p hp
    exact hno q z
  · obtain ⟨_, o, q, z⟩ := tab p hp
    rw [q, emptyTab_eq z]
def hookY (n : Nat) (fa : List Fa) (fn : List DefD) (ts : List Tab) (tf : List Defn) (ex : Frag → Bool) (fi : List IniD) : PySem.W.Hook where
  α := AlY
  obs := fun s => obsY n fa fn ts tf ex fi s.heap.get?
  val := fun w => valY fn ts fi w
  says := fun w h => ∃ K : Frag, K.In h ∧ SaysY fa fn ts tf ex fi w h K
  of := fun _ _ e => ⟨_, frT_in, saysY_of e⟩
  keeps := fun _ _ _ ⟨K, hK, c, ci⟩ k => ⟨K, PySem.W.Frag.In.keeps hK k, ⟨c.t, c.more, c.hd, c.out, fun p hp => k _ _ (c.empty p hp)⟩, ci⟩
theorem obsY_eq {n : Nat} {fa : List Fa} {fn : List DefD} {ts : List Tab} {tf : List Defn} {ex : Frag → Bool} {fi : List IniD} {g : Addr → Option Obj} {s : Shared} (h : ∀ a, g a = s.heap.get? a) : obsY n fa fn ts tf ex fi g = (hookY n fa fn ts tf ex fi).obs s := by
  have e : g = s.heap.get? := funext h
  rw [e] <;> rfl
theorem SaysY.ini {fa : List Fa} {fn : List DefD} {ts : List Tab} {tf : List Defn} {ex : Frag → Bool} {fi : List IniD} {w : World} {h : Heap} {K : Frag} (c : SaysY fa fn ts tf ex fi w h K) (i : Nat) {d : IniD} (hd : fi[i]? = some d := by rfl) : iniW K d.cls = d.val := by
  have e := congrArg (fun l => l[i]?) c.2
  simp only [List.getElem?_map, hd, Option.map_some, Option.some.injEq] at e
  exact e
/-! ### the making, by the shape of __init__ -/
section
variable {prog : Program} {w : World} {K : Frag} {mg : Str → Option Value} {x q file : Str} {e : Expr} {a1 a2 a3 p0 p1 p2 p3 p4 u1 u2 u3 u4 u5 u6 u7 u8 : Pos}
theorem mk2 (T : ExcT K x) (hw : iniW K x = (⟨x, q, XI.iAs [XI.iArg "self" a1, XI.iArg "place" a2, XI.iArg "fault" a3], [XI.iR e p0 p1 p2 p3 p4, XI.iF "place" u1 u2 u3 u4, XI.iF "fault" u5 u6 u7 u8], XI.iSc ["self", "place", "fault"]⟩ : IniD).val) (hB : iniB K x q file = true)
    (hf : prog.main.file = file) (hs : (prog.main.scope.names.lookup ("super" : Str)).isSome = false) (hn : mg "super" = none) (hg : mg x = some (.ref (ga K x))) (n1 : findIn K (.ref (ga K x)) "place" = some none) (n2 : findIn K (.ref (ga K x)) "fault" = some none)
    (hst : ∀ env, starEach [e] env = [(false, eval e env)]) (hl : (p2.endLine == p3.line) = true) (hsw : ∀ env, swapsWith (.Call (.Attribute (.Call (.Name "super" p0) [] [] p1) "__init__" p2) [e] [] p3) none p4.line env = pure false)
    (hmsg : ∀ (cc cda : Addr) (v v2 : Value) A E L m, XI.Short v → XI.Short v2 → m "place" = some v → m "fault" = some v2 → XI.Tells prog w A E (ksEnv q (XI.iSc ["self", "place", "fault"]) L (iniAd K x) (.ref cda) cc) m e) :
    ExcMk prog w K mg x (ga K x) ["place", "fault"] := by
  obtain ⟨oc, doc, pm, ct, od, an, osl, cda, cc, ho, c1, c2, c3⟩ := ini_ok (d := ⟨x, q, _, _, _⟩) hw hB
  refine ⟨hg, ⟨iniAd K x, T.c, fun us hl2 hsh => ?_⟩, by decide⟩
  match us, hl2 with
  | [v, v2], _ =>
    intro A s R y t0 mb X G B b lim room hy hnx hq
    exact XI.init2 (T.txt (mg := mg) c1 c2 hf hs hn) (s := s) ho c3 T.sa n1 n2 hst hl hsw (fun A E L m => hmsg cc cda v v2 A E L m (hsh v (by simp)) (hsh v2 (by simp))) X G B b lim room hy hnx fun h' tk dx t1 z => hq h' tk (some dx) t1 (by simp) ⟨z.keep, z.obj, fun d hd => by
      cases hd
      refine ⟨z.dbig, z.dne, ?_⟩
      have ez : (fun y : Str => if y = "fault" then some v2 else if y = "place" then some v else none) = fun y : Str => List.lookup y (([("place" : Str), ("fault" : Str)]).zip [v, v2]) := by
        funext y
        by_cases e1 : y = "place"
        · subst e1; rfl
        · have b1 : (y == ("place" : Str)) = false := by simpa using e1
          by_cases e2 : y = "fault"
          · subst e2; rfl
          · have b2 : (y == ("fault" : Str)) = false := by simpa using e2
            simp [List.lookup, b1, b2, e1, e2]
      rw [← ez]
      exact z.ns⟩
end
end VL
namespace VL
open PySem PySem.W PySem.Calls PyProof.Rows
section
variable {prog : Program} {w : World} {A : Around} {E : Value → Shared → Prop} {env : Env} {m : Str → Option Value}
theorem tells_tftf {z0 z1 x y : Str} {v v2 : Value} {k0 k1 : Nat} {m0 m1 m2 m3 m4 m5 m6 : Pos} (h0 : z0.length ≤ 1000000) (h1 : z1.length ≤ 1000000) (hv : XI.Short v) (hv2 : XI.Short v2) (e1 : m x = some v) (e2 : m y = some v2) (hk : env.scope.kind = .function) (hx : env.kindOf x = some .local) (hy : env.kindOf y = some .local) (hd : (x == ("__debug__" : Str)) = false) (hd2 : (y == ("__debug__" : Str)) = false) :
    XI.Tells prog w A E env m (.JoinedStr [.Constant (.str z0) k0 m0, .FormattedValue (.Name x m1) (-1) none m2, .Constant (.str z1) k1 m3, .FormattedValue (.Name y m4) (-1) none m5] m6) := fun s1 R hn q => by
  refine wpAny_JoinedStr (XI.joinsM (es := [_, _, _, _]) (by simp) (fun e he => ?_) hn q)
  simp only [List.mem_cons, List.not_mem_nil, or_false] at he
  rcases he with rfl | rfl | rfl | rfl
  · exact XI.piece_txt h0
  · exact XI.piece_fld e1 hv hk hx hd
  · exact XI.piece_txt h1
  · exact XI.piece_fld e2 hv2 hk hy hd2
end
end VL
/-! raise, try .. except X as n, isinstance of what is caught, its fields -/
namespace VL
open PySem PySem.Spec PyProof.Rows L2
/-! ### raise X(..) -/
def shortD : D → Bool
  | .int i => decide (-18446744073709551616 < i ∧ i < 18446744073709551616)
  | .str z => decide (z.length ≤ 1000000)
  | _ => false
def sRaise (c : Str) (ks : List Str) (m : MA) : MS := fun s => (m s).to fun ds s => if ds.length = ks.length ∧ ds.all shortD = true then .ex ⟨c, ks.zip ds⟩ s else .no
theorem short_at {K : PySem.W.Frag} {th : List Addr} {G : Hp} : ∀ {ds : List D} {vs : List V}, AtL K th G ds vs → ds.all shortD = true → ∀ v ∈ vs, ShortV v
  | [], vs, h, _, v, hv => by cases h; cases hv
  | d :: ds, vs, h, e, v, hv => by
    obtain ⟨u, r, rfl, q, z⟩ := h
    simp only [List.all_cons, Bool.and_eq_true] at e
    rcases List.mem_cons.mp hv with rfl | hv
    · cases d with
      | int i =>
        have q : v = V.int i := q
        subst q
        have h := of_decide_eq_true e.1
        show i.natAbs.log2 < 1920
        have h2 : i.natAbs < 2 ^ 64 := by
          have e3 : (2 : Nat) ^ 64 = 18446744073709551616 := rfl
          rw [e3]; omega
        by_cases h0 : i.natAbs = 0
        · rw [h0]; decide
        · have := (Nat.log2_lt h0).mpr h2
          omega
      | str z' =>
        have q : v = sv z' := q
        subst q
        have h := of_decide_eq_true e.1
        show (Str.length _) ≤ 1000000
        exact h
      | _ => cases e.1
    · exact short_at z e.2 v hv
section
variable {X : Cx} {B : Bs} {W : WX} {pos p pos2 : Pos}
theorem vs_raise {a : Expr} {as : List Expr} {ta : TA} {ma : MA} {x : Str} {ks : List Str} {k : Nat} (hc : X.calm = true) (tk : Takes X W) (T : ExcMk X.prog X.w X.K X.mg x (B.cl x) ks) (hr : Room k X.A) (ha : VA X B W (a :: as) ta ma) (hg : Gl X x := by rfl)
    (he : starEach (a :: as) X.env = (false, eval a X.env) :: starEach as X.env := by rfl) (hpl : (backTo pos (starEach as X.env)).any (·.1) = false := by rfl) (hdb : (x == ("__debug__" : Str)) = false := by decide) :
    VS X B W (.Raise (some (.Call (.Name x p) (a :: as) [] pos)) none pos2) (fun _ σ H => tMk (B.cl x) ks ta σ H fun cls d H' => W cls d σ H') (sRaise x ks ma) :=
  ⟨ps_raise hc tk (pmk_x T hr ha.pa hg he hpl hdb), fun s th G σ H Dn R P => ha.sem s th G σ H _ R (P.to fun ds s1 th1 G1 H1 vs l1 R1 r1 P1 => by
    by_cases hh : ds.length = ks.length ∧ ds.all shortD = true
    · rw [if_pos hh] at P1
      have hv : vs.length = ks.length := by rw [AtL.length r1]; exact hh.1
      have e1 : (ks.zip ds).map (·.1) = ks := List.map_fst_zip (by omega)
      have e2 : (ks.zip ds).map (·.2) = ds := List.map_snd_zip (by omega)
      refine ⟨hv, short_at r1 hh.2, fun hk => ?_, fun hk d hd => ?_⟩
      · refine P1 th1 G1 H1 σ _ _ (Le.refl _ _ _) R1 ⟨rfl, vs, by rw [e2]; exact r1, by simp [hv, hh.1], fun _ => by subst hk; rfl, fun dd z => by cases z⟩
      · refine P1 th1 _ _ σ _ _ (Le.new hd R1.eG) (R1.frz hd _) ⟨rfl, vs, by rw [e2]; exact r1.mono List.prefix_rfl (Sub.new (R1.gnone hd)), by simp [hv, hh.1], fun z => (by cases z), fun dd z => ?_⟩
        cases z
        rw [e1]; exact upd_same
    · rw [if_neg hh] at P1; exact P1.elim)⟩
/-! ### the reading that a statement's mirror tells -/
def cSt (K : PySem.W.Frag) (B : Bs) (W : WX) (m : MS) : TS := fun Dn σ H => ∃ s th G, Rep K B th G s σ H ∧ PostS K B W th G H (m s) Dn
theorem vss_c {K : PySem.W.Frag} {st : List Stmt} {t : TS} {m : MS} (h : VSs X B W st t m) (hK : X.K = K := by rfl) : PSs X st (cSt K B W m) := by
  subst hK
  exact ⟨fun pins s σ H Dn I ⟨s', th, G, R, P⟩ => h.ps.run pins s σ H Dn I (h.sem s' th G σ H Dn R P)⟩
/-! ### try .. except X as n -/
def cutS (i : Nat) (s : S) : S := { s with r := s.r.set i none }
def cutC (i : Nat) : C → C
  | .nx s => .nx (cutS i s)
  | .rt d s => .rt d (cutS i s)
  | .bk s => .bk (cutS i s)
  | .ct s => .ct (cutS i s)
  | _ => .no
open Classical in
noncomputable def allC (f : Addr → Option Addr → C) : C := if ∀ a d, f a d = f 0 none then f 0 none else .no
theorem allC_eq {f : Addr → Option Addr → C} {c : C} (h : ∀ a d, f a d = c) : allC f = c := by
  unfold allC
  rw [if_pos (fun a d => by rw [h, h]), h]
theorem allC_at {f : Addr → Option Addr → C} (h : allC f ≠ .no) (a : Addr) (d : Option Addr) : allC f = f a d := by
  unfold allC at h ⊢
  split
  · rename_i q; exact (q a d).symm
  · rename_i q; rw [if_neg q] at h; exact absurd rfl h
def hotS (i : Nat) (a : Addr) (d : Option Addr) (x : Exn) (s : S) : S := { s with r := s.r.set i (some (.exn a d (x.fs.map (·.1)) (x.fs.map (·.2)))) }
noncomputable def sTryAs (i : Nat) (c : Str) (body : MS) (h : Addr → Option Addr → MS) : MS := fun s => match body s with
  | .ex x s1 => if x.c = c then allC fun a d => cutC i (h a d (hotS i a d x s1)) else .no
  | r => r
theorem Rep.cut {K : PySem.W.Frag} {th : List Addr} {G H : Hp} {s : S} {σ : L2.St} (R : Rep K B th G s σ H) (i : Nat) (o : Option V) : Rep K B th G (cutS i s) (σ.set i o) H :=
  R.slots (by simp [R.len]) fun j d e => by
    rcases set_get e with ⟨_, q⟩ | ⟨hj, q⟩
    · cases q
    · obtain ⟨v, h1, h2⟩ := R.slot j d q
      exact ⟨v, by rw [List.getElem?_set_ne hj]; exact h1, h2⟩
theorem set_self {σ : L2.St} {i : Nat} : ∃ o, σ.set i o = σ := by
  by_cases h : i < σ.length
  · exact ⟨σ[i], List.set_getElem_self h⟩
  · exact ⟨none, List.set_eq_of_length_le (by omega)⟩
abbrev W0 : WX := fun _ _ _ _ => False
theorem PostS.uncut {K : PySem.W.Frag} {th : List Addr} {G H : Hp} {c : C} {Dn : Ends} {i : Nat} (P : PostS K B W th G H (cutC i c) Dn) :
    PostS K B W0 th G H c { nx := fun σ' H' => Dn.nx (σ'.set i none) H', rt := Dn.rt, bk := fun σ' H' => Dn.bk (σ'.set i none) H', ct := fun σ' H' => Dn.ct (σ'.set i none) H' } := by
  cases c with
  | nx s => exact fun th' G' H' σ' l R => P th' G' H' _ l (R.cut i none)
  | rt d s => exact fun th' G' H' σ' v l R r => P th' G' H' _ v l (R.cut i none) r
  | bk s => exact fun th' G' H' σ' l R => P th' G' H' _ l (R.cut i none)
  | ct s => exact fun th' G' H' σ' l R => P th' G' H' _ l (R.cut i none)
  | ex e s => exact P.elim
  | no => exact P.elim
theorem at_hot {K : PySem.W.Frag} {th : List Addr} {G H : Hp} {x : Exn} {cls : Value} {a : Addr} {d : Option Addr} (h : ExAt K B th G H x cls d) : At K th G (.exn a d (x.fs.map (·.1)) (x.fs.map (·.2))) (.ref a) := by
  obtain ⟨_, vs, h1, h2, h3, h4⟩ := h
  exact ⟨rfl, vs, h1, by simp [h2], fun z => by rw [h3 z]; rfl, h4⟩
theorem vs_tryAs {x n : Str} {i : Nat} {body suite : List Stmt} {b₀ : Stmt} {np pos' : Pos} {mb : MS} {h : Addr → Option Addr → MS} (hs : X.stack = X.env :: X.outer) (hf : X.env.frame = some X.env.locals) (hN : X.N.Nodup) (hc : Names X x (.ref (B.cl x))) (tk : Takes X W)
    (hm : PySem.W.exmOne X.K (.ref (B.cl x)) (.ref (B.cl x)) = some true)
    (hb : ∀ (W : WX) (pn : List (Addr × Obj)) (xe : Value → Shared → Prop), Takes (X.tr pn xe) W → PassesOwn (model X.prog X.w) X.A X.env xe → ∃ t, VSs (X.tr pn xe) B W body t mb)
    (hsu : ∀ (a : Addr) (oe : Obj) (d : Option Addr) (pn : List (Addr × Obj)), Zc (.ref (B.cl x)) d oe → (∃ vs, oe.data = .fields vs) → ∃ t, VSs (X.suite a ((a, oe) :: pn)) B W0 (b₀ :: suite) t (h a d)) (hi : X.N[i]? = some n := by rfl) (hln : X.env.kindOf n = some .local := by rfl) :
    VS X B W (.Try body [.ExceptHandler (some (.Name x np)) (some n) (b₀ :: suite) pos'] [] [] pos)
      (fun D σ H => cSt X.K B (wAs X.K (.ref (B.cl x)) i (fun a cls d D σ H => cls = .ref (B.cl x) ∧ cSt X.K B W0 (h a d) D σ H) W D) mb D σ H) (sTryAs i x mb h) := by
  refine ⟨ps_try_as (tb := fun W => cSt X.K B W mb) hs hf hN hi hln hc tk (fun W pn xe tk' po => ?_) (fun a oe cls d pn hz hfv => ?_), fun s th G σ H Dn R P => ⟨s, th, G, R, ?_⟩⟩
  · obtain ⟨t, v⟩ := hb W pn xe tk' po
    exact vss_c v
  · refine ⟨fun pins s σ H Dn I hh => ?_⟩
    obtain ⟨rfl, q⟩ := hh
    obtain ⟨t, v⟩ := hsu a oe d pn hz hfv
    exact (vss_c v).run pins s σ H Dn I q
  · unfold sTryAs at P
    cases hbs : mb s with
    | ex e s1 =>
      rw [hbs] at P
      intro th' G' H' σ' cls d l R' xa
      by_cases hx : e.c = x
      · dsimp only at P
        rw [if_pos hx] at P
        have hcl : cls = .ref (B.cl x) := by rw [← hx]; exact xa.1
        refine ⟨true, by rw [hcl]; exact hm, fun _ a ha => ⟨hcl, hotS i a d e s1, th', G', R'.sets (at_hot xa), ?_⟩, fun z => by cases z⟩
        have ne : allC (fun a d => cutC i (h a d (hotS i a d e s1))) ≠ .no := fun z => by rw [z] at P; exact P.elim
        rw [allC_at ne a d] at P
        exact (PostS.later l P).uncut
      · dsimp only at P
        rw [if_neg hx] at P
        exact P.elim
    | _ => rw [hbs] at P; exact P
/-! ### isinstance(e, Y), e.f -/
def eIsE (i : Nat) (b : Bool) (a : Addr) (d : Option Addr) : ME := fun s => match s.r[i]? with
  | some (some (.exn a' d' _ _)) => if a' = a ∧ d' = d then .ok (.bl b, s) else .no
  | _ => .no
def eFld (i : Nat) (f : Str) (a : Addr) (d : Option Addr) : ME := fun s => match s.r[i]? with
  | some (some (.exn a' d' ks l)) => if a' = a ∧ d' = d ∧ l.length = ks.length then (match (ks.zip l).lookup f with
    | some v => .ok (v, s)
    | none => .no) else .no
  | _ => .no
/-- the exception's own dict stands -/
def Hasd (d : Option Addr) (H : Hp) : Prop := ∀ dd, d = some dd → ∃ fs, H dd = some (.xd fs)
def rIsX (K : PySem.W.Frag) (C a : Addr) (d : Option Addr) : List V → Hp → VK → Prop := fun xs H Q => ∃ (c : V) (cv : Value) (b : Bool), xs = [.ref a, c] ∧ Hasd d H ∧ (∀ u, RelV c u → u = cv) ∧ PySem.W.kitOne K (.ref C) cv = some b ∧ Q (.bl b) H
theorem inst_exn {a D : Addr} {d : Option Addr} {oe : Obj} {pn pins : List (Addr × Obj)} {s : Shared} {σ : L2.St} {H : Hp} (hz : Zc (.ref D) d oe) (hf : ∃ vs, oe.data = .fields vs) (I : Inv (X.suite a ((a, oe) :: pn)) pins σ H s) (hd : Hasd d H) : ∃ od, PySem.W.InstAt s.heap a oe D od := by
  obtain ⟨hget, _⟩ := I.pin (a, oe) (List.mem_append.mpr (.inl List.mem_cons_self))
  obtain ⟨vs, hv⟩ := hf
  have nc : PySem.W.notCls oe = true := by unfold PySem.W.notCls; rw [hv] <;> rfl
  cases d with
  | none => exact ⟨none, hget, hz.1, nc, by rw [hz.2]; trivial⟩
  | some dd =>
    obtain ⟨fs, e⟩ := hd dd rfl
    obtain ⟨mA, hns, _⟩ := I.hok dd _ e
    obtain ⟨od, ho, _⟩ := lookIn_ns hns
    exact ⟨some od, hget, hz.1, nc, by rw [hz.2]; exact ho⟩
theorem call_isX {a D : Addr} {d : Option Addr} {oe : Obj} {pn : List (Addr × Obj)} (T : ExcC X.K D) (hz : Zc (.ref D) d oe) (hf : ∃ vs, oe.data = .fields vs) : CallR (X.suite a ((a, oe) :: pn)) (.builtin "isinstance") (rIsX X.K D a d) := by
  intro pins s σ H xs us Q I r h
  obtain ⟨c, cv, b, rfl, hd, hcv, e, q⟩ := h
  match us, r with
  | [_, u], .cons rx (.cons rt .nil) =>
    cases rx
    have ec := hcv _ rt
    subst ec
    obtain ⟨od, J⟩ := inst_exn hz hf I hd
    obtain ⟨cd, hcd, _⟩ := PySem.W.any_some T.hd
    exact PySem.W.kia_one (PySem.W.kitx_exc (by rw [hcd]; rfl) T.hg T.hk T.hs T.ha T.hn T.ht T.hm) I.kIn J e (fun z => nomatch z) fun tk => ⟨.bl b, H, I.kept (t' := tk) fun _ _ z => z, rfl, q⟩
theorem not_in_suite : True := trivial
/-- isinstance(e, Y), e in slot i -/
theorem ve_isX {a : Addr} {d : Option Addr} {oe : Obj} {pn : List (Addr × Obj)} {C : Addr} {n y : Str} {b : Bool} {c : V} {cv : Value} {p1 p2 : Pos} (i : Nat) (T : ExcC X.K C) (hz : Zc (.ref C) d oe) (hf : ∃ vs, oe.data = .fields vs) (hm : X.mg "isinstance" = none)
    (hy : PE (X.suite a ((a, oe) :: pn)) (.Name y p2) (tC c)) (hcv : ∀ u, RelV c u → u = cv) (hk : PySem.W.kitOne X.K (.ref C) cv = some b)
    (hN : X.N[i]? = some n := by rfl) (hv : Vis X.env.scope n := by first | exact Or.inl rfl | exact Or.inr (Or.inl rfl) | exact Or.inr (Or.inr rfl)) (hg : Gl X "isinstance" := by rfl) (hd1 : (n == ("__debug__" : Str)) = false := by decide) (hd2 : (n == ("__classdict__" : Str)) = false := by decide)
    (hs0 : starEach (.Name n p1 :: [.Name y p2]) X.env = (false, eval (.Name n p1) X.env) :: starEach [.Name y p2] X.env := by rfl) (hs1 : starEach [.Name y p2] X.env = (false, eval (.Name y p2) X.env) :: starEach [] X.env := by rfl) (hpl : (backTo pos (starEach [.Name y p2] X.env)).any (·.1) = false := by rfl) :
    VE (X.suite a ((a, oe) :: pn)) B W (.Call (.Name "isinstance" p) [.Name n p1, .Name y p2] [] pos) (tCB (rIsX X.K C a d) (tCons (tVar i) (tCons (tC c) tNil))) (eIsE i b a d) := by
  refine ⟨pe_callB (X := X.suite a ((a, oe) :: pn)) (call_isX T hz hf) hg hm (by decide +kernel) (pa_cons (pv i hN hv hd1 hd2) (pa_cons hy pa_nil hs1) hs0) (by decide) (by decide) hs0 hpl, fun s th G σ H Q R P => ?_⟩
  unfold eIsE at P
  split at P
  · rename_i a' d' ks l e
    split at P
    · rename_i hh
      obtain ⟨rfl, rfl⟩ := hh
      obtain ⟨v, h1, h2⟩ := R.slot i _ e
      obtain ⟨rfl, vs, q1, q2, q3, q4⟩ := h2
      exact ⟨_, h1, c, cv, b, rfl, fun dd hdd => ⟨_, R.eG _ _ (q4 dd hdd)⟩, hcv, hk, Post.ok (rel := relE X.K) P R rfl⟩
    · exact P.elim
  · exact P.elim
/-- e.f, e in slot i -/
def tFld (a : Addr) (d : Option Addr) (f : Str) (te : TE) : TE := fun σ H Q => te σ H fun x H1 => x = .ref a ∧ ∃ (dd : Addr) (fs : List (Str × V)) (v : V), d = some dd ∧ H1 dd = some (.xd fs) ∧ fs.lookup f = some v ∧ Q v H1
theorem pe_fld {a : Addr} {d : Option Addr} {oe : Obj} {pn : List (Addr × Obj)} {C : Addr} {f : Str} {e : Expr} {te : TE} (T : ExcC X.K C) (hz : Zc (.ref C) d oe) (hf : ∃ vs, oe.data = .fields vs) (no : PySem.W.findIn X.K (.ref C) f = some none) (he : PE (X.suite a ((a, oe) :: pn)) e te)
    (hb : attributeBase e f X.env (eval e X.env) = eval e X.env := by rfl) : PE (X.suite a ((a, oe) :: pn)) (.Attribute e f pos) (tFld a d f te) := by
  refine ⟨fun pins s σ H Q I h => attr_of hb (thn (he.run pins s σ H _ I h) fun u s1 hh => ?_)⟩
  obtain ⟨x, H1, I1, rx, rfl, dd, fs, v, rfl, ea, el, q⟩ := hh
  obtain rfl : u = Value.ref a := rx
  obtain ⟨mA, hns, hr⟩ := I1.hok dd _ ea
  obtain ⟨od, ho, hl⟩ := lookIn_ns hns
  obtain ⟨u, hu, ru⟩ := RelO.some_of (v := v) (o := mA f) (by rw [← el]; exact hr f)
  obtain ⟨hget, _⟩ := I1.pin (a, oe) (List.mem_append_left _ List.mem_cons_self)
  obtain ⟨vs, hdat⟩ := hf
  have nc : PySem.W.notCls oe = true := by unfold PySem.W.notCls; rw [hdat] <;> rfl
  have J : PySem.W.InstAt s1.heap a oe C (some od) := ⟨hget, hz.1, nc, by rw [hz.2]; exact ho⟩
  exact HandSPX.exc_get I1.kIn J T.hg T.hk T.hs (PySem.W.findObj_own T.hd no rfl (by rw [hl, hu])) (handed_of ru) ⟨v, H1, I1.tok _, ru, q⟩
theorem zip_look {K : PySem.W.Frag} {th : List Addr} {G : Hp} {f : Str} {dv : D} : ∀ {ks : List Str} {l : List D} {vs : List V}, AtL K th G l vs → (ks.zip l).lookup f = some dv → ∃ v, (ks.zip vs).lookup f = some v ∧ At K th G dv v
  | [], _, _, _, e => by simp at e
  | _ :: _, [], _, _, e => by simp at e
  | k :: ks, d :: l, vs, h, e => by
    obtain ⟨v, r, rfl, q, z⟩ := h
    simp only [List.zip_cons_cons, List.lookup] at e ⊢
    cases hk : f == k with
    | true => rw [hk] at e; cases e; exact ⟨v, rfl, q⟩
    | false => rw [hk] at e; exact zip_look z e
theorem ve_fld {a : Addr} {d : Option Addr} {oe : Obj} {pn : List (Addr × Obj)} {C : Addr} {n f : Str} {p1 : Pos} (i : Nat) (T : ExcC X.K C) (hz : Zc (.ref C) d oe) (hf : ∃ vs, oe.data = .fields vs) (no : PySem.W.findIn X.K (.ref C) f = some none)
    (hN : X.N[i]? = some n := by rfl) (hv : Vis X.env.scope n := by first | exact Or.inl rfl | exact Or.inr (Or.inl rfl) | exact Or.inr (Or.inr rfl)) (hd1 : (n == ("__debug__" : Str)) = false := by decide) (hd2 : (n == ("__classdict__" : Str)) = false := by decide)
    (hb : attributeBase (.Name n p1) f X.env (eval (.Name n p1) X.env) = eval (.Name n p1) X.env := by rfl) :
    VE (X.suite a ((a, oe) :: pn)) B W (.Attribute (.Name n p1) f pos) (tFld a d f (tVar i)) (eFld i f a d) := by
  refine ⟨pe_fld T hz hf no (pv i hN hv hd1 hd2) hb, fun s th G σ H Q R P => ?_⟩
  unfold eFld at P
  split at P
  · rename_i a' d' ks l e
    split at P
    · rename_i hh
      obtain ⟨rfl, rfl, hll⟩ := hh
      obtain ⟨v, h1, h2⟩ := R.slot i _ e
      obtain ⟨rfl, vs, q1, q2, q3, q4⟩ := h2
      split at P
      · rename_i dv hlk
        obtain ⟨u, hu, hau⟩ := zip_look q1 hlk
        refine ⟨_, h1, rfl, ?_⟩
        cases hd : d' with
        | none =>
          rw [q3 hd] at hlk
          simp at hlk
        | some dd => exact ⟨dd, _, u, rfl, R.eG _ _ (q4 dd hd), hu, Post.ok (rel := relE X.K) P R hau⟩
      · exact P.elim
    · exact P.elim
  · exact P.elim
end
end VL
/-! list(s), s * n, t * n, sep.join(..) -/
namespace VL
open PySem PySem.Spec PyProof.Rows L2
section
variable {X : Cx} {B : Bs} {W : WX} {K : PySem.W.Frag} {pos : Pos}
/-! ### list of a text -/
abbrev signV (c : Nat) : V := .str ⟨#[c]⟩
theorem signs_vals {x : Str} : ∀ (l : List Nat) (n : Nat) (its : List Value), (∀ j v, its[j]? = some v → SignAt x (n + j) v) → (∀ j, l[j]? = x.cps[n + j]?) → its.length = l.length → Vals (l.map signV) its
  | [], _, [], _, _, _ => .nil
  | [], _, _ :: _, _, _, h => by cases h
  | _ :: _, _, [], _, _, h => by cases h
  | c :: l, n, v :: its, h1, h2, h3 => by
    refine .cons ?_ (signs_vals (x := x) l (n + 1) its (fun j u hu => ?_) (fun j => ?_) (by simpa using h3))
    · obtain ⟨c', t, e1, rfl⟩ := h1 0 v rfl
      have e2 := h2 0
      rw [Nat.add_zero] at e1 e2
      rw [e1] at e2
      have e2 : some c = some c' := e2
      cases e2
      exact ⟨t, rfl⟩
    · have := h1 (j + 1) u (by simpa using hu)
      rwa [show n + (j + 1) = n + 1 + j by omega] at this
    · have := h2 (j + 1)
      rw [show n + (j + 1) = n + 1 + j by omega] at this
      simpa using this
theorem call_listS (hc : X.calm = true) : CallR X (.type "list") (fun xs H Q => ∃ x : Str, xs = [.str x] ∧ x.cps.size ≤ 1000000 ∧ ∀ p, H p = none → Q (.ref p) (upd H p (.lst (x.cps.toList.map signV)))) := by
  intro pins s σ H xs us Q I r h
  obtain ⟨x, rfl, hz, q⟩ := h
  obtain ⟨u, rfl, rx⟩ := vals1 r
  obtain ⟨t, rfl⟩ := rx
  have hz2 : x.cps.size ≤ sizeLine := by rw [sizeLine_eq]; omega
  refine call_list_str (I.ok.hd hc) x t (fun h' tk acc c' kp e hit => ?_) (hn := hz2)
  have rv : Vals (x.cps.toList.map signV) acc.toList := signs_vals _ 0 _ (fun j v hv => by
    rw [Nat.zero_add]
    exact hit.2 j v (by simpa using hv)) (fun j => by simp) (by rw [Array.length_toList, hit.1]; simp)
  have ob : ObjOk X.prog X.w (upd H s.heap.objs.size (.lst (x.cps.toList.map signV))) h' s.heap.objs.size (.lst (x.cps.toList.map signV)) := ⟨by simpa using hz2, acc.toList, c', rv, by simpa using e⟩
  exact ⟨.ref s.heap.objs.size, _, I.laid (t' := tk) kp (Nat.le_refl _) ob, rfl, q _ (I.hok.fresh (Nat.le_refl _))⟩
def gListS : List D → S → R (Ob × S) := fun l s => match l with
  | [.str z] => if z.length ≤ 1000000 then .ok (.lst (z.map fun c => .str [c]), s) else .no
  | _ => .no
theorem at_signs {th : List Addr} {G : Hp} : ∀ z : List Nat, AtL K th G (z.map fun c => D.str [c]) (z.map signV)
  | [] => rfl
  | c :: z => ⟨_, _, rfl, rfl, at_signs z⟩
theorem semC_listS : SemCF K B W (fun xs H Q => ∃ x : Str, xs = [.str x] ∧ x.cps.size ≤ 1000000 ∧ ∀ p, H p = none → Q (.ref p) (upd H p (.lst (x.cps.toList.map signV)))) gListS := fun s th G σ H Q l vs R rl P => by
  match l, rl, P with
  | [.str z], rl, P =>
    obtain ⟨v, rfl, hv⟩ := rl.one_of
    cases hv
    simp only [gListS] at P
    split at P
    · rename_i hz
      exact ⟨_, rfl, by simpa using hz, fun p hp => post_f R P (at_signs z) hp⟩
    · exact P.elim
  | [], _, P => exact P.elim
  | [.non], _, P => exact P.elim
  | [.bl _], _, P => exact P.elim
  | [.int _], _, P => exact P.elim
  | [.tup _], _, P => exact P.elim
  | [.lst _], _, P => exact P.elim
  | [.dct _ _], _, P => exact P.elim
  | [.scr _], _, P => exact P.elim
  | [.loc _], _, P => exact P.elim
  | [.obj _], _, P => exact P.elim
  | [.exn _ _ _ _], _, P => exact P.elim
  | d :: _ :: _, _, P => cases d <;> exact P.elim
/-! ### s * n -/
def rRepS : R2 := fun x y H Q => ∃ (z : Str) (n : Int), x = .str z ∧ y = .int n ∧ 0 ≤ n ∧ n ≤ 1000000 ∧ z.length * n.toNat ≤ 1000000 ∧ Q (.str ⟨(List.replicate n.toNat z.cps.toList).flatten.toArray⟩) H
theorem rep_cps (z : Str) : ∀ n : Nat, (List.replicate n z.cps).foldl (· ++ ·) #[] = (List.replicate n z.cps.toList).flatten.toArray := by
  have h : ∀ (n : Nat) (a : Array Nat), (List.replicate n z.cps).foldl (· ++ ·) a = a ++ (List.replicate n z.cps.toList).flatten.toArray := by
    intro n
    induction n with
    | zero => intro a; simp
    | succ n ih =>
      intro a
      rw [List.replicate_succ, List.foldl_cons, ih, List.replicate_succ, List.flatten_cons]
      apply Array.toList_inj.mp
      simp
  intro n
  rw [h]; simp
theorem op_repS : OpR X (binaryOp .Mult) rRepS := by
  intro pins s σ H x y v u Q I rx ry h
  obtain ⟨z, n, rfl, rfl, h0, h1, h2, q⟩ := h
  obtain ⟨t, rfl⟩ := rx
  obtain ⟨t', rfl⟩ := ry
  have e63 : (2 : Int) ^ 63 = 9223372036854775808 := rfl
  have hpost : ∀ y : Str, y.length ≤ 1000000 → y = ⟨(List.replicate n.toNat z.cps.toList).flatten.toArray⟩ → ∀ tk, EP X pins σ Q (.str y s.toks) { s with toks := tk } := fun y _ hy tk => ⟨.str y, H, I.kept (t' := tk) fun _ _ w => w, ⟨_, rfl⟩, by rw [hy]; exact q⟩
  refine P.mul_str ?_ (fun h3 _ => ?_) (fun h3 _ => ?_) ?_
  · rw [e63, decide_eq_false (by omega), decide_eq_false (by omega)]; rfl
  · rw [e63]
    have h4 : z.length ≤ 1000000 := by
      have : 1 ≤ n.toNat := by omega
      exact Nat.le_trans (Nat.le_mul_of_pos_right _ this) h2
    have : (1000000 : Int) ≤ (9223372036854775808 - 1) / n := by
      rw [Int.le_ediv_iff_mul_le (by omega)]
      omega
    omega
  · show decide (z.length * n.toNat > sizeLine) = false
    rw [sizeLine_eq]
    exact decide_eq_false (by omega)
  · have lenE : ((List.replicate n.toNat z.cps.toList).flatten.toArray).size ≤ 1000000 := by
      simp only [List.size_toArray, List.length_flatten, List.map_replicate, List.sum_replicate_nat, Array.length_toList]
      rw [Nat.mul_comm]; exact h2
    by_cases c1 : n < 1
    · rw [if_pos c1]
      have hn : n = 0 := by omega
      subst hn
      refine ⟨by decide, ?_⟩
      exact hpost Str.empty (by decide) rfl _
    · rw [if_neg c1]
      by_cases c2 : (n == 1 || z.length == 0) = true
      · rw [if_pos c2]
        show EP X pins σ Q (.str z t) s
        refine ⟨.str z, H, I, ⟨_, rfl⟩, ?_⟩
        have : z = ⟨(List.replicate n.toNat z.cps.toList).flatten.toArray⟩ := by
          simp only [Bool.or_eq_true, beq_iff_eq] at c2
          rcases c2 with c2 | c2
          · subst c2
            obtain ⟨⟨l⟩⟩ := z
            simp
          · obtain ⟨⟨l⟩⟩ := z
            have : l = [] := List.eq_nil_of_length_eq_zero c2
            subst this
            simp
        rw [← this] at q
        exact q
      · rw [if_neg c2]
        rw [rep_cps]
        refine ⟨?_, hpost _ lenE rfl _⟩
        show ((List.replicate n.toNat z.cps.toList).flatten.toArray).size ≤ sizeLine
        rw [sizeLine_eq]; omega
/-! ### every times -/
def rMulA (K : PySem.W.Frag) : R2 := fun x y H Q => rI CMul (fun i j => .int (i * j)) x y H Q ∨ (rRepS x y H Q ∨ (rRep x y H Q ∨ rRepT K x y H Q))
theorem op_mulA : OpR X (binaryOp .Mult) (rMulA X.K) := op_mul.or (op_repS.or (op_rep.or op_repT))
def fMulA : D → D → S → R (D × S)
  | .int i, .int j, s => if mulOk i j = true then .ok (.int (i * j), s) else .no
  | .str z, .int n, s => if 0 ≤ n ∧ n ≤ 1000000 ∧ z.length * n.toNat ≤ 1000000 then .ok (.str (List.replicate n.toNat z).flatten, s) else .no
  | .tup l, .int n, s => if l ≠ [] ∧ 2 ≤ n ∧ n ≤ 1000 ∧ l.length ≤ 1000 ∧ prs l = false then .ok (.tup (List.replicate n.toNat l).flatten, s) else .no
  | x, .int n, s => match lstOf s x with
    | some l => if 0 ≤ n ∧ n ≤ 1000000 ∧ l.length * n.toNat ≤ 1000000 then .ok (.lst (List.replicate n.toNat l).flatten, s) else .no
    | none => .no
  | _, _, _ => .no
theorem sem_rep_lst {th : List Addr} {G H : Hp} {s : S} {σ : L2.St} {x : D} {n : Int} {vx : V} {Q : VK} (R : Rep K B th G s σ H) (rx : At K th G x vx) (P : Post K B W σ th G H (relE K) (match lstOf s x with
    | some l => if 0 ≤ n ∧ n ≤ 1000000 ∧ l.length * n.toNat ≤ 1000000 then .ok (.lst (List.replicate n.toNat l).flatten, s) else .no
    | none => .no) Q) : rRep vx (.int n) H Q := by
  cases e : lstOf s x with
  | none => rw [e] at P; exact P.elim
  | some l =>
    rw [e] at P
    simp only at P
    split at P
    · rename_i hz
      obtain ⟨p, vs, h1, h2, h3⟩ := R.lst_of rx e
      exact ⟨p, n, vs, h1, rfl, h2, by have e63 : (2 : Int) ^ 63 = 9223372036854775808 := rfl
                                       rw [e63]; omega, by have e63 : (2 : Int) ^ 63 = 9223372036854775808 := rfl
                                                           rw [e63]; omega, by rw [h3.length, sizeLine_eq]; omega, fun t ht => post_lst R P (h3.rep _) ht⟩
    · exact P.elim
theorem prs_rep {l : List D} {n : Int} (h : prs l = false) (hn : 2 ≤ n) : prs (List.replicate n.toNat l).flatten = false := by
  obtain ⟨k, e⟩ : ∃ k, n.toNat = k + 1 := ⟨n.toNat - 1, by omega⟩
  rw [e, List.replicate_succ, List.flatten_cons]
  unfold prs at h ⊢
  rw [List.all_append, h, Bool.false_and]
theorem semR_mulA : SemR K B W (rMulA K) fMulA := fun s th G σ H Q x y vx vy R rx ry P => by
  cases y with
  | int n =>
    cases ry
    cases x with
    | int i =>
      cases rx
      simp only [fMulA] at P
      split at P
      · rename_i h
        refine .inl ⟨i, n, rfl, rfl, ?_, Post.ok (rel := relE K) P R rfl⟩
        simp only [mulOk, Bool.or_eq_true, decide_eq_true_eq] at h
        have e : (2 : Int) ^ 64 = 18446744073709551616 := rfl
        show (-(2 ^ 64 : Int) < i ∧ i < (2 ^ 64 : Int)) ∨ (-(2 ^ 64 : Int) < n ∧ n < (2 ^ 64 : Int))
        rw [e]; exact h
      · exact P.elim
    | str z =>
      cases rx
      simp only [fMulA] at P
      split at P
      · rename_i h
        refine .inr (.inl ⟨_, n, rfl, rfl, h.1, h.2.1, by rw [str_len]; exact h.2.2, ?_⟩)
        exact Post.ok (rel := relE K) P R rfl
      · exact P.elim
    | tup l =>
      simp only [fMulA] at P
      split at P
      · rename_i h
        obtain ⟨p, vs, rfl, q, r⟩ := rx
        refine .inr (.inr (.inr ⟨p, n, vs, rfl, rfl, R.eG.sqT q.sq, fun z => ?_, h.2.1, h.2.2.1, by rw [r.length]; exact h.2.2.2.1, fun t ht => post_tupO (prs_rep h.2.2.2.2 h.2.1) R P (r.rep _) ht⟩))
        exact h.1 (List.eq_nil_of_length_eq_zero (by rw [← r.length, z]; rfl))
      · exact P.elim
    | _ => exact .inr (.inr (.inl (sem_rep_lst R rx P)))
  | _ => cases x <;> exact P.elim
theorem ve_mulA {a b : Expr} {ta tb : TE} {ma mb : ME} (ha : VE X B W a ta ma) (hb : VE X B W b tb mb) : VE X B W (.BinOp a .Mult b pos) (tOp (rMulA X.K) ta tb) (eOp fMulA ma mb) := ⟨pe_op op_mulA ha.pe hb.pe, sem_op semR_mulA ha.sem hb.sem⟩
/-! ### sep.join(xs) -/
def strsD : List D → Option (List (List Nat))
  | [] => some []
  | .str z :: l => (strsD l).map (z :: ·)
  | _ => none
theorem strsD_at {th : List Addr} {G : Hp} : ∀ {l : List D} {vs : List V} {ys : List (List Nat)}, AtL K th G l vs → strsD l = some ys → vs = (ys.map fun z => (⟨z.toArray⟩ : Str)).map V.str
  | [], _, _, h, e => by cases h; cases e; rfl
  | d :: l, _, ys, h, e => by
    obtain ⟨v, r, rfl, q, z⟩ := h
    cases d <;> simp only [strsD] at e <;> first
      | (cases e; done)
      | (cases hb : strsD l with
         | none => rw [hb] at e; cases e
         | some cs =>
           rw [hb] at e
           cases e
           cases q
           rw [strsD_at z hb]; rfl)
def joinLen (a : List Nat) (ys : List (List Nat)) : Nat := (ys.map List.length).sum + ys.length * a.length
def eJoin (o m : ME) : ME := fun s => (o s).bind fun a s => match a with
  | .str a => (m s).bind fun x s => match seqOf s x with
    | some l => match strsD l with
      | some ys => if joinLen a ys ≤ 1000000 then .ok (.str (TL.joinL a ys), s) else .no
      | none => .no
    | none => .no
  | _ => .no
theorem ve_join {o e : Expr} {to te : TE} {mo me : ME} {apos : Pos} (ho : VE X B W o to mo) (he : VE X B W e te me) (hs : starEach [e] X.env = [(false, eval e X.env)] := by rfl) (hbase : attributeBase o "join" X.env (eval o X.env) = eval o X.env := by rfl) (hline : (apos.endLine == pos.line) = true := by rfl) :
    VE X B W (.Call (.Attribute o "join" apos) [e] [] pos) (tM1 (fun x xs H Q => ∃ a p, ∃ ys : List Str, x = .str a ∧ xs = [.ref p] ∧ (SqL X.K H p (ys.map V.str) ∨ SqT X.K H p (ys.map V.str)) ∧ (ys.map (·.length)).sum + ys.length * a.length ≤ 16777216 ∧ Q (.str (Txt.join a ys)) H) to te) (eJoin mo me) :=
  ⟨pe_join ho.pe he.pe hs hbase hline, fun s th G σ H Q R P => ho.sem s th G σ H _ R (P.bind fun x s1 th1 G1 H1 vx l1 R1 r1 P1 => by
    cases x with
    | str a =>
      have r1 : vx = sv a := r1
      subst r1
      refine ⟨⟨_, rfl⟩, he.sem s1 th1 G1 σ H1 _ R1 (P1.bind fun y s2 th2 G2 H2 vy l2 R2 r2 P2 => ?_)⟩
      cases e1 : seqOf s2 y with
      | none => rw [e1] at P2; exact P2.elim
      | some l =>
        rw [e1] at P2
        simp only at P2
        cases e2 : strsD l with
        | none => rw [e2] at P2; exact P2.elim
        | some ys =>
          rw [e2] at P2
          simp only at P2
          split at P2
          · rename_i hz
            obtain ⟨p, vs, rfl, q, r⟩ := R2.seq_of r2 e1
            cases strsD_at r e2
            refine ⟨_, p, ys.map fun z => (⟨z.toArray⟩ : Str), rfl, rfl, q, ?_, ?_⟩
            · have e3 : ((ys.map fun z => (⟨z.toArray⟩ : Str)).map (·.length)) = ys.map List.length := by
                rw [List.map_map]; exact List.map_congr_left fun z _ => str_len z
              rw [e3, List.length_map, str_len]
              have : (ys.map List.length).sum + ys.length * a.length ≤ 1000000 := hz
              omega
            · have e4 : Txt.join (⟨a.toArray⟩ : Str) (ys.map fun z => (⟨z.toArray⟩ : Str)) = ⟨(TL.joinL a ys).toArray⟩ := by
                rw [TL.join_eq]
                apply TL.ext_tl
                rw [TL.tl_join, List.map_map]
                have : ys.map (TL.tl ∘ fun z => (⟨z.toArray⟩ : Str)) = ys := by
                  have e5 : (TL.tl ∘ fun z : List Nat => (⟨z.toArray⟩ : Str)) = id := by funext z; simp [TL.tl]
                  rw [e5, List.map_id]
                rw [this]
              rw [e4]
              exact Post.ok (rel := relE X.K) P2 R2 rfl
          · exact P2.elim
    | _ => exact P1.elim)⟩
/-! ### a def that calls itself, by fuel -/
theorem fn_no {P : Program} {w : World} {mg : Str → Option Value} {base : Heap} {f : Addr} {fd : FuncData} {ps : List Str} {k : Nat} : FnP P w K mg base B k f fd ps (fun _ => .no) :=
  ⟨fun vs H Q E h => (by obtain ⟨_, _, _, _, z⟩ := h; exact z.elim), fun A outer s H args us vs Q E hr env b r h => (by obtain ⟨_, _, _, _, z⟩ := h; exact z.elim)⟩
theorem fn_rec {P : Program} {w : World} {mg : Str → Option Value} {base : Heap} {x : Str} {f : Addr} {fd : FuncData} {ps : List Str} {k : Nat} {F : Nat → List D → PR} (h0 : F 0 = fun _ => .no) (hm : mg x = some (.ref f)) (hk : PySem.W.keepIn K (.ref f) = true) (hb : Binds K fd ps [])
    (step : ∀ n, CallOk P w K mg base B x (k + n) ps (F n) → FnP P w K mg base B (k + n + 1) f fd ps (F (n + 1))) : ∀ n, FnP P w K mg base B (k + n) f fd ps (F n)
  | 0 => by rw [h0]; exact fn_no
  | n + 1 => step n ⟨f, fd, fn_rec h0 hm hk hb step n, hm, hk, hb⟩
/-! ### isinstance of what is caught: an own class, a built-in one -/
theorem vb_ValueError : bootBuiltins "ValueError" = some (.type "ValueError") := by decide +kernel
theorem ve_isG {a C D : Addr} {d : Option Addr} {oe : Obj} {pn : List (Addr × Obj)} {n y : Str} {b : Bool} {p p1 p2 : Pos} (i : Nat) (T : ExcC X.K C) (hz : Zc (.ref C) d oe) (hf : ∃ vs, oe.data = .fields vs) (hm : X.mg "isinstance" = none)
    (hy : X.mg y = some (.ref D)) (hk : PySem.W.kitOne X.K (.ref C) (.ref D) = some b)
    (hN : X.N[i]? = some n := by rfl) (hv : Vis X.env.scope n := by first | exact Or.inl rfl | exact Or.inr (Or.inl rfl) | exact Or.inr (Or.inr rfl)) (hgy : Gl X y := by rfl) (hg : Gl X "isinstance" := by rfl) (hd1 : (n == ("__debug__" : Str)) = false := by decide) (hd2 : (n == ("__classdict__" : Str)) = false := by decide) (hd3 : (y == ("__debug__" : Str)) = false := by decide)
    (hs0 : starEach (.Name n p1 :: [.Name y p2]) X.env = (false, eval (.Name n p1) X.env) :: starEach [.Name y p2] X.env := by rfl) (hs1 : starEach [.Name y p2] X.env = (false, eval (.Name y p2) X.env) :: starEach [] X.env := by rfl) (hpl : (backTo pos (starEach [.Name y p2] X.env)).any (·.1) = false := by rfl) :
    VE (X.suite a ((a, oe) :: pn)) B W (.Call (.Name "isinstance" p) [.Name n p1, .Name y p2] [] pos) (tCB (rIsX X.K C a d) (tCons (tVar i) (tCons (tC (.ref D)) tNil))) (eIsE i b a d) :=
  ve_isX i T hz hf hm (pe_glob (v := .ref D) (u := .ref D) hgy hy rfl hd3) (fun u (h : u = Value.ref D) => h) hk hN hv hg hd1 hd2 hs0 hs1 hpl
theorem ve_isT {a C : Addr} {d : Option Addr} {oe : Obj} {pn : List (Addr × Obj)} {n y : Str} {T0 : String} {b : Bool} {p p1 p2 : Pos} (i : Nat) (T : ExcC X.K C) (hz : Zc (.ref C) d oe) (hf : ∃ vs, oe.data = .fields vs) (hm : X.mg "isinstance" = none)
    (hy : X.mg y = none) (hb : bootBuiltins y = some (.type T0)) (hk : PySem.W.kitOne X.K (.ref C) (.type T0) = some b)
    (hN : X.N[i]? = some n := by rfl) (hv : Vis X.env.scope n := by first | exact Or.inl rfl | exact Or.inr (Or.inl rfl) | exact Or.inr (Or.inr rfl)) (hgy : Gl X y := by rfl) (hg : Gl X "isinstance" := by rfl) (hd1 : (n == ("__debug__" : Str)) = false := by decide) (hd2 : (n == ("__classdict__" : Str)) = false := by decide) (hd3 : (y == ("__debug__" : Str)) = false := by decide) (hnn : y ≠ "__name__" := by decide)
    (hs0 : starEach (.Name n p1 :: [.Name y p2]) X.env = (false, eval (.Name n p1) X.env) :: starEach [.Name y p2] X.env := by rfl) (hs1 : starEach [.Name y p2] X.env = (false, eval (.Name y p2) X.env) :: starEach [] X.env := by rfl) (hpl : (backTo pos (starEach [.Name y p2] X.env)).any (·.1) = false := by rfl) :
    VE (X.suite a ((a, oe) :: pn)) B W (.Call (.Name "isinstance" p) [.Name n p1, .Name y p2] [] pos) (tCB (rIsX X.K C a d) (tCons (tVar i) (tCons (tC (.ty T0)) tNil))) (eIsE i b a d) :=
  ve_isX i T hz hf hm (pe_bltn (v := .ty T0) (u := .type T0) hgy hy hb rfl hnn hd3) (fun u (h : u = Value.type T0) => h) hk hN hv hg hd1 hd2 hs0 hs1 hpl
end
end VL
/-! all, any of a generator expression over a text; the element is quiet -/
namespace GW
open PySem PySem.Spec PyProof.Rows L2 GxR
section
variable {X : Cx} {pins : List (Addr × Obj)} {σ : L2.St} {H : Hp} {s : Shared}
theorem gen_sig {c P : Addr} {elt iter : Expr} {x : Str} {px gp : Pos} {scope : Scope} {Bq : L2.St → Hp → V → Bool → Prop} {te : TE} {k : Nat} {QQ : Value → Shared → Prop} {RR : List Bool → Hp → Prop}
    (hr : Room k X.A) (TB : TabB X.base X.mg c P) (hcode : X.env.code = .ref c) (S : GenS X.env scope x) (hi : PE X iter te) (hel : EltQ X P scope x elt Bq) (hfo : ∀ v, genFold iter X.env v = pure v) (I : Inv X pins σ H s)
    (h : te σ H fun v HA => ∃ (a : Str) (bs : List Bool), v = .str a ∧ bs.length = a.cps.size ∧ (∀ (i : Nat) z b, a.cps[i]? = some z → bs[i]? = some b → Bq σ HA (.str ⟨#[z]⟩) b) ∧ TabG HA P ∧ RR bs HA)
    (hQ : ∀ bs HA g sE, RR bs HA → Set1 X pins σ HA P bs g sE → QQ (.ref g) sE) :
    wpAny (model X.prog X.w) X.A (eval (.GeneratorExp elt [⟨.Name x px, iter, [], 0⟩] scope gp) X.env) QQ X.xe s := by
  refine wpAny_GeneratorExp_walksQ hr.hd S.co (closure_ok S.free) S.cell S.dot S.loc S.kind (by have := hr.dp; omega) (thn (hi.run pins s σ H _ I h) fun xv sA ⟨v, HA, IA, rA, a, bs, ev, hbl, hbq, ⟨ps, hP, ht⟩, qA⟩ => ?_) hfo
  subst ev
  obtain ⟨tv, rfl⟩ := id rA
  refine wpAny_pyIter_str fun o St W hst => ?_
  have tP : sA.heap.get? P = some { cls := .none, data := .fields ps } := IA.hok P _ hP
  have ltP : P < sA.heap.objs.size := Heap.lt_size tP
  have tP2 : (sA.heap.push o).get? P = some { cls := .none, data := .fields ps } := Heap.get?_push_of_some _ tP
  have hd2 : PySem.W.CodeHd (sA.heap.push o) c P := TB.code.keeps fun b u e => Heap.get?_push_of_some _ (IA.bk b u e)
  have nl2 : (sA.heap.push o).NoLimit := IA.nolimit.push o
  have szp : (sA.heap.push o).objs.size = sA.heap.objs.size + 1 := Heap.size_push ..
  have go : ∀ (code : Value) (hC : Heap) (tk : Nat) (ps' : Array Value), Heap.ExtBut P (sA.heap.push o) hC → (sA.heap.push o).objs.size ≤ hC.objs.size → hC.get? P = some { cls := .none, data := .fields ps' } → (∃ more, ps' = ps ++ more) → TriplesOk ps'.toList →
      wpAny (model X.prog X.w) X.A (builtinsFor X.env.globals X.env.builtins) (fun bi sD =>
        ∃ Ia fp wr n₀ Pf St₀ pz F, Value.ref sA.heap.objs.size = .ref Ia ∧ (∀ A' : Around, A'.handled = none → Walks X.prog X.w A' Ia fp wr n₀ Pf St₀) ∧ St₀ 0 sD.heap ∧ (∀ b ∈ fp, b < sD.heap.objs.size) ∧ sD.heap.NoLimit ∧ cStatics ∉ wr ∧
          (∀ hr2 : Heap, (∀ b o, sD.heap.get? b = some o → hr2.get? b = some o) →
            QuietGen X.prog X.w (genEnv scope (cloFrom X.env.cells scope.names []) sD.heap.objs.size code bi X.env) x [] elt (List.range sD.heap.objs.size) wr Pf pz F hr2) ∧
          (∀ g hE tkE gs, gs.bare = true → sD.heap.objs.size < g → hE.objs.size = g + 1 → (∀ b o, sD.heap.get? b = some o → hE.get? b = some o) →
            WalksS X.prog X.w X.A.in4 g (g :: sD.heap.objs.size :: List.range sD.heap.objs.size) (sD.heap.objs.size :: wr) (GenOnlyQ sD.gens.size) (passing pz n₀ 0).length
              (fun j y => ∃ i, (passing pz n₀ 0)[j]? = some i ∧ F i y) (GenAt X.prog X.w X.A.in4 g sD.gens.size sD.heap.objs.size (List.range sD.heap.objs.size) wr pz n₀ F) →
            GenAt X.prog X.w X.A.in4 g sD.gens.size sD.heap.objs.size (List.range sD.heap.objs.size) wr pz n₀ F 0 { sD with gens := sD.gens.push gs, toks := tkE, heap := hE } →
            QQ (.ref g) { sD with gens := sD.gens.push gs, toks := tkE, heap := hE })) X.xe { sA with heap := hC, toks := tk } := by
    intro code hC tk ps' ext hsz tC hmore htC
    obtain ⟨bm, ob, e1, e2, e3, e4, e5, e6, e7, e8⟩ := TB.bm
    have ncP : cStatics ≠ P := fun e => by
      obtain ⟨_, hns, _⟩ := IA.nolimit
      obtain ⟨o', es, ep, ho, hd, _⟩ := hns
      rw [e, tP] at ho
      cases ho
      cases hd
    have ncl : cStatics < sA.heap.objs.size := let ⟨_, hns, _⟩ := IA.nolimit; hns.lt
    have kC : ∀ b u, b ≠ P → sA.heap.get? b = some u → hC.get? b = some u := fun b u hb e => ext b u hb (Heap.get?_push_of_some _ e)
    refine wpAny_builtinsFor (m := X.mg) (by rw [IA.ok.glob]; exact ((IA.mod.glob.keeps IA.bk).push o).extBut ext TB.gP) e1 e2 (kC _ _ e4 (IA.bk _ _ e5)) e6 e7 e8 ?_
    have two : ∀ b ∈ [sA.heap.objs.size], b = sA.heap.objs.size := fun b hb => by simpa using hb
    refine ⟨sA.heap.objs.size, _, [sA.heap.objs.size], a.cps.size, _, St, (fun _ => true), (fun i y => ∃ b, bs[i]? = some b ∧ y = .bool b), rfl, W, ?_, ?_, nl2.extBut ext ncP, ?_, ?_, ?_⟩
    · refine (W X.A hr.hd).frame _ _ _ hst fun b hb u e => ext b u (fun z => ?_) e
      exact Nat.ne_of_lt ltP (z.symm.trans (two b hb))
    · intro b hb
      show b < hC.objs.size
      have hlC : sA.heap.objs.size < hC.objs.size := by rw [szp] at hsz; exact hsz
      rw [two b hb]; exact hlC
    · intro z
      have e9 : cStatics = sA.heap.objs.size := by simpa using z
      rw [e9] at ncl
      exact Nat.lt_irrefl _ ncl
    · intro hr2 hrk
      refine ⟨fun A' E' i v s₂ m₂ hA hPv hn hm hk => by simp only [List.forIn_nil]; exact wpAny_pure ⟨rfl, keeps_refl _⟩, fun A' E' i v s₂ m₂ hA hPv hp hn hm hk => ?_⟩
      obtain ⟨z, tz, hz, rfl⟩ := hPv
      have hlt : i < bs.length := by rw [hbl]; exact (Array.getElem?_eq_some_iff.mp hz).1
      refine wpAny_mono (hel pins σ HA sA _ A' E' (.str ⟨#[z]⟩) _ bs[i] s₂ m₂ IA rfl rfl rfl hA (fun q oq hq e => ?_) hn hm ⟨tz, rfl⟩ (hbq i z _ hz (List.getElem?_eq_getElem hlt))) (fun y s3 r => ⟨⟨_, List.getElem?_eq_getElem hlt, r.1⟩, r.2⟩) fun _ _ e => e
      have hql := Heap.lt_size e
      have hlC : sA.heap.objs.size < hC.objs.size := by rw [szp] at hsz; exact hsz
      refine hk q (List.mem_range.mpr (Nat.lt_trans hql hlC)) (fun zz => ?_) oq (hrk q oq (kC q oq hq e))
      have e9 : q = sA.heap.objs.size := by simpa using zz
      rw [e9] at hql
      exact Nat.lt_irrefl _ hql
    · intro g hE tkE gs hgb hag hszE hkE WE hat
      simp only [GxR.passing_true, List.length_range] at WE
      rw [← hbl] at WE hat
      refine hQ bs HA g _ qA ⟨_, _, _, _, _, WE.in4_1, hat, ?_, fun s' hm => ?_⟩
      · intro j y sj Qj Ej hy hQj
        obtain ⟨i, hij, b, hb, rfl⟩ := hy
        obtain ⟨hj, ej⟩ := List.getElem?_eq_some_iff.mp hij
        rw [List.getElem_range] at ej
        subst ej
        have hQ2 : Qj (bAt bs j) sj := hQj
        unfold bAt at hQ2
        rw [hb] at hQ2
        exact wpAny_truthy_bool hQ2
      · obtain ⟨more, em⟩ := hmore
        have nwr : ∀ b u, sA.heap.get? b = some u → b ∉ hC.objs.size :: [sA.heap.objs.size] := fun b u e hb => by
          have hl := Heap.lt_size e
          have hlC : sA.heap.objs.size < hC.objs.size := by rw [szp] at hsz; exact hsz
          rcases (show b = hC.objs.size ∨ b = sA.heap.objs.size by simpa using hb) with z | z
          · rw [z] at hl; exact Nat.lt_irrefl _ (Nat.lt_trans hl hlC)
          · rw [z] at hl; exact Nat.lt_irrefl _ hl
        have J := inv_tab (more := more) (h' := s'.heap) (g' := s'.gens) (d' := s'.drawn) (t' := s'.toks) IA hP (fun b u hb e => hm.heap b u (nwr b u e) (hkE b u (kC b u hb e)))
          (by rw [← em]; exact hm.heap P _ (nwr P _ tP) (hkE P _ tC)) (AllBare.movedS (IA.bare.push hgb) hm)
        rw [sh_eta sA s' hm.os] at J
        exact ⟨upd HA P (.tbl (ps ++ more)), ⟨⟨ps ++ more, upd_same, by rw [← em]; exact htC⟩, fun b hb => upd_ne hb⟩, J⟩
  refine ⟨nl2, ?_⟩
  cases hf : codeAmong gp ps.toList with
  | none =>
    refine wpAny_genexprCodeX hcode (hd2.code tP2 ht) (hd2.tab tP2) hf fun c' h' tk hx hge hlt hco' _ htab' _ => ?_
    obtain ⟨o1, vv, f1, tf, fl, tg, inF, tx, tt, op, _, _, _, _, _, _, _, _, _, htr, _⟩ := hco'
    exact go _ h' tk _ hx (Nat.le_trans hge (Nat.le_of_lt hlt)) htab'.2 ⟨_, rfl⟩ htr
  | some cv =>
    refine wpAny_genexprCode_hit hcode (hd2.code tP2 ht) hf ?_
    exact go cv (sA.heap.push o) sA.toks ps (Heap.ExtBut.refl _ _) (Nat.le_refl _) tP2 ⟨#[], by simp⟩ ht
def tQs (P : Addr) (Bq : L2.St → Hp → V → Bool → Prop) (f : List Bool → Bool) (te : TE) : TE := fun σ H Q => te σ H fun v HA => ∃ (a : Str) (bs : List Bool), v = .str a ∧ bs.length = a.cps.size ∧ (∀ (i : Nat) z b, a.cps[i]? = some z → bs[i]? = some b → Bq σ HA (.str ⟨#[z]⟩) b) ∧ TabG HA P ∧
  ∀ HB, Tabbed P HA HB → Q (.bl (f bs)) HB
theorem pe_allT {c P : Addr} {elt iter : Expr} {x : Str} {px p pos gp : Pos} {scope : Scope} {Bq : L2.St → Hp → V → Bool → Prop} {te : TE} {k : Nat}
    (hr : Room k X.A) (hg : Gl X "all") (hm : X.mg "all" = none) (hbt : bootBuiltins "all" = some (.builtin "all")) (TB : TabB X.base X.mg c P) (hcode : X.env.code = .ref c) (S : GenS X.env scope x) (hi : PE X iter te) (hel : EltQ X P scope x elt Bq) (hfo : ∀ v, genFold iter X.env v = pure v)
    (he : starEach [.GeneratorExp elt [⟨.Name x px, iter, [], 0⟩] scope gp] X.env = (false, eval (.GeneratorExp elt [⟨.Name x px, iter, [], 0⟩] scope gp) X.env) :: starEach [] X.env := by rfl) :
    PE X (.Call (.Name "all" p) [.GeneratorExp elt [⟨.Name x px, iter, [], 0⟩] scope gp] [] pos) (tQs P Bq (fun bs => bs.all id) te) := by
  refine ⟨fun pins s σ H Q I h => ?_⟩
  refine wpAny_Call_Name_kw (ld_blt I hg hm hbt (PyProof.Rows.callWith_builtin1 ?_ he (by rfl)))
  rw [he]
  refine Calls.spliced_cons (gen_sig (RR := fun bs HA => ∀ HB, Tabbed P HA HB → Q (.bl (bs.all id)) HB) hr TB hcode S hi hel hfo I h fun bs HA g sE hR hG => ?_)
  obtain ⟨fp, wr, G, F, St, W, hst, htr, hI⟩ := hG
  refine Calls.spliced_nil (call_all_walkS (W.self 0 _ _ _ hst ⟨g, fp, wr, G, _, F, St, _, rfl, W, hst, htr, fun s' hmv => ?_⟩))
  obtain ⟨HB, hT, J⟩ := hI s' hmv
  refine ⟨.bl _, HB, J, rfl, ?_⟩
  rw [all_bAt bs]
  exact hR HB hT
theorem pe_anyT {c P : Addr} {elt iter : Expr} {x : Str} {px p pos gp : Pos} {scope : Scope} {Bq : L2.St → Hp → V → Bool → Prop} {te : TE} {k : Nat}
    (hr : Room k X.A) (hg : Gl X "any") (hm : X.mg "any" = none) (TB : TabB X.base X.mg c P) (hcode : X.env.code = .ref c) (S : GenS X.env scope x) (hi : PE X iter te) (hel : EltQ X P scope x elt Bq) (hfo : ∀ v, genFold iter X.env v = pure v)
    (he : starEach [.GeneratorExp elt [⟨.Name x px, iter, [], 0⟩] scope gp] X.env = (false, eval (.GeneratorExp elt [⟨.Name x px, iter, [], 0⟩] scope gp) X.env) :: starEach [] X.env := by rfl) :
    PE X (.Call (.Name "any" p) [.GeneratorExp elt [⟨.Name x px, iter, [], 0⟩] scope gp] [] pos) (tQs P Bq (fun bs => bs.any id) te) := by
  refine ⟨fun pins s σ H Q I h => ?_⟩
  refine wpAny_Call_Name_kw (ld_blt I hg hm boot_any (PyProof.Rows.callWith_builtin1 ?_ he (by rfl)))
  rw [he]
  refine Calls.spliced_cons (gen_sig (RR := fun bs HA => ∀ HB, Tabbed P HA HB → Q (.bl (bs.any id)) HB) hr TB hcode S hi hel hfo I h fun bs HA g sE hR hG => ?_)
  obtain ⟨fp, wr, G, F, St, W, hst, htr, hI⟩ := hG
  refine Calls.spliced_nil (call_any_walkS (W.self 0 _ _ _ hst ⟨g, fp, wr, G, _, F, St, _, rfl, W, hst, htr, fun s' hmv => ?_⟩))
  obtain ⟨HB, hT, J⟩ := hI s' hmv
  refine ⟨.bl _, HB, J, rfl, ?_⟩
  rw [any_bAt bs]
  exact hR HB hT
end
end GW
namespace VL
open PySem PySem.Spec PyProof.Rows L2 GxR
/-! all(.. for x in s), any(.. for x in s), s a text -/
def eQs (f : List Bool → Bool) (pb : S → D → Option Bool) (it : ME) : ME := fun s => (it s).bind fun d s => match d with
  | .str z => match testL pb s (z.map fun c => .str [c]) with
    | some bs => .ok (.bl (f bs), s)
    | none => .no
  | _ => .no
section
variable {K : PySem.W.Frag} {B : Bs} {W : WX} {th : List Addr} {G H H' : Hp} {s : S} {σ : L2.St}
theorem sem_qs {P : Addr} {te : TE} {m : ME} {f : List Bool → Bool} {pb : S → D → Option Bool} (hP : B.Tb P) (h : Sem K B W (relE K) te m) : Sem K B W (relE K) (GW.tQs P (BqOf K B pb) f te) (eQs f pb m) := fun s th G σ H Q R Pq =>
  h s th G σ H _ R (Pq.bind fun d s1 th1 G1 H1 v l1 R1 r1 P1 => by
    cases d with
    | str z =>
      cases r1
      dsimp only at P1
      cases ht : testL pb s1 (z.map fun c => .str [c]) with
      | none => rw [ht] at P1; exact P1.elim
      | some bs =>
        rw [ht] at P1
        obtain ⟨hl, hb⟩ := testL_get ht
        refine ⟨_, bs, rfl, by rw [hl]; simp, fun i c b e1 e2 => ?_, R1.tb P hP, fun HB hT => ?_⟩
        · have e3 : (z.map fun c => D.str [c])[i]? = some (.str [c]) := by
            have : z[i]? = some c := by simpa using e1
            simp [this]
          exact ⟨s1, th1, G1, .str [c], R1, rfl, hb i _ b e3 e2⟩
        · obtain ⟨R2, l2⟩ := R1.tabbed hP hT
          exact P1 th1 G1 HB _ l2 R2 rfl
    | _ => exact P1.elim)
end
section
variable {X : Cx} {B : Bs} {W : WX} {elt iter : Expr} {te : TE} {m : ME} {x : Str} {px p pos gp : Pos} {scope : Scope} {pb : S → D → Option Bool} {c P : Addr} {k : Nat}
theorem ve_allT (hr : Room k X.A) (hg : Gl X "all") (hm : X.mg "all" = none) (hbt : bootBuiltins "all" = some (.builtin "all")) (TB : TabB X.base X.mg c P) (hP : B.Tb P) (hcode : X.env.code = .ref c) (Sc : GenS X.env scope x) (hi : VE X B W iter te m) (hel : GW.EltQ X P scope x elt (BqOf X.K B pb))
    (hfo : ∀ v, genFold iter X.env v = pure v := by intro _; rfl) (he : starEach [.GeneratorExp elt [⟨.Name x px, iter, [], 0⟩] scope gp] X.env = (false, eval (.GeneratorExp elt [⟨.Name x px, iter, [], 0⟩] scope gp) X.env) :: starEach [] X.env := by rfl) :
    VE X B W (.Call (.Name "all" p) [.GeneratorExp elt [⟨.Name x px, iter, [], 0⟩] scope gp] [] pos) (GW.tQs P (BqOf X.K B pb) allB te) (eQs allB pb m) := ⟨GW.pe_allT hr hg hm hbt TB hcode Sc hi.pe hel hfo he, sem_qs hP hi.sem⟩
/-- c in TEXT, TEXT a global text -/
def pbIn (l : List Nat) : S → D → Option Bool := fun _ d => match d with
  | .str [c] => some (decide (c ∈ l))
  | _ => none
theorem elt_in {y z : Str} {l : List Nat} {p2 p3 p4 : Pos} (hk : scope.kind = .function) (hl : scope.names.lookup x = some .local) (hgy : scope.names.lookup y = some .globalImplicit) (hgl : X.env.globals = mainGlobals) (TB : TabB X.base X.mg c P) (hmy : ∃ t, X.mg y = some (.str z t)) (hz : z.cps = l.toArray)
    (hd : (x == ("__debug__" : Str)) = false := by decide) (hd2 : (y == ("__debug__" : Str)) = false := by decide) :
    GW.EltQ X P scope x (.Compare (.Name x p2) [.In] [.Name y p3] p4) (BqOf X.K B (pbIn l)) := by
  intro pins σ HA sA ce A' E' v u b sB mB I hsc hgc _ hA keep hn hm rv hb
  obtain ⟨s, th, G, d, R, at1, hp⟩ := hb
  obtain ⟨t, hmy⟩ := hmy
  cases d with
  | str q =>
    cases at1
    match q, hp with
    | [k], hp =>
      simp only [pbIn, Option.some.injEq] at hp
      obtain ⟨tv, rfl⟩ := rv
      refine wpAny_Compare1 ?_
      refine wpAny_Name (wpAny_loadName_local (by rw [hsc]; exact hk) (show ce.scope.names.lookup x = some .local by rw [hsc]; exact hl) hn hm ?_) hd
      have gl : sB.heap.Ns ce.globals X.mg := by
        rw [hgc, hgl]
        exact (I.mod.glob.keeps I.bk).at fun o e => keep _ _ TB.gP e
      refine Calls.Name_function_global (by rw [hsc]; exact hk) (show ce.scope.names.lookup y = some .globalImplicit by rw [hsc]; exact hgy) (Calls.loadGlobal_global gl hmy ?_) hd2
      refine PyProof.Rows.in_str ⟨?_, keeps_tok _ _⟩
      have e1 := PySem.StrLaws.found_one z k
      have e2 : z.cps.toList = l := by rw [hz]
      rw [e2] at e1
      rw [← hp]
      exact congrArg Value.bool e1
    | [], hp => simp [pbIn] at hp
    | _ :: _ :: _, hp => simp [pbIn] at hp
  | _ => simp [pbIn] at hp
end
end VL
/-! sorted of a tuple -/
namespace ST
open PySem PySem.Calls PyProof.Rows PySem.W
section
variable {prog : Program} {w : World} {A : Around} {E : Value → Shared → Prop} {s : Shared}
theorem collect_tup {l : Addr} {vs : List Value} {Q : List Value → Shared → Prop} (hl : s.heap.IsTuple l vs.toArray)
    (h : Q vs { s with heap := (s.heap.push (seqObj "list" #[] 0)).update s.heap.objs.size (Obj.mapSeq (· ++ vs.toArray)) }) (hsz : vs.length ≤ sizeLine) :
    wpAny (model prog w) A (collect (.ref l)) Q E s := by
  obtain ⟨o, ho, hc, n, hd⟩ := id hl
  unfold collect
  refine wpAny_bind (wpAny_runValue (codeAny_builtin entry_proto_collect' ?_))
  show wpAny _ _ (do again (.builtin "list.__iadd__" ⟨[← newList [], .ref l], []⟩)) _ _ s
  refine wpAny_bind (wpAny_newList (wpAny_pure ⟨Code.quiet_builtin _ (by decide +kernel), codeAny_builtin entry_list_iadd' ?_⟩))
  show wpAny _ _ (Builtin.List.listExtendWith (.ref s.heap.objs.size) (.ref l) (.ref s.heap.objs.size)) _ _ { s with heap := s.heap.push (seqObj "list" #[] 0) }
  unfold Builtin.List.listExtendWith
  have ho' : (s.heap.push (seqObj "list" #[] 0)).get? l = some o := Heap.get?_push_of_some _ ho
  refine wpAny_bind (wpAny_typeOf (T := "tuple") ⟨o, ho', hc⟩ ?_)
  have ht : (Value.type "tuple" == Value.type "tuple") = true := by rfl
  rw [if_pos (by rw [ht]; simp)]
  refine wpAny_bind (listItems_at ho' hd ?_)
  refine wpAny_bind (listItems_at (xs := #[]) (n := 0) (Heap.get?_push_size _ rfl) rfl ?_)
  rw [if_neg (by simp)]
  refine wpAny_bind (listUpdate_at (xs := #[]) (n := 0) (Heap.get?_push_size _ rfl) rfl ?_ (Nat.zero_le _) (by show (#[] ++ vs.toArray).size ≤ sizeLine + 1; simp only [Array.size_append, List.size_toArray, List.length_nil]; omega))
  refine wpAny_pure ?_
  show wpAny (model prog w) A (do
      let o ← load s.heap.objs.size
      match o.data with
      | .seq xs _ => pure xs.toList
      | _ => unsupported "internal:collect") Q E { s with heap := (s.heap.push (seqObj "list" #[] 0)).update s.heap.objs.size (Obj.mapSeq (· ++ vs.toArray)) }
  refine wpAny_bind (wpAny_load (get?_update_seq (Heap.get?_push_size _ rfl) _) ?_)
  show wpAny _ _ (pure ((#[] : Array Value) ++ vs.toArray).toList) Q E _
  rw [show ((#[] : Array Value) ++ vs.toArray).toList = vs by simp]
  exact wpAny_pure h
theorem sortedT {κ : PyProof.Rows.KeyKind} {l : Addr} {vs : List Value} {Q : Value → Shared → Prop} (hl : s.heap.IsTuple l vs.toArray) (S : SortsAt prog w A.in1.in1 { s with heap := sortingHeap (copyHeap s.heap vs) (s.heap.objs.size + 1) vs } κ vs) (hL : vs.length ≤ sizeLine)
    (h : Q (.ref (s.heap.objs.size + 1)) { s with heap := sortedAll s.heap vs (sortVals κ false vs vs).toArray }) : wpAny (model prog w) A (call (.builtin "sorted") [.ref l]) Q E s := by
  refine call_function_entry_kw kind_sorted plain_sorted entry_sorted (args_sorted1 _) ?_
  unfold Builtin.«sorted»
  refine wpAny_bind (m := checkCount "sorted" 1 1 _) (wpAny_pure (wpAny_bind (collect_tup hl (wpAny_bind (wpAny_newList ?_ hL)) hL)))
  have hsz : ((s.heap.push (seqObj "list" #[] 0)).update s.heap.objs.size (Obj.mapSeq (· ++ vs.toArray))).objs.size = s.heap.objs.size + 1 := by
    rw [Heap.size_update, size_push']
  show wpAny _ _ _ _ _ { s with heap := copyHeap s.heap vs }
  rw [hsz]
  refine wpAny_bind (wpAny_holding (wpAny_call_entry_kw slot_list_sort ⟨_, copyHeap_at s.heap vs, rfl⟩ entry_list_sort ?body (args_list_sort _)))
  case body =>
    show wpAny (model prog w) A.in1.in1 (Builtin.«list.sort» ⟨[.ref (s.heap.objs.size + 1)], []⟩) _ _ _
    refine list_sort_vals (s := { s with heap := copyHeap s.heap vs }) (copyHeap_at s.heap vs) S hL ?_
    exact ⟨_, rfl, wpAny_pure ⟨_, rfl, h⟩⟩
theorem sortedDT {β : Type} {vs : List Value} {bs : List β} {enc : β → PyData} {R : Value → β → Prop} {l : Addr} {Q : Value → Shared → Prop} (hl : s.heap.IsTuple l vs.toArray) (e : EachIs R vs bs) (er : EachIs (fun v b => ∃ as, Reads s.heap v (enc b) as) vs bs) (hal : AllAlike (bs.map enc)) (hk : Sortable (bs.map enc)) (hL : bs.length ≤ sizeLine)
    (hu : ∀ b, b ∈ bs → A.units + 2 + (enc b).depth < cLine) (h : ∀ out, out.length = bs.length → EachIs R out (bs.mergeSort (dataLe false enc)) → Q (.ref (s.heap.objs.size + 1)) { s with heap := sortedAll s.heap vs (List.toArray out) }) :
    wpAny (model prog w) A (call (.builtin "sorted") [.ref l]) Q E s := by
  have er2 : EachIs (fun v b => ∃ as, Reads (sortingHeap (copyHeap s.heap vs) (s.heap.objs.size + 1) vs) v (enc b) as) vs bs := er.mono fun _ _ ⟨as, r⟩ => ⟨as, PyProof.Rows.Reads.keeps (fun _ _ => sorting_copy_old) r⟩
  refine sortedT hl (SortsAt.data (s := { s with heap := sortingHeap (copyHeap s.heap vs) (s.heap.objs.size + 1) vs }) (each_map (R := fun v d => ∃ as, Reads (sortingHeap (copyHeap s.heap vs) (s.heap.objs.size + 1) vs) v d as) enc er2) hal hk (bound_map hu)) (by rw [e.length]; exact hL) ?_
  exact h _ (by rw [sortVals_length false rfl]; exact e.length) (sortVals_data false e er2 hal)
end
end ST
namespace SD
open PySem PySem.Spec PyProof.Rows L2 PySem.W
section
variable {X : Cx} {β : Type}
def rSDT (K : PySem.W.Frag) (β : Type) : List V → Hp → VK → Prop := fun vs H Q => ∃ (a : Addr) (bs : List β) (vf : β → V) (enc : β → PyData), vs = [.ref a] ∧ SqT K H a (bs.map vf) ∧ (∀ b ∈ bs, Dp K H (vf b) (enc b)) ∧
  AllAlike (bs.map enc) ∧ Sortable (bs.map enc) ∧ (∀ b ∈ bs, (enc b).depth ≤ 64) ∧ ∀ p, H p = none → Q (.ref p) (upd H p (.lst ((bs.mergeSort (dataLe false enc)).map vf)))
theorem cr_SDT (hu : X.A.units + 67 < cLine) : CallR X (.builtin "sorted") (rSDT X.K β) := by
  intro pins s σ H vs us Q I r h
  obtain ⟨a, bs, vf, enc, rfl, hs, hd, hal, hk, hdep, q⟩ := h
  obtain ⟨its, rv, hl, hz⟩ := I.tuple hs
  rw [Vals.ref1 r]
  have hlen : its.length = bs.length := by rw [← rv.length, List.length_map]
  have hz' : bs.length ≤ sizeLine := by rw [List.length_map] at hz; exact hz
  refine ST.sortedDT hl (each_of rv) (each_reads I hd rv) hal hk hz' (fun b hb => by have := hdep b hb; omega) fun out ho he => ?_
  obtain ⟨ep, he'⟩ := PyProof.Rows.sortedAll_at s.heap its out.toArray
  have hlen2 : ((bs.mergeSort (dataLe false enc)).map vf).length ≤ sizeLine := by
    rw [List.length_map, List.length_mergeSort]
    exact hz'
  exact ⟨.ref _, _, I.laid (t' := s.toks) (o := .lst ((bs.mergeSort (dataLe false enc)).map vf)) (fun _ _ => PyProof.Rows.sortedAll_old) (Nat.le_succ _) ⟨hlen2, out, ep, vals_of he, he'⟩, rfl, q _ (I.hok.fresh (Nat.le_succ _))⟩
end
end SD
/-! all, any of a generator expression over a tuple or a list; the element is quiet, and may call -/
namespace GW
open PySem PySem.Spec PyProof.Rows L2 GxR
/-- as EltQ, the depth told -/
def EltQD (X : Cx) (P : Addr) (scope : Scope) (x : Str) (elt : Expr) (Bq : L2.St → Hp → V → Bool → Prop) : Prop :=
  ∀ (pins : List (Addr × Obj)) (σ : L2.St) (HA : Hp) (sA : Shared) (ce : Env) (A' : Around) (E' : Value → Shared → Prop) (v : V) (u : Value) (b : Bool) (sB : Shared) (mB : Str → Option Value),
    Inv X pins σ HA sA → ce.scope = scope → ce.globals = X.env.globals → ce.cells = cloFrom X.env.cells scope.names [] → A'.handled = none → A'.depth ≤ X.A.depth + 1 → A'.units ≤ X.A.units + 8 →
    (∀ q o, q ≠ P → sA.heap.get? q = some o → sB.heap.get? q = some o) → sB.heap.Ns ce.locals mB → mB x = some u → RelV v u → Bq σ HA v b →
    wpAny (model X.prog X.w) A' (eval elt ce) (fun y sC => y = .bool b ∧ Keeps sB sC) E' sB
section
variable {X : Cx} {pins : List (Addr × Obj)} {σ : L2.St} {H : Hp} {s : Shared}
theorem gen_seqD {c P : Addr} {elt iter : Expr} {x : Str} {px gp : Pos} {scope : Scope} {Bq : L2.St → Hp → V → Bool → Prop} {te : TE} {k : Nat} {QQ : Value → Shared → Prop} {RR : List Bool → Hp → Prop}
    (hr : Room k X.A) (TB : TabB X.base X.mg c P) (hcode : X.env.code = .ref c) (S : GenS X.env scope x) (hi : PE X iter te) (hel : EltQD X P scope x elt Bq) (hfo : ∀ v, genFold iter X.env v = pure v) (I : Inv X pins σ H s)
    (h : te σ H fun v HA => ∃ a vs bs, v = .ref a ∧ (SqL X.K HA a vs ∨ SqT X.K HA a vs) ∧ bs.length = vs.length ∧ (∀ (i : Nat) z b, vs[i]? = some z → bs[i]? = some b → Bq σ HA z b) ∧ TabG HA P ∧ RR bs HA)
    (hQ : ∀ bs HA g sE, RR bs HA → Set1 X pins σ HA P bs g sE → QQ (.ref g) sE) :
    wpAny (model X.prog X.w) X.A (eval (.GeneratorExp elt [⟨.Name x px, iter, [], 0⟩] scope gp) X.env) QQ X.xe s := by
  refine wpAny_GeneratorExp_walksQD hr.hd S.co (closure_ok S.free) S.cell S.dot S.loc S.kind (by have := hr.dp; omega) (thn (hi.run pins s σ H _ I h) fun xv sA ⟨v, HA, IA, rA, a, vs, bs, ev, hsq, hbl, hbq, ⟨ps, hP, ht⟩, qA⟩ => ?_) hfo
  subst ev
  obtain rfl : xv = Value.ref a := rA
  refine src IA hsq fun o St W hst haS => ?_
  have tP : sA.heap.get? P = some { cls := .none, data := .fields ps } := IA.hok P _ hP
  have ltP : P < sA.heap.objs.size := Heap.lt_size tP
  have tP2 : (sA.heap.push o).get? P = some { cls := .none, data := .fields ps } := Heap.get?_push_of_some _ tP
  have hd2 : PySem.W.CodeHd (sA.heap.push o) c P := TB.code.keeps fun b u e => Heap.get?_push_of_some _ (IA.bk b u e)
  have nl2 : (sA.heap.push o).NoLimit := IA.nolimit.push o
  have szp : (sA.heap.push o).objs.size = sA.heap.objs.size + 1 := Heap.size_push ..
  have go : ∀ (code : Value) (hC : Heap) (tk : Nat) (ps' : Array Value), Heap.ExtBut P (sA.heap.push o) hC → (sA.heap.push o).objs.size ≤ hC.objs.size → hC.get? P = some { cls := .none, data := .fields ps' } → (∃ more, ps' = ps ++ more) → TriplesOk ps'.toList →
      wpAny (model X.prog X.w) X.A (builtinsFor X.env.globals X.env.builtins) (fun bi sD =>
        ∃ Ia fp wr n₀ Pf St₀ pz F, Value.ref sA.heap.objs.size = .ref Ia ∧ (∀ A' : Around, A'.handled = none → Walks X.prog X.w A' Ia fp wr n₀ Pf St₀) ∧ St₀ 0 sD.heap ∧ (∀ b ∈ fp, b < sD.heap.objs.size) ∧ sD.heap.NoLimit ∧ cStatics ∉ wr ∧
          (∀ hr2 : Heap, (∀ b o, sD.heap.get? b = some o → hr2.get? b = some o) →
            QuietGenD X.prog X.w (genEnv scope (cloFrom X.env.cells scope.names []) sD.heap.objs.size code bi X.env) x [] elt (List.range sD.heap.objs.size) wr Pf pz F hr2 (X.A.depth + 1) (X.A.units + 8)) ∧
          (∀ g hE tkE gs, gs.bare = true → sD.heap.objs.size < g → hE.objs.size = g + 1 → (∀ b o, sD.heap.get? b = some o → hE.get? b = some o) →
            WalksS X.prog X.w X.A.in4 g (g :: sD.heap.objs.size :: List.range sD.heap.objs.size) (sD.heap.objs.size :: wr) (GenOnlyQ sD.gens.size) (passing pz n₀ 0).length
              (fun j y => ∃ i, (passing pz n₀ 0)[j]? = some i ∧ F i y) (GenAt X.prog X.w X.A.in4 g sD.gens.size sD.heap.objs.size (List.range sD.heap.objs.size) wr pz n₀ F) →
            GenAt X.prog X.w X.A.in4 g sD.gens.size sD.heap.objs.size (List.range sD.heap.objs.size) wr pz n₀ F 0 { sD with gens := sD.gens.push gs, toks := tkE, heap := hE } →
            QQ (.ref g) { sD with gens := sD.gens.push gs, toks := tkE, heap := hE })) X.xe { sA with heap := hC, toks := tk } := by
    intro code hC tk ps' ext hsz tC hmore htC
    obtain ⟨bm, ob, e1, e2, e3, e4, e5, e6, e7, e8⟩ := TB.bm
    have ncP : cStatics ≠ P := fun e => by
      obtain ⟨_, hns, _⟩ := IA.nolimit
      obtain ⟨o', es, ep, ho, hd, _⟩ := hns
      rw [e, tP] at ho
      cases ho
      cases hd
    have ncl : cStatics < sA.heap.objs.size := let ⟨_, hns, _⟩ := IA.nolimit; hns.lt
    have kC : ∀ b u, b ≠ P → sA.heap.get? b = some u → hC.get? b = some u := fun b u hb e => ext b u hb (Heap.get?_push_of_some _ e)
    refine wpAny_builtinsFor (m := X.mg) (by rw [IA.ok.glob]; exact ((IA.mod.glob.keeps IA.bk).push o).extBut ext TB.gP) e1 e2 (kC _ _ e4 (IA.bk _ _ e5)) e6 e7 e8 ?_
    have two : ∀ b ∈ [sA.heap.objs.size, a], b = sA.heap.objs.size ∨ b = a := fun b hb => by simpa using hb
    have naP : a ≠ P := fun z => by
      rcases hsq with q | q
      · obtain ⟨its, rv, p, _⟩ := IA.list q
        obtain ⟨o', ho, hc, _⟩ := p.isList
        rw [z, tP] at ho
        cases ho
        cases hc
      · obtain ⟨its, rv, p, _⟩ := IA.tuple q
        obtain ⟨o', ho, hc, _⟩ := id p
        rw [z, tP] at ho
        cases ho
        cases hc
    refine ⟨sA.heap.objs.size, _, [sA.heap.objs.size], vs.length, _, St, (fun _ => true), (fun i y => ∃ b, bs[i]? = some b ∧ y = .bool b), rfl, W, ?_, ?_, nl2.extBut ext ncP, ?_, ?_, ?_⟩
    · refine (W X.A hr.hd).frame _ _ _ hst fun b hb u e => ext b u (fun z => ?_) e
      rcases two b hb with z2 | z2
      · exact Nat.ne_of_lt ltP (z.symm.trans z2)
      · exact naP (z2.symm.trans z)
    · intro b hb
      show b < hC.objs.size
      have hlC : sA.heap.objs.size < hC.objs.size := by rw [szp] at hsz; exact hsz
      rcases two b hb with z | z
      · rw [z]; exact hlC
      · rw [z]; exact Nat.lt_trans haS hlC
    · intro z
      have e9 : cStatics = sA.heap.objs.size := by simpa using z
      rw [e9] at ncl
      exact Nat.lt_irrefl _ ncl
    · intro hr2 hrk
      refine ⟨fun A' E' i v s₂ m₂ hA hD hU hPv hn hm hk => by simp only [List.forIn_nil]; exact wpAny_pure ⟨rfl, keeps_refl _⟩, fun A' E' i v s₂ m₂ hA hD hU hPv hp hn hm hk => ?_⟩
      obtain ⟨z, hz, rz⟩ := hPv
      have hlt : i < bs.length := by rw [hbl]; exact (List.getElem?_eq_some_iff.mp hz).1
      refine wpAny_mono (hel pins σ HA sA _ A' E' z v bs[i] s₂ m₂ IA rfl rfl rfl hA hD hU (fun q oq hq e => ?_) hn hm rz (hbq i z _ hz (List.getElem?_eq_getElem hlt))) (fun y s3 r => ⟨⟨_, List.getElem?_eq_getElem hlt, r.1⟩, r.2⟩) fun _ _ e => e
      have hql := Heap.lt_size e
      have hlC : sA.heap.objs.size < hC.objs.size := by rw [szp] at hsz; exact hsz
      refine hk q (List.mem_range.mpr (Nat.lt_trans hql hlC)) (fun zz => ?_) oq (hrk q oq (kC q oq hq e))
      have e9 : q = sA.heap.objs.size := by simpa using zz
      rw [e9] at hql
      exact Nat.lt_irrefl _ hql
    · intro g hE tkE gs hgb hag hszE hkE WE hat
      simp only [GxR.passing_true, List.length_range] at WE
      rw [← hbl] at WE hat
      refine hQ bs HA g _ qA ⟨_, _, _, _, _, WE.in4_1, hat, ?_, fun s' hm => ?_⟩
      · intro j y sj Qj Ej hy hQj
        obtain ⟨i, hij, b, hb, rfl⟩ := hy
        obtain ⟨hj, ej⟩ := List.getElem?_eq_some_iff.mp hij
        rw [List.getElem_range] at ej
        subst ej
        have hQ2 : Qj (bAt bs j) sj := hQj
        unfold bAt at hQ2
        rw [hb] at hQ2
        exact wpAny_truthy_bool hQ2
      · obtain ⟨more, em⟩ := hmore
        have nwr : ∀ b u, sA.heap.get? b = some u → b ∉ hC.objs.size :: [sA.heap.objs.size] := fun b u e hb => by
          have hl := Heap.lt_size e
          have hlC : sA.heap.objs.size < hC.objs.size := by rw [szp] at hsz; exact hsz
          rcases (show b = hC.objs.size ∨ b = sA.heap.objs.size by simpa using hb) with z | z
          · rw [z] at hl; exact Nat.lt_irrefl _ (Nat.lt_trans hl hlC)
          · rw [z] at hl; exact Nat.lt_irrefl _ hl
        have J := inv_tab (more := more) (h' := s'.heap) (g' := s'.gens) (d' := s'.drawn) (t' := s'.toks) IA hP (fun b u hb e => hm.heap b u (nwr b u e) (hkE b u (kC b u hb e)))
          (by rw [← em]; exact hm.heap P _ (nwr P _ tP) (hkE P _ tC)) (AllBare.movedS (IA.bare.push hgb) hm)
        rw [sh_eta sA s' hm.os] at J
        exact ⟨upd HA P (.tbl (ps ++ more)), ⟨⟨ps ++ more, upd_same, by rw [← em]; exact htC⟩, fun b hb => upd_ne hb⟩, J⟩
  refine ⟨nl2, ?_⟩
  cases hf : codeAmong gp ps.toList with
  | none =>
    refine wpAny_genexprCodeX hcode (hd2.code tP2 ht) (hd2.tab tP2) hf fun c' h' tk hx hge hlt hco' _ htab' _ => ?_
    obtain ⟨o1, vv, f1, tf, fl, tg, inF, tx, tt, op, _, _, _, _, _, _, _, _, _, htr, _⟩ := hco'
    exact go _ h' tk _ hx (Nat.le_trans hge (Nat.le_of_lt hlt)) htab'.2 ⟨_, rfl⟩ htr
  | some cv =>
    refine wpAny_genexprCode_hit hcode (hd2.code tP2 ht) hf ?_
    exact go cv (sA.heap.push o) sA.toks ps (Heap.ExtBut.refl _ _) (Nat.le_refl _) tP2 ⟨#[], by simp⟩ ht
theorem pe_allD {c P : Addr} {elt iter : Expr} {x : Str} {px p pos gp : Pos} {scope : Scope} {Bq : L2.St → Hp → V → Bool → Prop} {te : TE} {k : Nat}
    (hr : Room k X.A) (hg : Gl X "all") (hm : X.mg "all" = none) (hbt : bootBuiltins "all" = some (.builtin "all")) (TB : TabB X.base X.mg c P) (hcode : X.env.code = .ref c) (S : GenS X.env scope x) (hi : PE X iter te) (hel : EltQD X P scope x elt Bq) (hfo : ∀ v, genFold iter X.env v = pure v)
    (he : starEach [.GeneratorExp elt [⟨.Name x px, iter, [], 0⟩] scope gp] X.env = (false, eval (.GeneratorExp elt [⟨.Name x px, iter, [], 0⟩] scope gp) X.env) :: starEach [] X.env := by rfl) :
    PE X (.Call (.Name "all" p) [.GeneratorExp elt [⟨.Name x px, iter, [], 0⟩] scope gp] [] pos) (tQ X.K P Bq (fun bs => bs.all id) te) := by
  refine ⟨fun pins s σ H Q I h => ?_⟩
  refine wpAny_Call_Name_kw (ld_blt I hg hm hbt (PyProof.Rows.callWith_builtin1 ?_ he (by rfl)))
  rw [he]
  refine Calls.spliced_cons (gen_seqD (RR := fun bs HA => ∀ HB, Tabbed P HA HB → Q (.bl (bs.all id)) HB) hr TB hcode S hi hel hfo I h fun bs HA g sE hR hG => ?_)
  obtain ⟨fp, wr, G, F, St, W, hst, htr, hI⟩ := hG
  refine Calls.spliced_nil (call_all_walkS (W.self 0 _ _ _ hst ⟨g, fp, wr, G, _, F, St, _, rfl, W, hst, htr, fun s' hmv => ?_⟩))
  obtain ⟨HB, hT, J⟩ := hI s' hmv
  refine ⟨.bl _, HB, J, rfl, ?_⟩
  rw [all_bAt bs]
  exact hR HB hT
theorem pe_anyD {c P : Addr} {elt iter : Expr} {x : Str} {px p pos gp : Pos} {scope : Scope} {Bq : L2.St → Hp → V → Bool → Prop} {te : TE} {k : Nat}
    (hr : Room k X.A) (hg : Gl X "any") (hm : X.mg "any" = none) (TB : TabB X.base X.mg c P) (hcode : X.env.code = .ref c) (S : GenS X.env scope x) (hi : PE X iter te) (hel : EltQD X P scope x elt Bq) (hfo : ∀ v, genFold iter X.env v = pure v)
    (he : starEach [.GeneratorExp elt [⟨.Name x px, iter, [], 0⟩] scope gp] X.env = (false, eval (.GeneratorExp elt [⟨.Name x px, iter, [], 0⟩] scope gp) X.env) :: starEach [] X.env := by rfl) :
    PE X (.Call (.Name "any" p) [.GeneratorExp elt [⟨.Name x px, iter, [], 0⟩] scope gp] [] pos) (tQ X.K P Bq (fun bs => bs.any id) te) := by
  refine ⟨fun pins s σ H Q I h => ?_⟩
  refine wpAny_Call_Name_kw (ld_blt I hg hm boot_any (PyProof.Rows.callWith_builtin1 ?_ he (by rfl)))
  rw [he]
  refine Calls.spliced_cons (gen_seqD (RR := fun bs HA => ∀ HB, Tabbed P HA HB → Q (.bl (bs.any id)) HB) hr TB hcode S hi hel hfo I h fun bs HA g sE hR hG => ?_)
  obtain ⟨fp, wr, G, F, St, W, hst, htr, hI⟩ := hG
  refine Calls.spliced_nil (call_any_walkS (W.self 0 _ _ _ hst ⟨g, fp, wr, G, _, F, St, _, rfl, W, hst, htr, fun s' hmv => ?_⟩))
  obtain ⟨HB, hT, J⟩ := hI s' hmv
  refine ⟨.bl _, HB, J, rfl, ?_⟩
  rw [any_bAt bs]
  exact hR HB hT
end
end GW
/-! any(f(xs[i], x) for x in ..), f the test of two notices -/
namespace GT
open PySem PySem.Spec PyProof.Rows L2 GxR
section
variable {prog : Program} {w : World} {A : Around} {E : Value → Shared → Prop} {s : Shared}
theorem ix_name {env : Env} {m : Str → Option Value} {n : Str} {t : Addr} {l : List Value} {i : Int} {k j : Nat} {x : Value} {Q : Value → Shared → Prop} {p1 p2 p3 : Pos} (hk : env.scope.kind = .function) (hl : env.kindOf n = some .local) (hn : s.heap.Ns env.locals m) (hv : m n = some (.ref t)) (ht : IsTup s.heap t l.toArray)
    (hlo : -(2 ^ 63) ≤ i) (hhi : i < 2 ^ 63) (hj : seqIndex? i l.length = some j) (hx : l[j]? = some x) (h : Q x { s with toks := s.toks + 1 }) (hd : (n == ("__debug__" : Str)) = false := by decide) : wpAny (model prog w) A (eval (.Subscript (.Name n p1) (.Constant (.int i) k p2) p3) env) Q E s :=
  Subscript_ (wpAny_Name (wpAny_loadName_local hk hl hn hv (wpAny_Constant_int (item_tupleL ht hlo hhi hj hx h))) hd)
theorem ix_names {env : Env} {n q : Str} {t : Addr} {l : List Value} {i : Int} {u : Tok} {j : Nat} {x : Value} {Q : Value → Shared → Prop} {p1 p2 p3 : Pos} (h1 : ∀ {s : Shared} {Q : Value → Shared → Prop} {E : Value → Shared → Prop}, Q (.ref t) s → True) : True := trivial
abbrev sub (n : Str) (i : Int) (k : Nat) (p1 p2 p3 : Pos) : Expr := .Subscript (.Name n p1) (.Constant (.int i) k p2) p3
variable {K : PySem.W.Frag} {fa : Addr} {fd : FuncData} {params : Arguments} {scope : Scope} {k1 k2 k3 k4 k5 k6 : Nat} {a1 a2 a3 b1 b2 b3 c1 c2 c3 d1 d2 d3 e1 e2 e3 f1 f2 f3 g1 g2 g3 g4 g5 : Pos}
abbrev togB (k1 k2 k3 k4 k5 k6 : Nat) (a1 a2 a3 b1 b2 b3 c1 c2 c3 d1 d2 d3 e1 e2 e3 f1 f2 f3 g1 g2 g3 g4 g5 : Pos) : List Stmt :=
  [.Return (some (.BoolOp .And [.Compare (sub "one" 0 k1 a1 a2 a3) [.Eq] [sub "other" 0 k2 b1 b2 b3] g1, .Compare (sub "one" 1 k3 c1 c2 c3) [.LtE] [sub "other" 2 k4 d1 d2 d3] g2, .Compare (sub "other" 1 k5 e1 e2 e3) [.LtE] [sub "one" 2 k6 f1 f2 f3] g3] g4)) g5]
def togV (x1 x2 : Str) (i1 j1 i2 j2 : Int) : Bool := (x1.cps.toList == x2.cps.toList) && (decide (i1 ≤ j2) && decide (i2 ≤ j1))
theorem tog_run {R : Result → Shared → Prop} {t1 t2 : Addr} {x1 x2 : Str} {i1 j1 i2 j2 : Int} {y1 y2 : Value} {u1 u2 u3 v1 v2 v3 : Tok}
    (F : FunD K "are_together" "are_together" params (togB k1 k2 k3 k4 k5 k6 a1 a2 a3 b1 b2 b3 c1 c2 c3 d1 d2 d3 e1 e2 e3 f1 f2 f3 g1 g2 g3 g4 g5) scope [] [] fa fd) (hs : FnScope ["one", "other"] ["one", "other"] scope)
    (hlo : scope.names.lookup ("one" : Str) = some .local) (hlt : scope.names.lookup ("other" : Str) = some .local)
    (hB : ∀ (s : Shared) (us : List Value), us.length = 2 → BindsTo s fd ⟨us, []⟩ (([("one" : Str), ("other" : Str)] : List Str).zip us))
    (X : K.In s.heap) (hlim : s.heap.NoLimit) (hroom : A.depth < recursionLimit) (h1 : IsTup s.heap t1 [.str x1 u1, .int i1 u2, .int j1 u3, y1].toArray) (h2 : IsTup s.heap t2 [.str x2 v1, .int i2 v2, .int j2 v3, y2].toArray)
    (hq : ∀ s', Keeps s s' → R (.ok (.ret (.bool (togV x1 x2 i1 j1 i2 j2)))) s') : codeAny (model prog w) A (.call (.ref fa) ⟨[.ref t1, .ref t2], []⟩) R s := by
  have hbd := hB s [.ref t1, .ref t2] rfl
  obtain ⟨oc, od, dV, kV, doc, pm, an, cdv, ct, osl, rfl, lk, hcd, _, _⟩ := F.ex
  refine Att.call_fn (binds := [("one", .ref t1), ("other", .ref t2)]) X hlim lk hcd hroom hbd (by simp [hlo, hlt]) (fun s₁ IC => ?_) hs.co hs.gen hs.kind
  obtain ⟨h₁, tk₁, rfl⟩ := IC.toInCall.same
  have k : ∀ b o, s.heap.get? b = some o → h₁.get? b = some o := IC.toInCall.keep
  have hn := IC.toInCall.ns
  have g1' : IsTup h₁ t1 [.str x1 u1, .int i1 u2, .int j1 u3, y1].toArray := h1.keeps k
  have g2' : IsTup h₁ t2 [.str x2 v1, .int i2 v2, .int j2 v3, y2].toArray := h2.keeps k
  have fin : ∀ tk, Keeps s { s with heap := h₁, toks := tk } := fun tk => ⟨h₁, tk, rfl, k⟩
  have ko : (envOfC "are_together" scope s.heap.objs.size fa cdv).kindOf "one" = some .local := hlo
  have kt : (envOfC "are_together" scope s.heap.objs.size fa cdv).kindOf "other" = some .local := hlt
  have hne : ¬ (("one" : Str) = "other") := by decide
  have hne2 : ¬ (("other" : Str) = "one") := by decide
  have mo : bindL (envOfC "are_together" scope s.heap.objs.size fa cdv).kindOf [("one", .ref t1), ("other", .ref t2)] (fun _ => none) "one" = some (.ref t1) := by
    simp only [bindL, ko, kt, if_true, hne, hne2, if_false]
  have mt : bindL (envOfC "are_together" scope s.heap.objs.size fa cdv).kindOf [("one", .ref t1), ("other", .ref t2)] (fun _ => none) "other" = some (.ref t2) := by
    simp only [bindL, ko, kt, if_true, hne, hne2, if_false]
  have hk : (envOfC "are_together" scope s.heap.objs.size fa cdv).scope.kind = .function := hs.kind
  show wpAny _ _ (execs [_] _) _ _ _
  refine wpAny_execs_cons (wpAny_Return_some (BoolOp_and (wpAny_Compare1 ?_)))
  refine ix_name hk ko hn mo g1' (by decide) (by decide) (show seqIndex? 0 4 = some 0 by decide) rfl ?_
  refine ix_name hk kt hn mt g2' (by decide) (by decide) (show seqIndex? 0 4 = some 0 by decide) rfl ?_
  refine PySem.P.eq_str (wpAny_truthy_bool ?_)
  cases hx : (x1.cps.toList == x2.cps.toList) with
  | false =>
    simp only [Bool.false_eq_true, if_false]
    have : togV x1 x2 i1 j1 i2 j2 = false := by simp [togV, hx]
    rw [← this]
    exact hq _ (fin _)
  | true =>
    simp only [if_true]
    refine BoolOp_and (wpAny_Compare1 ?_)
    refine ix_name hk ko hn mo g1' (by decide) (by decide) (show seqIndex? 1 4 = some 1 by decide) rfl ?_
    refine ix_name hk kt hn mt g2' (by decide) (by decide) (show seqIndex? 2 4 = some 2 by decide) rfl ?_
    refine le_int (wpAny_truthy_bool ?_)
    cases hy : decide (i1 ≤ j2) with
    | false =>
      simp only [Bool.false_eq_true, if_false]
      have : togV x1 x2 i1 j1 i2 j2 = false := by simp [togV, hx, hy]
      rw [← this]
      exact hq _ (fin _)
    | true =>
      simp only [if_true]
      refine BoolOp_one (wpAny_Compare1 ?_)
      refine ix_name hk kt hn mt g2' (by decide) (by decide) (show seqIndex? 1 4 = some 1 by decide) rfl ?_
      refine ix_name hk ko hn mo g1' (by decide) (by decide) (show seqIndex? 2 4 = some 2 by decide) rfl ?_
      refine le_int ?_
      have : togV x1 x2 i1 j1 i2 j2 = decide (i2 ≤ j1) := by simp [togV, hx, hy]
      rw [← this]
      exact hq _ (fin _)
end
end GT


namespace VL
open PySem PySem.Spec PyProof.Rows L2 GxR
/-- two rows (text, whole number, whole number, ..) touch -/
def togD : D → D → Option Bool
  | .tup [.str x, .int a, .int b, _], .tup [.str y, .int c, .int d, _] => some (decide (x = y) && (decide (a ≤ d) && decide (c ≤ b)))
  | _, _ => none
def pbTog : S → D → Option Bool := fun s d => match (s.r[0]? : Option (Option D)), (s.r[1]? : Option (Option D)) with
  | some (some (D.tup l)), some (some (D.int p)) => (match L2.atI l p with
    | some e => togD e d
    | none => none)
  | _, _ => none
theorem tog_some {e d : D} {b : Bool} (h : togD e d = some b) : ∃ x a c w y a2 c2 w2, e = .tup [.str x, .int a, .int c, w] ∧ d = .tup [.str y, .int a2, .int c2, w2] ∧ b = (decide (x = y) && (decide (a ≤ c2) && decide (a2 ≤ c))) := by
  unfold togD at h
  split at h
  · cases h; exact ⟨_, _, _, _, _, _, _, _, rfl, rfl, rfl⟩
  · cases h
theorem tup_keep {h h' : Heap} {a P : Addr} {l : Array Value} {ps : Array Value} (ht : IsTup h a l) (hP : h.get? P = some { cls := .none, data := .fields ps }) (keep : ∀ q o, q ≠ P → h.get? q = some o → h'.get? q = some o) : IsTup h' a l := by
  obtain ⟨o, ho, hc, r⟩ := ht
  refine ⟨o, keep a o (fun z => ?_) ho, hc, r⟩
  rw [z, hP] at ho
  cases ho
  cases hc
theorem row_at {X : Cx} {pins : List (Addr × Obj)} {σ : L2.St} {H : Hp} {sA : Shared} {th : List Addr} {G : Hp} {x : List Nat} {a c : Int} {w : D} {v : V} (I : Inv X pins σ H sA) (ex : Ex G H) (h : At X.K th G (.tup [.str x, .int a, .int c, w]) v) :
    ∃ t k1 k2 k3 y, v = .ref t ∧ IsTup sA.heap t [.str ⟨x.toArray⟩ k1, .int a k2, .int c k3, y].toArray := by
  obtain ⟨t, vs, rfl, hq, hl⟩ := h
  obtain ⟨v1, r1, rfl, q1, hl⟩ := hl
  obtain ⟨v2, r2, rfl, q2, hl⟩ := hl
  obtain ⟨v3, r3, rfl, q3, hl⟩ := hl
  obtain ⟨v4, r4, rfl, q4, hl⟩ := hl
  cases q1; cases q2; cases q3; cases hl
  obtain ⟨its, rv, ht, _⟩ := I.tuple (ex.sqT hq.sq)
  cases rv with
  | cons e1 rv =>
    cases rv with
    | cons e2 rv =>
      cases rv with
      | cons e3 rv =>
        cases rv with
        | cons e4 rv =>
          cases rv
          obtain ⟨k1, rfl⟩ := e1
          obtain ⟨k2, rfl⟩ := e2
          obtain ⟨k3, rfl⟩ := e3
          exact ⟨t, k1, k2, k3, _, rfl, ht⟩
section
variable {X : Cx} {B : Bs} {scope : Scope} {P : Addr} {fa : Addr} {fd : FuncData} {params : Arguments} {fsc : Scope} {k1 k2 k3 k4 k5 k6 : Nat} {a1 a2 a3 b1 b2 b3 c1 c2 c3 d1 d2 d3 e1 e2 e3 f1 f2 f3 g1 g2 g3 g4 g5 p p1 p2 p3 p4 p5 : Pos}
theorem elt_tog (F : FunD X.K "are_together" "are_together" params (GT.togB k1 k2 k3 k4 k5 k6 a1 a2 a3 b1 b2 b3 c1 c2 c3 d1 d2 d3 e1 e2 e3 f1 f2 f3 g1 g2 g3 g4 g5) fsc [] [] fa fd) (hs : FnScope ["one", "other"] ["one", "other"] fsc)
    (hlo : fsc.names.lookup ("one" : Str) = some .local) (hlt : fsc.names.lookup ("other" : Str) = some .local) (hB : ∀ (s : Shared) (us : List Value), us.length = 2 → BindsTo s fd ⟨us, []⟩ (([("one" : Str), ("other" : Str)] : List Str).zip us))
    (hmf : X.mg "are_together" = some (.ref fa)) (hdep : X.A.depth + 1 < recursionLimit) (hP : B.Tb P) (hKP : X.K.lookup P = none) (hgP : mainGlobals ≠ P)
    (hk : scope.kind = .function) (ho : scope.names.lookup ("other" : Str) = some .local) (hnf : scope.names.lookup ("notices" : Str) = some .free) (hpf : scope.names.lookup ("place" : Str) = some .free) (hgf : scope.names.lookup ("are_together" : Str) = some .globalImplicit)
    (hcl : ∀ cells : List (Str × Addr), cloFrom cells scope.names [] = [(("place" : Str), (cells.lookup ("place" : Str)).getD 0), (("notices" : Str), (cells.lookup ("notices" : Str)).getD 0)])
    (hN0 : X.N[0]? = some ("notices" : Str)) (hN1 : X.N[1]? = some ("place" : Str)) (hc0 : X.env.scope.names.lookup ("notices" : Str) = some .cell) (hc1 : X.env.scope.names.lookup ("place" : Str) = some .cell) :
    GW.EltQD X P scope "other" (.Call (.Name "are_together" p) [.Subscript (.Name "notices" p1) (.Name "place" p2) p3, .Name "other" p4] [] p5) (BqOf X.K B pbTog) := by
  intro pins σ HA sA ce A' E' v u b sB mB I hsc hgc hcc hA hD hU keep hn hm rv hb
  obtain ⟨s, th, G, d, R, at1, hp⟩ := hb
  unfold pbTog at hp
  split at hp
  · rename_i l pl h0 h1
    split at hp
    · rename_i e he
      obtain ⟨x, i1, j1, w, y, i2, j2, w2, rfl, rfl, rfl⟩ := tog_some hp
      -- the table
      obtain ⟨ps, hPt, _⟩ := R.tb P hP
      have tP : sA.heap.get? P = some { cls := .none, data := .fields ps } := I.hok P _ hPt
      -- the two captured names
      obtain ⟨v0, hv0, q0⟩ := R.slot 0 _ h0
      obtain ⟨v1, hv1, q1⟩ := R.slot 1 _ h1
      cases q1
      obtain ⟨m, hns, look⟩ := I.loc
      obtain ⟨u0, r0, l0⟩ := look 0 _ _ hN0 hv0 (.inr (.inl hc0))
      obtain ⟨u1, r1, l1⟩ := look 1 _ _ hN1 hv1 (.inr (.inl hc1))
      have cellsOf : ∀ {n : Str} {uu : Value}, X.env.scope.names.lookup n = some .cell → Look X.env sA.heap m n uu → ∃ c, X.env.cells.lookup n = some c ∧ sB.heap.IsCell c (some uu) := fun hc hl => by
        rcases hl with ⟨z, _⟩ | ⟨_, c, z, o, ho, hd⟩
        · have z : X.env.scope.names.lookup _ = some NameKind.local := z
          rw [hc] at z; cases z
        · refine ⟨c, z, o, keep c o (fun q => ?_) ho, hd⟩
          rw [q, tP] at ho; cases ho; cases hd
      obtain ⟨cn, ecn, cell0⟩ := cellsOf hc0 l0
      obtain ⟨cp, ecp, cell1⟩ := cellsOf hc1 l1
      have hcells : ce.cells = [(("place" : Str), cp), (("notices" : Str), cn)] := by rw [hcc, hcl, ecn, ecp]; rfl
      have lkp : ce.cells.lookup ("place" : Str) = some cp := by rw [hcells]; rfl
      have lkn : ce.cells.lookup ("notices" : Str) = some cn := by rw [hcells]; rfl
      -- the values
      obtain ⟨ta, vs, rfl, hq, hl⟩ := q0
      obtain rfl : u0 = Value.ref ta := r0
      obtain ⟨tk1, rfl⟩ := r1
      obtain ⟨its, rvs, htup, hz⟩ := I.tuple (R.eG.sqT hq.sq)
      obtain ⟨j, s1, s2, s3, s4, s5⟩ := atI_get he
      obtain ⟨w1, ew1, aw1⟩ := hl.get s2
      obtain ⟨uw, euw, ruw⟩ := rvs.get ew1
      obtain ⟨t1, m1, m2, m3, y1, rfl, tup1⟩ := row_at I R.eG aw1
      obtain rfl : uw = Value.ref t1 := ruw
      obtain ⟨t2, n1, n2, n3, y2, rfl, tup2⟩ := row_at I R.eG at1
      obtain rfl : u = Value.ref t2 := rv
      have hlen : its.length = l.length := by rw [← rvs.length, hl.length]
      have htupB := tup_keep htup tP keep
      have tup1B := tup_keep tup1 tP keep
      have tup2B := tup_keep tup2 tP keep
      -- the state
      have kinB : X.K.In sB.heap := fun q o z => keep q o (fun zz => by rw [zz, hKP] at z; cases z) (I.kIn q o z)
      have ncP : cStatics ≠ P := fun z => by
        obtain ⟨_, hns, _⟩ := I.nolimit
        obtain ⟨o', es, ep, ho', hd', _⟩ := hns
        rw [z, tP] at ho'
        cases ho'
        cases hd'
      have nlB : sB.heap.NoLimit := I.nolimit.extBut (fun q o z zz => keep q o z zz) ncP
      have gl : sB.heap.Ns ce.globals X.mg := by
        rw [hgc, I.ok.glob]
        exact (I.mod.glob.keeps I.bk).at fun o z => keep _ _ hgP z
      have hsk : ce.scope.kind = .function := by rw [hsc]; exact hk
      refine wpAny_Call_Name_kw (Calls.Name_function_global hsk (show ce.scope.names.lookup _ = _ by rw [hsc]; exact hgf) (Calls.loadGlobal_global gl hmf ?_))
      refine PySem.W.callWith_K (h₀ := X.base) I.mod.kin F.kp (Calls.spliced_cons ?_)
      have vlen : l.length ≤ sizeLine := by rw [← hl.length]; exact hz
      have e63 : (2 : Int) ^ 63 = 9223372036854775808 := rfl
      have hsl : l.length ≤ 16777216 := by rw [sizeLine_eq] at vlen; exact vlen
      refine Subscript_ (wpAny_Name (wpAny_loadName_free hsk (show ce.scope.names.lookup _ = _ by rw [hsc]; exact hnf) lkn cell0 (wpAny_Name (wpAny_loadName_free hsk (show ce.scope.names.lookup _ = _ by rw [hsc]; exact hpf) lkp cell1 ?_) (by decide))) (by decide))
      refine item_tupleL htupB (by rw [e63]; omega) (by rw [e63]; omega) (by rw [hlen]; exact s1) euw ?_
      refine Calls.spliced_cons (wpAny_Name (wpAny_loadName_local hsk (show ce.scope.names.lookup _ = _ by rw [hsc]; exact ho) hn hm ?_) (by decide))
      refine Calls.spliced_nil ⟨kinB, ?_⟩
      refine wpAny_call ?_
      show codeAny _ A' (.call (.ref fa) ⟨[.ref t1, .ref t2], []⟩) _ _
      refine GT.tog_run F hs hlo hlt hB kinB nlB (by omega) tup1B tup2B fun s' ks => ?_
      refine ⟨congrArg Value.bool ?_, ks⟩
      unfold GT.togV
      have e1 : (((⟨x.toArray⟩ : Str).cps.toList == (⟨y.toArray⟩ : Str).cps.toList) : Bool) = decide (x = y) := by
        show (x.toArray.toList == y.toArray.toList) = _
        by_cases q : x = y
        · subst q; simp
        · simp [q]
      rw [e1]
    · cases hp
  · cases hp
theorem ve_anyD {W : WX} {elt iter : Expr} {te : TE} {m : ME} {x : Str} {px q1 q2 gp : Pos} {pb : S → D → Option Bool} {c : Addr} {k : Nat} (hr : Room k X.A) (hg : Gl X "any") (hm : X.mg "any" = none) (TB : TabB X.base X.mg c P) (hP : B.Tb P) (hcode : X.env.code = .ref c) (Sc : GenS X.env scope x) (hi : VE X B W iter te m) (hel : GW.EltQD X P scope x elt (BqOf X.K B pb))
    (hfo : ∀ v, genFold iter X.env v = pure v := by intro _; rfl) (he : starEach [.GeneratorExp elt [⟨.Name x px, iter, [], 0⟩] scope gp] X.env = (false, eval (.GeneratorExp elt [⟨.Name x px, iter, [], 0⟩] scope gp) X.env) :: starEach [] X.env := by rfl) :
    VE X B W (.Call (.Name "any" q1) [.GeneratorExp elt [⟨.Name x px, iter, [], 0⟩] scope gp] [] q2) (GW.tQ X.K P (BqOf X.K B pb) anyB te) (eQ anyB pb m) := ⟨GW.pe_anyD hr hg hm TB hcode Sc hi.pe hel hfo he, sem_q hP hi.sem⟩
end
end VL
/-! sorted of a tuple, order of data -/
namespace VL
open PySem PySem.Spec PyProof.Rows L2
section
variable {X : Cx} {B : Bs} {W : WX} {K : PySem.W.Frag}
def gSortedT : List D → S → R (Ob × S) := fun l s => match l with
  | [.tup l] => if srtOk l = true then .ok (.lst (sortD l), s) else .no
  | _ => .no
theorem semC_sortedT : SemCF K B W (SD.rSDT K (D × V)) gSortedT := fun s th G σ H Q l vs R rl P => by
  cases l with
  | nil => exact P.elim
  | cons d l =>
    cases l with
    | cons _ _ => cases d <;> exact P.elim
    | nil =>
      cases d with
      | tup z =>
        obtain ⟨v, rfl, hv⟩ := rl.one_of
        simp only [gSortedT] at P
        split at P
        · rename_i ho
          unfold srtOk at ho
          simp only [Bool.and_eq_true] at ho
          obtain ⟨h1, h2, h3⟩ := ho
          obtain ⟨p, ws, rfl, hq, hr⟩ := hv
          obtain ⟨bs, rfl, rfl, hb⟩ := hr.zip
          have em : bs.map (fun b => toP b.1) = (bs.map Prod.fst).map toP := by rw [List.map_map]; rfl
          refine ⟨p, bs, Prod.snd, fun b => toP b.1, rfl, R.eG.sqT hq.sq, fun b hm => dp_of R.eG 63 _ _ (okDs_all h1 _ (List.mem_map.mpr ⟨b, hm, rfl⟩)) (hb b hm), ?_, ?_, fun b hm => ?_, fun t ht => ?_⟩
          · rw [em]
            intro x hx y hy
            obtain ⟨x2, hx2, rfl⟩ := List.mem_map.mp hx
            obtain ⟨y2, hy2, rfl⟩ := List.mem_map.mp hy
            exact List.all_eq_true.mp (List.all_eq_true.mp h2 x2 hx2) y2 hy2
          · rw [em]; exact kind_of h3
          · exact Nat.le_trans (okD_P 63 _ (okDs_all h1 _ (List.mem_map.mpr ⟨b, hm, rfl⟩))).2 (by decide)
          · exact post_f R P (by rw [← sort_fst]; exact AtL.unzip fun b hm => hb b ((List.mergeSort_perm _ _).mem_iff.mp hm)) ht
        · exact P.elim
      | _ => exact P.elim
/-! ### order of data -/
def rDat (f : PyData → PyData → Bool) (K : PySem.W.Frag) : R2 := fun x y H Q => ∃ dx dy, Dp K H x dx ∧ Dp K H y dy ∧ PySem.W.alike dx dy = true ∧ dx ≠ .none ∧ dx.depth ≤ 63 ∧ Q (.bl (f dx dy)) H
theorem op_ltD (hu : X.A.units + 64 < cLine) : OpR X (compareOp .Lt) (rDat (fun a b => PySem.W.dataLt a b) X.K) := by
  intro pins s σ H x y v u Q I rx ry h
  obtain ⟨dx, dy, hx, hy, ha, hn, hd, q⟩ := h
  obtain ⟨as, ra⟩ := Dp.reads I dx x v hx rx
  obtain ⟨bs, rb⟩ := Dp.reads I dy y u hy ry
  exact PySem.W.lt_data ra rb ha hn (by have := Nat.min_le_left dx.depth dy.depth; omega) ⟨.bl _, H, I, rfl, q⟩
theorem op_leD (hu : X.A.units + 64 < cLine) : OpR X (compareOp .LtE) (rDat (fun a b => !PySem.W.dataLt b a) X.K) := by
  intro pins s σ H x y v u Q I rx ry h
  obtain ⟨dx, dy, hx, hy, ha, hn, hd, q⟩ := h
  obtain ⟨as, ra⟩ := Dp.reads I dx x v hx rx
  obtain ⟨bs, rb⟩ := Dp.reads I dy y u hy ry
  exact PySem.W.le_data ra rb ha hn (by have := Nat.min_le_left dx.depth dy.depth; omega) ⟨.bl _, H, I, rfl, q⟩
def gDat (f : PyData → PyData → Bool) : D → D → Option D := fun x y => if okD 63 x && (okD 63 y && (PySem.W.alike (toP x) (toP y) && !isNon x)) then some (.bl (f (toP x) (toP y))) else none
def fLtD : D → D → S → R (D × S) := fun x y s => match gDat (fun a b => PySem.W.dataLt a b) x y with
  | some d => .ok (d, s)
  | none => .no
def fLeD : D → D → S → R (D × S) := fun x y s => match gDat (fun a b => !PySem.W.dataLt b a) x y with
  | some d => .ok (d, s)
  | none => .no
theorem toP_non {d : D} {n : Nat} (h : okD n d = true) (hn : isNon d = false) : toP d ≠ .none := by
  cases d <;> first | (intro z; cases z; done) | (cases hn; done) | (simp [okD] at h; done) | (intro z; simp [toP] at z)
theorem semR_dat {f : PyData → PyData → Bool} : SemR K B W (rDat f K) (fun x y s => match gDat f x y with
  | some d => .ok (d, s)
  | none => .no) := fun s th G σ H Q x y vx vy R rx ry P => by
  dsimp only at P
  unfold gDat at P
  split at P
  · rename_i d e
    split at e
    · rename_i hh
      cases e
      simp only [Bool.and_eq_true, Bool.not_eq_true'] at hh
      obtain ⟨h1, h2, h3, h4⟩ := hh
      exact ⟨toP x, toP y, dp_of R.eG 63 _ _ h1 rx, dp_of R.eG 63 _ _ h2 ry, h3, toP_non h1 h4, (okD_P 63 _ h1).2, Post.ok (rel := relE K) P R rfl⟩
    · cases e
  · exact P.elim
theorem semR_ltD : SemR K B W (rDat (fun a b => PySem.W.dataLt a b) K) fLtD := semR_dat
theorem semR_leD : SemR K B W (rDat (fun a b => !PySem.W.dataLt b a) K) fLeD := semR_dat
end
end VL
/-! [e for x in xs if t], xs an own list that stays as it is -/
namespace VL
open PySem L2
open Classical in
noncomputable def lcLO (n : Nat) (L : List D) (g : MG) (t : MT) (e : ME) (vs : List Nat) (r0 : List (Option D)) : List D → List D → S → R (List D × S)
  | [], acc, s => .ok (acc, s)
  | d :: l, acc, s => match g d { s with r := wipeD r0 vs } with
    | .nx s1 => match t s1 with
      | .ok (b, s2) => if b = true then match e s2 with
          | .ok (y, s3) => if acc.length < SZ ∧ s3.m[n]? = some (.lst L) then lcLO n L g t e vs r0 l (acc ++ [y]) { s3 with r := r0 } else .no
          | _ => .no
        else if s2.m[n]? = some (.lst L) then lcLO n L g t e vs r0 l acc { s2 with r := r0 } else .no
      | _ => .no
    | _ => .no
noncomputable def fLcO (i : Nat) (g : MG) (t : MT) (e : ME) (vs : List Nat) : MF := fun s => match s.r[i]? with
  | some (some (.loc n)) => match s.m[n]? with
    | some (.lst L) => (lcLO n L g t e vs s.r L [] s).bind fun acc s => .ok (.lst acc, s)
    | _ => .no
  | _ => .no
section
variable {K : PySem.W.Frag} {B : Bs} {W : WX} {th th0 th1 : List Addr} {G H G0 H0 G1 H1 : Hp} {s s0 : S} {σ σ2 : St}
theorem own_it {n : Nat} {L : List D} {a : Addr} (R : Rep K B th G s σ H) (hm : s.m[n]? = some (.lst L)) (ha : th[n]? = some a) (i : Nat) : (L.length ≤ i → (Itl K a).stop i H) ∧ ∀ d, L[i]? = some d → (Itl K a).go i H ∧ ∀ x H2, (Itl K a).yld i H x H2 → H2 = H ∧ At K th G d x := by
  obtain ⟨_, vs, e, r⟩ := R.st n _ a hm ha
  have q1 : SqL K H a vs := .inl (.inl e)
  refine ⟨fun hi => ⟨vs, q1, by rw [r.length]; exact hi⟩, fun d hd => ?_⟩
  obtain ⟨v, hv, hx⟩ := r.get hd
  refine ⟨⟨vs, v, q1, hv⟩, fun x H2 y => ?_⟩
  obtain ⟨rfl, y⟩ := y
  have := y vs q1
  rw [hv] at this; cases this
  exact ⟨rfl, hx⟩
theorem sem_lcO {i0 : Nat} {g : TG} {tt : TT} {te : TE} {vs : List Nat} {mg : MG} {mt : MT} {me : ME} (hg : SemG K B Wf g mg) (ht : Sem K B Wf relT tt mt) (he : Sem K B Wf (relE K) te me) (hin : GIn g vs) (hmono : GMono g) :
    Sem K B W (relF K) (tLc (iList K (tVar i0)) g tt te vs) (fLcO i0 mg mt me vs) := fun s th G σ H Q R P => by
  unfold fLcO at P
  cases hr0 : s.r[i0]? with
  | none => rw [hr0] at P; exact P.elim
  | some od =>
    cases od with
    | none => rw [hr0] at P; exact P.elim
    | some d0 =>
      cases d0 with
      | loc n =>
        rw [hr0] at P
        dsimp only at P
        cases hm0 : s.m[n]? with
        | none => rw [hm0] at P; exact P.elim
        | some ob =>
          cases ob with
          | lst L =>
            rw [hm0] at P
            dsimp only at P
            obtain ⟨v0, hv0, a, ha, rfl⟩ := R.slot i0 _ hr0
            obtain ⟨hGa, vs0, hHa, hL0⟩ := R.st n _ a hm0 ha
            refine ⟨.ref a, hv0, a, rfl, ⟨vs0, .inl (.inl hHa)⟩, fun D hD => ?_⟩
            have hGD : G D = none := R.gnone hD
            have hTD : D ∉ th := R.thne hD
            refine ⟨fun i m H' => i ≤ L.length ∧ m = L.length - i ∧ ∃ th' G' s' acc xs, Le th G H th' G' H' ∧ Rep K B th' G' s' σ H' ∧ s'.r = s.r ∧ s'.m[n]? = some (.lst L) ∧ H' D = some (.lst xs) ∧ AtL K th' G' acc xs ∧ D ∉ th' ∧ G' D = none ∧
              Post K B W σ th G H (relF K) ((lcLO n L mg mt me vs s.r (L.drop i) acc s').bind fun acc s => .ok (.lst acc, s)) Q,
              ⟨L.length, Nat.zero_le _, rfl, th, G, s, [], [], (Le.refl _ _ _).aside hD, R.side (.lst []) hGD hTD (R.tbnew hD), rfl, hm0, upd_same, rfl, hTD, hGD, P⟩, ?_⟩
            rintro i m H2 ⟨hi, rfl, th2, G2, s2, acc, xs, l2, R2, hr, hmn, hx, hacc, hTD2, hGD2, P2⟩
            have ha2 : th2[n]? = some a := pre_get l2.pre ha
            by_cases hlt : i < L.length
            · have hdr : L.drop i = L[i] :: L.drop (i + 1) := List.drop_eq_getElem_cons hlt
              rw [hdr] at P2
              obtain ⟨_, hgo⟩ := own_it R2 hmn ha2 i
              obtain ⟨go, hy⟩ := hgo L[i] (List.getElem?_eq_getElem hlt)
              refine .inr ⟨go, fun H' => (i + 1) ≤ L.length ∧ ∃ th' G' s' acc xs, Le th G H th' G' H' ∧ Rep K B th' G' s' σ H' ∧ s'.r = s.r ∧ s'.m[n]? = some (.lst L) ∧ H' D = some (.lst xs) ∧ AtL K th' G' acc xs ∧ D ∉ th' ∧ G' D = none ∧
                Post K B W σ th G H (relF K) ((lcLO n L mg mt me vs s.r (L.drop (i + 1)) acc s').bind fun acc s => .ok (.lst acc, s)) Q, fun H' q => ⟨L.length - (i + 1), by omega, q.1, rfl, q.2⟩, fun x H3 y => ?_⟩
              obtain ⟨rfl, hxx⟩ := hy x H3 y
              have keep : ∀ {th' G' H'}, Le th2 G2 H3 th' G' H' → H' D = some (.lst xs) ∧ D ∉ th' ∧ G' D = none := fun {th' G' H'} le => by
                obtain ⟨h1, h2, h3⟩ := le.fr D _ hx hGD2 hTD2
                exact ⟨h1, h3, h2⟩
              have R3w := R2.wipe vs
              rw [hr] at R3w
              simp only [lcLO] at P2
              cases hmg : mg L[i] { s2 with r := wipeD s.r vs } with
              | nx sA =>
                rw [hmg] at P2
                dsimp only at P2
                refine hmono _ _ _ _ _ ?_ (hin _ _ _ _ (hg _ th2 G2 _ H3 L[i] x (fun σ' H' => ∃ b c, Le th2 G2 H3 b c H' ∧ Rep K B b c sA σ' H') R3w hxx (by rw [hmg]; exact fun th' G' H' σ' le R => ⟨th', G', le, R⟩)))
                rintro σ4 H4 ⟨⟨th4, G4, l4, R4⟩, hw⟩
                rw [wipe_wipe] at hw
                refine ⟨hw, ht sA th4 G4 σ4 H4 _ R4 ?_⟩
                cases hmt : mt sA with
                | ok q =>
                  obtain ⟨b, sB⟩ := q
                  rw [hmt] at P2
                  rintro th5 G5 H5 b' l5 R5 rfl
                  dsimp only at P2
                  cases b' with
                  | false =>
                    simp only [Bool.false_eq_true, if_false] at P2
                    refine iteF ?_
                    have le := l4.trans l5
                    obtain ⟨k1, k2, k3⟩ := keep le
                    by_cases hk : sB.m[n]? = some (.lst L)
                    · rw [if_pos hk] at P2
                      exact ⟨hlt, th5, G5, _, acc, xs, l2.trans le, R5.back R (l2.trans le), rfl, hk, k1, hacc.mono le.pre le.ex, k2, k3, P2⟩
                    · rw [if_neg hk] at P2; exact P2.elim
                  | true =>
                    refine iteT (he sB th5 G5 σ4 H5 _ R5 ?_)
                    simp only [if_true] at P2
                    cases hme : me sB with
                    | ok q =>
                      obtain ⟨y, sC⟩ := q
                      rw [hme] at P2
                      dsimp only at P2
                      by_cases hz : acc.length < SZ ∧ sC.m[n]? = some (.lst L)
                      · rw [if_pos hz] at P2
                        intro th6 G6 H6 v l6 R6 hv
                        have le := l4.trans (l5.trans l6)
                        obtain ⟨k1, k2, k3⟩ := keep le
                        have hacc' := hacc.mono le.pre le.ex
                        refine ⟨xs, k1, by rw [hacc'.length, SZ_eq]; exact hz.1, hlt, th6, G6, { r := s.r, m := sC.m }, acc ++ [y], xs ++ [v], ?_, ?_, rfl, hz.2, upd_same, hacc'.append (.one hv), k2, k3, P2⟩
                        · exact (l2.trans le).aside hD
                        · exact (R6.back R (l2.trans le)).side _ k3 k2 (R6.tbne k1 fun _ z => nomatch z)
                      · rw [if_neg hz] at P2; exact P2.elim
                    | _ => rw [hme] at P2; exact P2.elim
                | _ => rw [hmt] at P2; exact P2.elim
              | _ => rw [hmg] at P2; exact P2.elim
            · have e : i = L.length := by omega
              subst e
              rw [List.drop_length] at P2
              refine .inl ⟨(own_it R2 hmn ha2 _).1 (Nat.le_refl _), ?_⟩
              exact P2 th2 G2 H2 (.ref D) l2 R2 ⟨D, rfl, (fun z => nomatch z), ⟨hGD2, xs, hx, hacc⟩, hTD2, hD⟩
          | _ => rw [hm0] at P; exact P.elim
      | _ => rw [hr0] at P; exact P.elim
end
section
variable {X : Cx} {B : Bs} {W : WX} {tt : TT} {mt : MT} {elt tg : Expr} {ifs : List Expr} {scope : Scope} {own : List (Str × Nat)} {pos py spos : Pos} {g : TG} {te : TE} {mg : MG} {me : ME} {x y : Str}
theorem vf_lcO (i : Nat) (hc : X.calm = true) (hN : X.N.Nodup) (ok : BlkOk X.N X.env.scope scope own)
    (hg : ∀ (s : Shared) (H : Hp) (C : Addr) (cl : List (Str × Addr)) (fp : List Addr), VG (X.blk s H scope (compEnvC scope cl C X.env) fp) B Wf tg g mg) (hin : GIn g (own.map (·.2))) (hmono : GMono g)
    (ht : ∀ (s : Shared) (H : Hp) (C : Addr) (cl : List (Str × Addr)) (fp : List Addr), VTs (X.blk s H scope (compEnvC scope cl C X.env) fp) B Wf ifs tt mt)
    (he : ∀ (s : Shared) (H : Hp) (C : Addr) (cl : List (Str × Addr)) (fp : List Addr), VE (X.blk s H scope (compEnvC scope cl C X.env) fp) B Wf elt te me) (s0 : Shared) (hi : X.N[i]? = some x := by rfl) (hv : Vis X.env.scope x := by first | exact Or.inl rfl | exact Or.inr (Or.inl rfl) | exact Or.inr (Or.inr rfl)) (hd : (x == ("__debug__" : Str)) = false := by decide)
    (hcd : (x == ("__classdict__" : Str)) = false := by decide) (hs : ∀ z, foldedSetIterable (.Name x py) X.env z = pure z := by intro _; rfl) :
    VF X B W (.ListComp elt [⟨tg, .Name x py, ifs, 0⟩] scope pos) (tLc (iList X.K (tVar i)) g tt te (own.map (·.2))) (fLcO i mg mt me (own.map (·.2))) :=
  ⟨pe_lc hc hN (pi_list (pv i hi hv hd hcd)) ok (fun s H C cl fp => (hg s H C cl fp).pg) (fun s H C cl fp => (ht s H C cl fp).pt) (fun s H C cl fp => (he s H C cl fp).pe) hs,
    sem_lcO (hg s0 (fun _ => none) 0 [] []).sem (ht s0 (fun _ => none) 0 [] []).sem (he s0 (fun _ => none) 0 [] []).sem hin hmono⟩
theorem vs_setLcO (j i : Nat) {ef : MF → ME} (hef : ∀ {X : Cx} {e : Expr} {t : TE} {mf : MF}, VF X B W e t mf → VE X B W e t (ef mf)) (hc : X.calm = true) (hN : X.N.Nodup) (ok : BlkOk X.N X.env.scope scope own)
    (hg : ∀ (s : Shared) (H : Hp) (C : Addr) (cl : List (Str × Addr)) (fp : List Addr), VG (X.blk s H scope (compEnvC scope cl C X.env) fp) B Wf tg g mg) (hin : GIn g (own.map (·.2))) (hmono : GMono g)
    (ht : ∀ (s : Shared) (H : Hp) (C : Addr) (cl : List (Str × Addr)) (fp : List Addr), VTs (X.blk s H scope (compEnvC scope cl C X.env) fp) B Wf ifs tt mt)
    (he : ∀ (s : Shared) (H : Hp) (C : Addr) (cl : List (Str × Addr)) (fp : List Addr), VE (X.blk s H scope (compEnvC scope cl C X.env) fp) B Wf elt te me) (s0 : Shared) {px : Pos}
    (hi : X.N[i]? = some x := by rfl) (hv : Vis X.env.scope x := by first | exact Or.inl rfl | exact Or.inr (Or.inl rfl) | exact Or.inr (Or.inr rfl)) (hd : (x == ("__debug__" : Str)) = false := by decide) (hcd : (x == ("__classdict__" : Str)) = false := by decide)
    (hy : X.N[j]? = some y := by rfl) (hyl : X.env.scope.names.lookup y = some .local := by rfl) (hsw : swapsWith (.ListComp elt [⟨tg, .Name x px, ifs, 0⟩] scope pos) (some (.Name y py)) spos.line X.env = pure true := by rfl)
    (hs : ∀ z, foldedSetIterable (.Name x px) X.env z = pure z := by intro _; rfl) :
    VS X B W (.Assign [.Name y py] (.ListComp elt [⟨tg, .Name x px, ifs, 0⟩] scope pos) spos) (tAsg (tLc (iList X.K (tVar i)) g tt te (own.map (·.2))) (gName j)) (sAsg (ef (fLcO i mg mt me (own.map (·.2)))) (gN j)) :=
  ⟨ps_setLc hc hN hy hyl hsw (pi_list (pv i hi hv hd hcd)) ok (fun s H C cl fp => (hg s H C cl fp).pg) (fun s H C cl fp => (ht s H C cl fp).pt) (fun s H C cl fp => (he s H C cl fp).pe) hs,
    fun s th G σ H Dn R P => (hef (vf_lcO (pos := pos) i hc hN ok hg hin hmono ht he s0 hi hv hd hcd hs)).sem s th G σ H _ R (P.to fun d s' th' G' H' v l R' r P' => P'.nx0 (R'.sets r))⟩
end
end VL

namespace VL
open PySem PySem.Spec PyProof.Rows L2 GxR
theorem gen_sc2 {env : Env} {scope : Scope} {x : Str} (hk : scope.kind = .function) (hc : scope.isCoroutine = false) (cell : scope.names.all (fun y => decide (y.2 ≠ .cell)) = true) (dot : scope.names.lookup (".0" : Str) = some NameKind.local)
    (loc : scope.names.lookup x = some .local) (fr : scope.names.all (fun y => decide (y.2 ≠ .free) || (env.cells.lookup y.1).isSome) = true) : GxR.GenS env scope x :=
  ⟨hk, hc, fun y hy => of_decide_eq_true (List.all_eq_true.mp cell y hy), dot, loc, fun y hy e => by
    have := List.all_eq_true.mp fr y hy
    rw [Bool.or_eq_true] at this
    rcases this with h | h
    · exact absurd e (of_decide_eq_true h)
    · exact Option.isSome_iff_exists.mp h⟩
theorem room1 {k : Nat} {A} (hr : Room k A) : A.depth + 1 < recursionLimit := by have := hr.dp; omega
end VL
namespace VL
open PySem PySem.Spec PyProof.Rows L2 He

theorem walk_ofET {l : PySem.W.OpenLaw} {n k : Nat} {q : Program} {loose : List Str} {XP : (Str → Option Value) → Heap → Prop} {YP : World → Heap → Prop} {d : DefRec} {CX : World → CXT} {x : Str}
    (hn : l.most = some n) (hn2 : n ≤ sizeLine) (hdf : d.params.defaults = []) (hr : Room k callerA)
    (F : ∀ (w : World) (mg : Str → Option Value) (fa : Addr) (h : Heap), YP w h → h.Ns mainGlobals mg → mg d.name = some (.ref fa) → ∃ K : PySem.W.Frag, K.In h ∧ LamX.LawAtS l w K (CX w) k n x mg fa h)
    (hCX : ∀ (w : World) (H : Hp) (s : Shared) (e : Value) (s' : Shared), CX w [] H s (fun _ _ _ => False) e s' → False) :
    PySem.W.WalkO q loose XP YP l.row.toRowW d [] (fun f vs => PySem.call f vs) := by
  refine Att.attach_callB hn hdf fun w s₀ s₁ mg mb fa o pm cd doc a vs ns G Y ho hd hcd hmg hobj hints hlen hbits hg => ?_
  obtain ⟨K, KX, fd, cs, sp, hT, nT, C, hb, hsp, hF⟩ := F w mg fa _ Y G.T.g hmg
  exact LamX.law_callTs KX G.T.g G.T.b G.T.builtins G.T.nolimit hg hT nT C G.T.bmain hobj hints (Nat.le_trans hlen hn2) hr hF hb (fun H hH hS => hsp H a ns hlen hbits hH hS) fun H e s' => hCX w H s₁ e s'
theorem cx_end {P : Program} {w : World} {H : Hp} {s : Shared} {e : Value} {s' : Shared} (h : L2.CX P w [] H s (fun _ _ _ => False) e s') : False := by
  obtain ⟨_, _, _, _, _, _, _, _, _, _, _, _, z⟩ := h
  exact z
theorem law_sp {K : PySem.W.Frag} {B : Bs} {f : List D → PR} {H : Hp} {a : Addr} {ns : List Int} (hf : f [.scr ns] = .ok (.bl true)) (hT : ∀ P, B.Tb P → GxR.TabG H P) (hS : SqL K H a (ns.map V.int)) :
    spP K B f [.ref a] H (fun v _ => v = .bl true) fun _ _ _ => False := by
  refine ⟨H, [.scr ns], ⟨rfl, fun i d e => by simp at e, Ex.refl H, hT, rfl, List.nodup_nil, fun a h => by simp at h, fun n ob a e => by simp at e⟩, ⟨_, _, rfl, ⟨a, rfl, hS⟩, rfl⟩, ?_⟩
  rw [hf]
  exact fun G' H' v _ _ r => r
/-- the tables of the defs tf, the classes by their names -/
def bsOf (K : PySem.W.Frag) (tf : List Defn) : Bs := ⟨fun P => ∃ p ∈ tf, (cT K p).2 = P, fun x => ga K x⟩
theorem code_tab {K : PySem.W.Frag} {x qual : Str} {params : Arguments} {body : List Stmt} {scope : Scope} {dvs : List V} {kws : List (Str × V)} {p : Defn} {fd : FuncData} (F : FunD K x qual params body scope dvs kws (fAd K p) fd) : fd.code = .ref (He.cT K p).1 := by
  obtain ⟨oc, od, dV, kV, doc, pm, an, cdv, ct, osl, rfl, lk, hcd, _, _⟩ := F.ex
  obtain ⟨c, rfl⟩ := codeIn_ref hcd
  show Value.ref c = .ref (codeOf K p)
  rw [codeOf_eq lk rfl]
theorem call_ok {P : Program} {w : World} {K : PySem.W.Frag} {mg : Str → Option Value} {base : Heap} {B : Bs} {x : Str} {k : Nat} {ps : List Str} {pf : List D → PR} {params : Arguments} {body : List Stmt} {scope : Scope} {kws : List (Str × V)} {f : Addr} {fd : FuncData}
    (F : FunD K x x params body scope [] kws f fd) (hm : mg x = some (.ref f)) (h : FnP P w K mg base B k f fd ps pf)
    (hb : ∀ (kV doc pm : Value) (an : Option Addr) (cdv ct : Value) (us : List Value), us.length = ps.length → bindArgs (PySem.W.fnOf x x params body scope .none kV doc pm an cdv ct) ⟨us, []⟩ = pure (ps.zip us)) : CallOk P w K mg base B x k ps pf :=
  ⟨f, fd, h, hm, F.kp, F.bindsN hb⟩
theorem tab_of {base : Heap} {mg : Str → Option Value} {c P : Addr} (t : LamX.TabB base mg c P) : GxR.TabB base mg c P := ⟨t.code, t.bm, t.gP⟩
theorem callerRoom : Room 30 callerA := ⟨rfl, by decide, by decide⟩
end VL
/-! all of a generator expression over a range, over a text; the element may look at captured names -/
namespace GW
open PySem PySem.Spec PyProof.Rows L2 GxR
section
variable {X : Cx} {pins : List (Addr × Obj)} {σ : L2.St} {H : Hp} {s : Shared}
/-- as EltQD, the builtins told -/
def EltQB (X : Cx) (P : Addr) (scope : Scope) (x : Str) (elt : Expr) (Bq : L2.St → Hp → V → Bool → Prop) : Prop :=
  ∀ (pins : List (Addr × Obj)) (σ : L2.St) (HA : Hp) (sA : Shared) (ce : Env) (A' : Around) (E' : Value → Shared → Prop) (v : V) (u : Value) (b : Bool) (sB : Shared) (mB : Str → Option Value),
    Inv X pins σ HA sA → ce.scope = scope → ce.globals = X.env.globals → ce.builtins = builtinsNs → ce.cells = cloFrom X.env.cells scope.names [] → A'.handled = none → A'.depth ≤ X.A.depth + 1 → A'.units ≤ X.A.units + 8 →
    (∀ q o, q ≠ P → sA.heap.get? q = some o → sB.heap.get? q = some o) → sB.heap.Ns ce.locals mB → mB x = some u → RelV v u → Bq σ HA v b →
    wpAny (model X.prog X.w) A' (eval elt ce) (fun y sC => y = .bool b ∧ Keeps sB sC) E' sB
/-- the value's iterator lies at the heap's end and walks n items -/
def SrcW (X : Cx) (sA : Shared) (xv : Value) (n : Nat) (Pf : Nat → Value → Prop) : Prop := ∀ Q : Value → Shared → Prop,
  (∀ (o : Obj) (St : Nat → Heap → Prop), (∀ A' : Around, A'.handled = none → Walks X.prog X.w A' sA.heap.objs.size [sA.heap.objs.size] [sA.heap.objs.size] n Pf St) → St 0 (sA.heap.push o) → Q (.ref sA.heap.objs.size) { sA with heap := sA.heap.push o }) →
  wpAny (model X.prog X.w) X.A (pyIter xv) Q X.xe sA
theorem gen_srcD {c P : Addr} {elt iter : Expr} {x : Str} {px gp : Pos} {scope : Scope} {Bq : L2.St → Hp → V → Bool → Prop} {k : Nat} {QQ : Value → Shared → Prop} {RR : List Bool → Hp → Prop}
    (hr : Room k X.A) (TB : TabB X.base X.mg c P) (hcode : X.env.code = .ref c) (S : GenS X.env scope x) (hel : EltQB X P scope x elt Bq) (hfo : ∀ v, genFold iter X.env v = pure v)
    (h : wpAny (model X.prog X.w) X.A (eval iter X.env) (fun xv sA => ∃ (HA : Hp) (n : Nat) (Pf : Nat → Value → Prop) (bs : List Bool), Inv X pins σ HA sA ∧ SrcW X sA xv n Pf ∧ bs.length = n ∧ (∀ (i : Nat) u b, Pf i u → bs[i]? = some b → ∃ v, RelV v u ∧ Bq σ HA v b) ∧ (∀ i u, Pf i u → i < n) ∧ TabG HA P ∧ RR bs HA) X.xe s)
    (hQ : ∀ bs HA g sE, RR bs HA → Set1 X pins σ HA P bs g sE → QQ (.ref g) sE) :
    wpAny (model X.prog X.w) X.A (eval (.GeneratorExp elt [⟨.Name x px, iter, [], 0⟩] scope gp) X.env) QQ X.xe s := by
  refine wpAny_GeneratorExp_walksQD hr.hd S.co (closure_ok S.free) S.cell S.dot S.loc S.kind (by have := hr.dp; omega) (thn h fun xv sA ⟨HA, nn, Pf, bs, IA, hsrc, hbl, hbq, hlt0, ⟨ps, hP, ht⟩, qA⟩ => ?_) hfo
  refine hsrc _ fun o St W hst => ?_
  have tP : sA.heap.get? P = some { cls := .none, data := .fields ps } := IA.hok P _ hP
  have ltP : P < sA.heap.objs.size := Heap.lt_size tP
  have tP2 : (sA.heap.push o).get? P = some { cls := .none, data := .fields ps } := Heap.get?_push_of_some _ tP
  have hd2 : PySem.W.CodeHd (sA.heap.push o) c P := TB.code.keeps fun b u e => Heap.get?_push_of_some _ (IA.bk b u e)
  have nl2 : (sA.heap.push o).NoLimit := IA.nolimit.push o
  have szp : (sA.heap.push o).objs.size = sA.heap.objs.size + 1 := Heap.size_push ..
  have go : ∀ (code : Value) (hC : Heap) (tk : Nat) (ps' : Array Value), Heap.ExtBut P (sA.heap.push o) hC → (sA.heap.push o).objs.size ≤ hC.objs.size → hC.get? P = some { cls := .none, data := .fields ps' } → (∃ more, ps' = ps ++ more) → TriplesOk ps'.toList →
      wpAny (model X.prog X.w) X.A (builtinsFor X.env.globals X.env.builtins) (fun bi sD =>
        ∃ Ia fp wr n₀ Pf St₀ pz F, Value.ref sA.heap.objs.size = .ref Ia ∧ (∀ A' : Around, A'.handled = none → Walks X.prog X.w A' Ia fp wr n₀ Pf St₀) ∧ St₀ 0 sD.heap ∧ (∀ b ∈ fp, b < sD.heap.objs.size) ∧ sD.heap.NoLimit ∧ cStatics ∉ wr ∧
          (∀ hr2 : Heap, (∀ b o, sD.heap.get? b = some o → hr2.get? b = some o) →
            QuietGenD X.prog X.w (genEnv scope (cloFrom X.env.cells scope.names []) sD.heap.objs.size code bi X.env) x [] elt (List.range sD.heap.objs.size) wr Pf pz F hr2 (X.A.depth + 1) (X.A.units + 8)) ∧
          (∀ g hE tkE gs, gs.bare = true → sD.heap.objs.size < g → hE.objs.size = g + 1 → (∀ b o, sD.heap.get? b = some o → hE.get? b = some o) →
            WalksS X.prog X.w X.A.in4 g (g :: sD.heap.objs.size :: List.range sD.heap.objs.size) (sD.heap.objs.size :: wr) (GenOnlyQ sD.gens.size) (passing pz n₀ 0).length
              (fun j y => ∃ i, (passing pz n₀ 0)[j]? = some i ∧ F i y) (GenAt X.prog X.w X.A.in4 g sD.gens.size sD.heap.objs.size (List.range sD.heap.objs.size) wr pz n₀ F) →
            GenAt X.prog X.w X.A.in4 g sD.gens.size sD.heap.objs.size (List.range sD.heap.objs.size) wr pz n₀ F 0 { sD with gens := sD.gens.push gs, toks := tkE, heap := hE } →
            QQ (.ref g) { sD with gens := sD.gens.push gs, toks := tkE, heap := hE })) X.xe { sA with heap := hC, toks := tk } := by
    intro code hC tk ps' ext hsz tC hmore htC
    obtain ⟨bm, ob, e1, e2, e3, e4, e5, e6, e7, e8⟩ := TB.bm
    have ncP : cStatics ≠ P := fun e => by
      obtain ⟨_, hns, _⟩ := IA.nolimit
      obtain ⟨o', es, ep, ho, hd, _⟩ := hns
      rw [e, tP] at ho
      cases ho
      cases hd
    have ncl : cStatics < sA.heap.objs.size := let ⟨_, hns, _⟩ := IA.nolimit; hns.lt
    have kC : ∀ b u, b ≠ P → sA.heap.get? b = some u → hC.get? b = some u := fun b u hb e => ext b u hb (Heap.get?_push_of_some _ e)
    refine wpAny_builtinsFor (m := X.mg) (by rw [IA.ok.glob]; exact ((IA.mod.glob.keeps IA.bk).push o).extBut ext TB.gP) e1 e2 (kC _ _ e4 (IA.bk _ _ e5)) e6 e7 e8 ?_
    have two : ∀ b ∈ [sA.heap.objs.size], b = sA.heap.objs.size := fun b hb => by simpa using hb
    refine ⟨sA.heap.objs.size, _, [sA.heap.objs.size], nn, _, St, (fun _ => true), (fun i y => ∃ b, bs[i]? = some b ∧ y = .bool b), rfl, W, ?_, ?_, nl2.extBut ext ncP, ?_, ?_, ?_⟩
    · refine (W X.A hr.hd).frame _ _ _ hst fun b hb u e => ext b u (fun z => ?_) e
      exact Nat.ne_of_lt ltP (z.symm.trans (two b hb))
    · intro b hb
      show b < hC.objs.size
      have hlC : sA.heap.objs.size < hC.objs.size := by rw [szp] at hsz; exact hsz
      rw [two b hb]; exact hlC
    · intro z
      have e9 : cStatics = sA.heap.objs.size := by simpa using z
      rw [e9] at ncl
      exact Nat.lt_irrefl _ ncl
    · intro hr2 hrk
      refine ⟨fun A' E' i v s₂ m₂ hA hD hU hPv hn hm hk => by simp only [List.forIn_nil]; exact wpAny_pure ⟨rfl, keeps_refl _⟩, fun A' E' i v s₂ m₂ hA hD hU hPv hp hn hm hk => ?_⟩
      have hlt : i < bs.length := by rw [hbl]; exact hlt0 i v hPv
      obtain ⟨z, rz, qz⟩ := hbq i v _ hPv (List.getElem?_eq_getElem hlt)
      refine wpAny_mono (hel pins σ HA sA _ A' E' z v bs[i] s₂ m₂ IA rfl rfl rfl rfl hA hD hU (fun q oq hq e => ?_) hn hm rz qz) (fun y s3 r => ⟨⟨_, List.getElem?_eq_getElem hlt, r.1⟩, r.2⟩) fun _ _ e => e
      have hql := Heap.lt_size e
      have hlC : sA.heap.objs.size < hC.objs.size := by rw [szp] at hsz; exact hsz
      refine hk q (List.mem_range.mpr (Nat.lt_trans hql hlC)) (fun zz => ?_) oq (hrk q oq (kC q oq hq e))
      have e9 : q = sA.heap.objs.size := by simpa using zz
      rw [e9] at hql
      exact Nat.lt_irrefl _ hql
    · intro g hE tkE gs hgb hag hszE hkE WE hat
      simp only [GxR.passing_true, List.length_range] at WE
      rw [← hbl] at WE hat
      refine hQ bs HA g _ qA ⟨_, _, _, _, _, WE.in4_1, hat, ?_, fun s' hm => ?_⟩
      · intro j y sj Qj Ej hy hQj
        obtain ⟨i, hij, b, hb, rfl⟩ := hy
        obtain ⟨hj, ej⟩ := List.getElem?_eq_some_iff.mp hij
        rw [List.getElem_range] at ej
        subst ej
        have hQ2 : Qj (bAt bs j) sj := hQj
        unfold bAt at hQ2
        rw [hb] at hQ2
        exact wpAny_truthy_bool hQ2
      · obtain ⟨more, em⟩ := hmore
        have nwr : ∀ b u, sA.heap.get? b = some u → b ∉ hC.objs.size :: [sA.heap.objs.size] := fun b u e hb => by
          have hl := Heap.lt_size e
          have hlC : sA.heap.objs.size < hC.objs.size := by rw [szp] at hsz; exact hsz
          rcases (show b = hC.objs.size ∨ b = sA.heap.objs.size by simpa using hb) with z | z
          · rw [z] at hl; exact Nat.lt_irrefl _ (Nat.lt_trans hl hlC)
          · rw [z] at hl; exact Nat.lt_irrefl _ hl
        have J := inv_tab (more := more) (h' := s'.heap) (g' := s'.gens) (d' := s'.drawn) (t' := s'.toks) IA hP (fun b u hb e => hm.heap b u (nwr b u e) (hkE b u (kC b u hb e)))
          (by rw [← em]; exact hm.heap P _ (nwr P _ tP) (hkE P _ tC)) (AllBare.movedS (IA.bare.push hgb) hm)
        rw [sh_eta sA s' hm.os] at J
        exact ⟨upd HA P (.tbl (ps ++ more)), ⟨⟨ps ++ more, upd_same, by rw [← em]; exact htC⟩, fun b hb => upd_ne hb⟩, J⟩
  refine ⟨nl2, ?_⟩
  cases hf : codeAmong gp ps.toList with
  | none =>
    refine wpAny_genexprCodeX hcode (hd2.code tP2 ht) (hd2.tab tP2) hf fun c' h' tk hx hge hlt hco' _ htab' _ => ?_
    obtain ⟨o1, vv, f1, tf, fl, tg, inF, tx, tt, op, _, _, _, _, _, _, _, _, _, htr, _⟩ := hco'
    exact go _ h' tk _ hx (Nat.le_trans hge (Nat.le_of_lt hlt)) htab'.2 ⟨_, rfl⟩ htr
  | some cv =>
    refine wpAny_genexprCode_hit hcode (hd2.code tP2 ht) hf ?_
    exact go cv (sA.heap.push o) sA.toks ps (Heap.ExtBut.refl _ _) (Nat.le_refl _) tP2 ⟨#[], by simp⟩ ht
end
end GW
namespace GW
open PySem PySem.Spec PyProof.Rows L2 GxR
section
variable {X : Cx}
def tQr (P : Addr) (Bq : L2.St → Hp → V → Bool → Prop) (f : List Bool → Bool) (te : L2.St → Hp → (Int → Int → Hp → Prop) → Prop) : TE := fun σ H Q => te σ H fun a b HA => ∃ bs : List Bool, RgOk a b ∧ bs.length = (b - a).toNat ∧ (∀ (i : Nat) x, bs[i]? = some x → Bq σ HA (.int (a + (i : Nat))) x) ∧ TabG HA P ∧
  ∀ HB, Tabbed P HA HB → Q (.bl (f bs)) HB
theorem pe_allR {c P : Addr} {elt iter : Expr} {x : Str} {px p pos gp : Pos} {scope : Scope} {Bq : L2.St → Hp → V → Bool → Prop} {te : L2.St → Hp → (Int → Int → Hp → Prop) → Prop} {k : Nat}
    (hr : Room k X.A) (hg : Gl X "all") (hm : X.mg "all" = none) (hbt : bootBuiltins "all" = some (.builtin "all")) (TB : TabB X.base X.mg c P) (hcode : X.env.code = .ref c) (S : GenS X.env scope x) (hi : PRg X iter te) (hel : EltQB X P scope x elt Bq) (hfo : ∀ v, genFold iter X.env v = pure v)
    (he : starEach [.GeneratorExp elt [⟨.Name x px, iter, [], 0⟩] scope gp] X.env = (false, eval (.GeneratorExp elt [⟨.Name x px, iter, [], 0⟩] scope gp) X.env) :: starEach [] X.env := by rfl) :
    PE X (.Call (.Name "all" p) [.GeneratorExp elt [⟨.Name x px, iter, [], 0⟩] scope gp] [] pos) (tQr P Bq (fun bs => bs.all id) te) := by
  refine ⟨fun pins s σ H Q I h => ?_⟩
  refine wpAny_Call_Name_kw (ld_blt I hg hm hbt (PyProof.Rows.callWith_builtin1 ?_ he (by rfl)))
  rw [he]
  refine Calls.spliced_cons (gen_srcD (pins := pins) (σ := σ) (RR := fun bs HA => ∀ HB, Tabbed P HA HB → Q (.bl (bs.all id)) HB) hr TB hcode S hel hfo (thn (hi pins s σ H _ I h) fun xv s1 ⟨r, a, b, t, u, v, H1, ex, hrg, I1, bs, ok, hl, hb, tb, q⟩ => ?_) fun bs HA g sE hR hG => ?_)
  · subst ex
    obtain ⟨b1, b2, b3, b4, b5⟩ := ok
    refine ⟨H1, (b - a).toNat, (fun i v => i < (b - a).toNat ∧ ∃ t, v = .int (a + i * 1) t), bs, I1, fun Q2 hQ2 => ?_, hl, fun i u y hu hy => ?_, fun i u hu => hu.1, tb, q⟩
    · refine wpAny_pyIter_range hrg (small_one b1 b2 b3 b4) (hQ2 _ _ (fun A' hA => (Walks.range hA _ a 1 (b - a).toNat).bound) ?_)
      show IsRangeIter _ _ _ _ _
      rw [rangeSize_nat]
      simpa using Heap.get?_push_size _ rfl
    · obtain ⟨hlt, t, rfl⟩ := hu
      refine ⟨.int (a + (i : Nat)), ⟨t, by rw [Int.mul_one]⟩, hb i y hy⟩
  · obtain ⟨fp, wr, G, F, St, W, hst, htr, hI⟩ := hG
    refine Calls.spliced_nil (call_all_walkS (W.self 0 _ _ _ hst ⟨g, fp, wr, G, _, F, St, _, rfl, W, hst, htr, fun s' hmv => ?_⟩))
    obtain ⟨HB, hT, J⟩ := hI s' hmv
    refine ⟨.bl _, HB, J, rfl, ?_⟩
    rw [all_bAt bs]
    exact hR HB hT
theorem pe_allTD {c P : Addr} {elt iter : Expr} {x : Str} {px p pos gp : Pos} {scope : Scope} {Bq : L2.St → Hp → V → Bool → Prop} {te : TE} {k : Nat}
    (hr : Room k X.A) (hg : Gl X "all") (hm : X.mg "all" = none) (hbt : bootBuiltins "all" = some (.builtin "all")) (TB : TabB X.base X.mg c P) (hcode : X.env.code = .ref c) (S : GenS X.env scope x) (hi : PE X iter te) (hel : EltQB X P scope x elt Bq) (hfo : ∀ v, genFold iter X.env v = pure v)
    (he : starEach [.GeneratorExp elt [⟨.Name x px, iter, [], 0⟩] scope gp] X.env = (false, eval (.GeneratorExp elt [⟨.Name x px, iter, [], 0⟩] scope gp) X.env) :: starEach [] X.env := by rfl) :
    PE X (.Call (.Name "all" p) [.GeneratorExp elt [⟨.Name x px, iter, [], 0⟩] scope gp] [] pos) (tQs P Bq (fun bs => bs.all id) te) := by
  refine ⟨fun pins s σ H Q I h => ?_⟩
  refine wpAny_Call_Name_kw (ld_blt I hg hm hbt (PyProof.Rows.callWith_builtin1 ?_ he (by rfl)))
  rw [he]
  refine Calls.spliced_cons (gen_srcD (pins := pins) (σ := σ) (RR := fun bs HA => ∀ HB, Tabbed P HA HB → Q (.bl (bs.all id)) HB) hr TB hcode S hel hfo (thn (hi.run pins s σ H _ I h) fun xv s1 ⟨v, H1, I1, rv, a, bs, ev, hl, hb, tb, q⟩ => ?_) fun bs HA g sE hR hG => ?_)
  · subst ev
    obtain ⟨tv, rfl⟩ := id rv
    refine ⟨H1, a.cps.size, SignAt a, bs, I1, fun Q2 hQ2 => wpAny_pyIter_str hQ2, hl, fun i u y hu hy => ?_, fun i u hu => ?_, tb, q⟩
    · obtain ⟨z, tz, hz, rfl⟩ := hu
      exact ⟨.str ⟨#[z]⟩, ⟨tz, rfl⟩, hb i z y hz hy⟩
    · obtain ⟨z, tz, hz, rfl⟩ := hu
      exact (Array.getElem?_eq_some_iff.mp hz).1
  · obtain ⟨fp, wr, G, F, St, W, hst, htr, hI⟩ := hG
    refine Calls.spliced_nil (call_all_walkS (W.self 0 _ _ _ hst ⟨g, fp, wr, G, _, F, St, _, rfl, W, hst, htr, fun s' hmv => ?_⟩))
    obtain ⟨HB, hT, J⟩ := hI s' hmv
    refine ⟨.bl _, HB, J, rfl, ?_⟩
    rw [all_bAt bs]
    exact hR HB hT
end
end GW
namespace VL
open PySem PySem.Spec PyProof.Rows L2 GxR
/-- all(.. for x in range(n)) -/
def eQr (f : List Bool → Bool) (pb : S → D → Option Bool) (it : ME) : ME := fun s => (it s).bind fun d s => match d with
  | .int n => if okR n && decide (n ≤ 16777216) then match testL pb s (rng 0 n.toNat) with
      | some bs => .ok (.bl (f bs), s)
      | none => .no
    else .no
  | _ => .no
section
variable {K : PySem.W.Frag} {B : Bs} {W : WX} {th : List Addr} {G H H' : Hp} {s : S} {σ : L2.St}
theorem sem_qr {P : Addr} {te : TE} {m : ME} {f : List Bool → Bool} {pb : S → D → Option Bool} (hP : B.Tb P) (h : Sem K B W (relE K) te m) : Sem K B W (relE K) (GW.tQr P (BqOf K B pb) f (tRg1 te)) (eQr f pb m) := fun s th G σ H Q R Pq =>
  h s th G σ H _ R (Pq.bind fun d s1 th1 G1 H1 v l1 R1 r1 P1 => by
    cases d with
    | int n =>
      cases r1
      dsimp only at P1
      by_cases hn : (okR n && decide (n ≤ 16777216)) = true
      · rw [if_pos hn] at P1
        simp only [okR, Bool.and_eq_true, decide_eq_true_eq] at hn
        obtain ⟨⟨h1, h2⟩, h3⟩ := hn
        cases ht : testL pb s1 (rng 0 n.toNat) with
        | none => rw [ht] at P1; exact P1.elim
        | some bs =>
          rw [ht] at P1
          obtain ⟨hl, hb⟩ := testL_get ht
          have hrl : (rng 0 n.toNat).length = n.toNat := by simp [rng]
          refine ⟨n, rfl, bs, ⟨by omega, by omega, h1, h2, by omega⟩, by rw [hl, hrl]; omega, fun i b e2 => ?_, R1.tb P hP, fun HB hT => ?_⟩
          · have hi : i < n.toNat := by
              have := (List.getElem?_eq_some_iff.mp e2).1
              omega
            have e3 : (rng 0 n.toNat)[i]? = some (.int (0 + (i : Nat))) := by simp [rng, hi]
            exact ⟨s1, th1, G1, .int (0 + (i : Nat)), R1, rfl, hb i _ b e3 e2⟩
          · obtain ⟨R2, l2⟩ := R1.tabbed hP hT
            exact P1 th1 G1 HB _ l2 R2 rfl
      · rw [if_neg hn] at P1
        exact P1.elim
    | _ => exact P1.elim)
end
section
variable {X : Cx} {B : Bs} {W : WX} {elt : Expr} {te : TE} {m : ME} {x : Str} {px p pos gp : Pos} {scope : Scope} {pb : S → D → Option Bool} {c P : Addr} {k : Nat}
theorem ve_allR {a : Expr} {q1 q2 : Pos} (hr : Room k X.A) (hg : Gl X "all") (hm : X.mg "all" = none) (hbt : bootBuiltins "all" = some (.builtin "all")) (hg2 : Gl X "range") (hm2 : X.mg "range" = none) (TB : TabB X.base X.mg c P) (hP : B.Tb P) (hcode : X.env.code = .ref c) (Sc : GenS X.env scope x) (hi : VE X B W a te m) (hel : GW.EltQB X P scope x elt (BqOf X.K B pb))
    (hna : starEach [a] X.env = (false, eval a X.env) :: starEach [] X.env := by rfl)
    (hfo : ∀ v, genFold (.Call (.Name "range" q1) [a] [] q2) X.env v = pure v := by intro _; rfl) (he : starEach [.GeneratorExp elt [⟨.Name x px, .Call (.Name "range" q1) [a] [] q2, [], 0⟩] scope gp] X.env = (false, eval (.GeneratorExp elt [⟨.Name x px, .Call (.Name "range" q1) [a] [] q2, [], 0⟩] scope gp) X.env) :: starEach [] X.env := by rfl) :
    VE X B W (.Call (.Name "all" p) [.GeneratorExp elt [⟨.Name x px, .Call (.Name "range" q1) [a] [] q2, [], 0⟩] scope gp] [] pos) (GW.tQr P (BqOf X.K B pb) allB (tRg1 te)) (eQr allB pb m) := ⟨GW.pe_allR hr hg hm hbt TB hcode Sc (prg_1 hg2 hm2 hi.pe hna) hel hfo he, sem_qr hP hi.sem⟩
theorem ve_allTD {iter : Expr} (hr : Room k X.A) (hg : Gl X "all") (hm : X.mg "all" = none) (hbt : bootBuiltins "all" = some (.builtin "all")) (TB : TabB X.base X.mg c P) (hP : B.Tb P) (hcode : X.env.code = .ref c) (Sc : GenS X.env scope x) (hi : VE X B W iter te m) (hel : GW.EltQB X P scope x elt (BqOf X.K B pb))
    (hfo : ∀ v, genFold iter X.env v = pure v := by intro _; rfl) (he : starEach [.GeneratorExp elt [⟨.Name x px, iter, [], 0⟩] scope gp] X.env = (false, eval (.GeneratorExp elt [⟨.Name x px, iter, [], 0⟩] scope gp) X.env) :: starEach [] X.env := by rfl) :
    VE X B W (.Call (.Name "all" p) [.GeneratorExp elt [⟨.Name x px, iter, [], 0⟩] scope gp] [] pos) (GW.tQs P (BqOf X.K B pb) allB te) (eQs allB pb m) := ⟨GW.pe_allTD hr hg hm hbt TB hcode Sc hi.pe hel hfo he, sem_qs hP hi.sem⟩
end
end VL
/-! elements of generator expressions that look at captured names -/
namespace VL
open PySem PySem.Spec PyProof.Rows L2 GxR
section
variable {X : Cx} {B : Bs} {scope : Scope} {P : Addr} {pins : List (Addr × Obj)} {σ : L2.St} {H : Hp} {sA sB : Shared} {th : List Addr} {G : Hp} {st : S}
theorem tab_none (R : Rep X.K B th G st σ H) (I : Inv X pins σ H sA) (hP : B.Tb P) : ∃ ps, sA.heap.get? P = some { cls := .none, data := .fields ps } := by
  obtain ⟨ps, hPt, _⟩ := R.tb P hP
  exact ⟨ps, I.hok P _ hPt⟩
/-- a captured name, seen from the generator's frame -/
theorem cell_of (R : Rep X.K B th G st σ H) (I : Inv X pins σ H sA) (hP : B.Tb P) {i : Nat} {y : Str} {d : D} (hN : X.N[i]? = some y) (hc : X.env.scope.names.lookup y = some .cell) (hs : st.r[i]? = some (some d)) (keep : ∀ q o, q ≠ P → sA.heap.get? q = some o → sB.heap.get? q = some o) :
    ∃ u v c, X.env.cells.lookup y = some c ∧ sB.heap.IsCell c (some u) ∧ RelV v u ∧ At X.K th G d v := by
  obtain ⟨ps, tP⟩ := tab_none R I hP
  obtain ⟨v0, hv0, q0⟩ := R.slot i _ hs
  obtain ⟨m, hns, look⟩ := I.loc
  obtain ⟨u0, r0, l0⟩ := look i _ _ hN hv0 (.inr (.inl hc))
  rcases l0 with ⟨z, _⟩ | ⟨_, c, z, o, ho, hd⟩
  · have z : X.env.scope.names.lookup _ = some NameKind.local := z
    rw [hc] at z; cases z
  · refine ⟨u0, v0, c, z, ⟨o, keep c o (fun q => ?_) ho, hd⟩, r0, q0⟩
    rw [q, tP] at ho; cases ho; cases hd
/-- s[k] of a text -/
theorem sub_str {prog : Program} {w : World} {A : Around} {E : Value → Shared → Prop} {s : Shared} {value slice : Expr} {z : List Nat} {k : Int} {t t' : Tok} {c : Nat} {Q : Value → Shared → Prop} (hz : z.length ≤ SZ) (hc : L2.atI z k = some c) (hs : subscripted slice false (.str ⟨z.toArray⟩ t) (.int k t') = operate [.str ⟨z.toArray⟩ t, .int k t'] (getItem (.str ⟨z.toArray⟩ t) (.int k t')))
    (h : ∀ u tk, Q (.str ⟨#[c]⟩ u) { s with toks := tk }) : wpAny (model prog w) A (subscriptTail value slice (.str ⟨z.toArray⟩ t) (.int k t')) Q E s := by
  obtain ⟨j, h1, h2, h3, h4, h5⟩ := atI_get hc
  have hl : (⟨z.toArray⟩ : Str).length = z.length := str_len z
  have hz : z.length ≤ 16777216 := hz
  exact tail_any (typeIs_str s _ t) slot_str_getitem.lookup (getItem_str (c := c) (by
    have e1 : decide (k < -(2 ^ 63 : Int)) = false := decide_eq_false (by have e : (2 : Int) ^ 63 = 9223372036854775808 := rfl; omega)
    have e2 : decide (k ≥ 2 ^ 63) = false := decide_eq_false (by have e : (2 : Int) ^ 63 = 9223372036854775808 := rfl; omega)
    rw [e1, e2, Bool.or_false]) (by rw [hl, h1]; simpa using h2) (h _ _)) hs
/-- items[at] < items[at + 1], items a captured text -/
def pbAsc (i : Nat) : S → D → Option Bool := fun s d => match (s.r[i]? : Option (Option D)) with
  | some (some (.str z)) => match d with
    | .int k => if z.length ≤ SZ then match L2.atI z k, L2.atI z (k + 1) with
        | some a, some b => some (decide (a < b))
        | _, _ => none
      else none
    | _ => none
  | _ => none
theorem elt_asc (i : Nat) {y x : Str} {p1 p2 p3 p4 p5 p6 p7 p8 p9 : Pos} {k1 : Nat} (hP : B.Tb P) (hk : scope.kind = .function) (hx : scope.names.lookup x = some .local) (hy : scope.names.lookup y = some .free)
    (hcl : ∀ cells : List (Str × Addr), cloFrom cells scope.names [] = [(y, (cells.lookup y).getD 0)]) (hN : X.N[i]? = some y) (hc : X.env.scope.names.lookup y = some .cell)
    (hdx : (x == ("__debug__" : Str)) = false := by decide) (hdy : (y == ("__debug__" : Str)) = false := by decide) (hdc : (y == ("__classdict__" : Str)) = false := by decide) :
    GW.EltQB X P scope x (.Compare (.Subscript (.Name y p1) (.Name x p2) p3) [.Lt] [.Subscript (.Name y p4) (.BinOp (.Name x p5) .Add (.Constant (.int 1) k1 p6) p7) p8] p9) (BqOf X.K B (pbAsc i)) := by
  intro pins σ HA sA ce A' E' v u b sB mB I hsc hgc hbc hcc hA hD hU keep hn hm rv hb
  obtain ⟨s, th, G, d, R, at1, hp⟩ := hb
  unfold pbAsc at hp
  split at hp
  · rename_i z h0
    split at hp
    · rename_i k
      split at hp
      · rename_i hz
        split at hp
        · rename_i ca cb ha hb
          cases at1
          obtain ⟨tv, rfl⟩ := rv
          obtain ⟨u0, v0, c, ec, hcell, r0, q0⟩ := cell_of R I hP hN hc h0 keep
          cases q0
          obtain ⟨t0, rfl⟩ := r0
          have hcells : ce.cells = [(y, c)] := by rw [hcc, hcl, ec]; rfl
          have lky : ce.cells.lookup y = some c := by rw [hcells]; simp
          have hsk : ce.scope.kind = .function := by rw [hsc]; exact hk
          have hfy : ce.scope.names.lookup y = some .free := by rw [hsc]; exact hy
          have hlx : ce.scope.names.lookup x = some .local := by rw [hsc]; exact hx
          refine wpAny_Compare1 ?_
          refine Subscript_ (wpAny_Name (wpAny_loadName_free hsk hfy lky hcell (wpAny_Name (wpAny_loadName_local hsk hlx hn hm ?_) hdx) hdc) hdy)
          refine sub_str hz ha (by with_unfolding_all rfl) fun u1 tk1 => ?_
          refine Subscript_ (wpAny_Name (wpAny_loadName_free hsk hfy lky hcell (wpAny_BinOp (wpAny_Name (wpAny_loadName_local hsk hlx hn hm ?_) hdx)) hdc) hdy)
          refine wpAny_Constant_int (add_int ?_)
          refine sub_str hz hb (by with_unfolding_all rfl) fun u2 tk2 => ?_
          refine lt_str ⟨?_, keeps_tok _ _⟩
          injection hp with hp
          rw [← hp]
          congr 1
          simp [List.cons_lt_cons_iff]
        · cases hp
      · cases hp
    · cases hp
  · cases hp
theorem blt_ns (R : Rep X.K B th G st σ H) (I : Inv X pins σ H sA) (hP : B.Tb P) (keep : ∀ q o, q ≠ P → sA.heap.get? q = some o → sB.heap.get? q = some o) : ∃ mb, sB.heap.Ns builtinsNs mb ∧ ∀ x : Str, x ≠ "__name__" → mb x = bootBuiltins x := by
  obtain ⟨ps, tP⟩ := tab_none R I hP
  obtain ⟨mb, h1, h2⟩ := I.mod.blt
  have h3 := h1.keeps I.bk
  refine ⟨mb, h3.at fun o z => keep _ _ (fun q => ?_) z, h2⟩
  obtain ⟨o', es, ep, ho', hd', _⟩ := h3
  rw [q, tP] at ho'
  cases ho'
  cases hd'
/-- x in tuple(y), y a captured text -/
def pbTup (i : Nat) : S → D → Option Bool := fun s d => match (s.r[i]? : Option (Option D)) with
  | some (some (.str z)) => match d with
    | .str [c] => if z.length ≤ SZ then some (decide (c ∈ z)) else none
    | _ => none
  | _ => none
theorem strs_key : ∀ (us : List Value) (zs : List Nat), us.length = zs.length → (∀ (j : Nat) (u : Value), us[j]? = some u → ∃ (c : Nat) (t : Tok), zs[j]? = some c ∧ u = Value.str ⟨#[c]⟩ t) → StrsAre us (zs.map fun c => (⟨#[c]⟩ : Str))
  | [], [], _, _ => .nil
  | [], _ :: _, h, _ => by simp at h
  | _ :: _, [], h, _ => by simp at h
  | u :: us, z :: zs, h, q => by
    obtain ⟨c, t, e1, e2⟩ := q 0 u rfl
    have e1 : z = c := by simpa using e1
    subst e1
    rw [e2]
    exact .cons _ _ (strs_key us zs (by simpa using h) fun j u hj => q (j + 1) u (by simpa using hj))
theorem signs_strs {z : List Nat} {acc : Array Value} (h : ItemsOf (SignAt ⟨z.toArray⟩) acc (⟨z.toArray⟩ : Str).cps.size) : StrsAre acc.toList (z.map fun c => (⟨#[c]⟩ : Str)) := by
  obtain ⟨hl, hi⟩ := h
  refine strs_key _ _ (by simpa using hl) fun j u hj => ?_
  obtain ⟨c, t, e1, e2⟩ := hi j u (by rw [← hj, Array.getElem?_toList])
  exact ⟨c, t, by simpa using e1, e2⟩
theorem elt_tupIn (i : Nat) {y x : Str} {p1 p2 p3 p4 p5 : Pos} (hP : B.Tb P) (hgP : mainGlobals ≠ P) (hk : scope.kind = .function) (hx : scope.names.lookup x = some .local) (hy : scope.names.lookup y = some .free) (hg : scope.names.lookup ("tuple" : Str) = some .globalImplicit) (hm : X.mg "tuple" = none)
    (hcl : ∀ cells : List (Str × Addr), cloFrom cells scope.names [] = [(y, (cells.lookup y).getD 0)]) (hN : X.N[i]? = some y) (hc : X.env.scope.names.lookup y = some .cell)
    (hdx : (x == ("__debug__" : Str)) = false := by decide) (hdy : (y == ("__debug__" : Str)) = false := by decide) (hdc : (y == ("__classdict__" : Str)) = false := by decide) :
    GW.EltQB X P scope x (.Compare (.Name x p1) [.In] [.Call (.Name "tuple" p2) [.Name y p3] [] p4] p5) (BqOf X.K B (pbTup i)) := by
  intro pins σ HA sA ce A' E' v u b sB mB I hsc hgc hbc hcc hA hD hU keep hn hmx rv hb
  obtain ⟨s, th, G, d, R, at1, hp⟩ := hb
  unfold pbTup at hp
  split at hp
  · rename_i z h0
    split at hp
    · rename_i ch
      split at hp
      · rename_i hz
        cases at1
        obtain ⟨tv, rfl⟩ := rv
        obtain ⟨u0, v0, c, ec, hcell, r0, q0⟩ := cell_of R I hP hN hc h0 keep
        cases q0
        obtain ⟨t0, rfl⟩ := r0
        have hcells : ce.cells = [(y, c)] := by rw [hcc, hcl, ec]; rfl
        have lky : ce.cells.lookup y = some c := by rw [hcells]; simp
        have hsk : ce.scope.kind = .function := by rw [hsc]; exact hk
        have hfy : ce.scope.names.lookup y = some .free := by rw [hsc]; exact hy
        have hlx : ce.scope.names.lookup x = some .local := by rw [hsc]; exact hx
        have gl : sB.heap.Ns ce.globals X.mg := by
          rw [hgc, I.ok.glob]
          exact (I.mod.glob.keeps I.bk).at fun o z => keep _ _ hgP z
        obtain ⟨mb, nb, eb⟩ := blt_ns R I hP keep
        refine wpAny_Compare1 (wpAny_Name (wpAny_loadName_local hsk hlx hn hmx ?_) hdx)
        refine Call_ (Calls.Name_function_global hsk (show ce.scope.names.lookup _ = _ by rw [hsc]; exact hg) (Calls.loadGlobal_builtin gl hm (by rw [hbc]; exact nb) ((eb _ (by decide)).trans boot_tuple) ?_))
        refine PyProof.Rows.callWith_type1 (PyProof.Rows.args_cons (wpAny_Name (wpAny_loadName_free hsk hfy lky hcell (PyProof.Rows.args_nil ?_) hdc) hdy) rfl) rfl rfl
        have hz2 : z.length ≤ 16777216 := hz
        refine call_tuple_str (hsz := by rw [sizeLine_eq]; simpa using hz2) hA ⟨z.toArray⟩ t0 fun h' tk acc hk' hacc => ?_
        have ht : IsTup (h'.push { cls := .type "tuple", data := .seq acc }) h'.objs.size acc := IsTup.new _ _
        refine in_tuple_strs ht (signs_strs hacc) ⟨?_, ⟨_, _, rfl, fun b o e => Heap.get?_push_of_some _ (hk' b o e)⟩⟩
        injection hp with hp
        rw [← hp]
        congr 1
        rw [Bool.eq_iff_iff, List.any_eq_true, decide_eq_true_eq]
        constructor
        · rintro ⟨w, hw, e⟩
          obtain ⟨q, hq, rfl⟩ := List.mem_map.mp hw
          have e2 : (⟨#[q]⟩ : Str) = ⟨#[ch]⟩ := by simpa using e
          have e3 : [q] = [ch] := congrArg (fun w : Str => w.cps.toList) e2
          rw [← (List.cons.inj e3).1]; exact hq
        · intro hq
          exact ⟨⟨#[ch]⟩, List.mem_map.mpr ⟨ch, hq, rfl⟩, by simp⟩
      · cases hp
    · cases hp
  · cases hp
end
end VL
set_option maxHeartbeats 3200000
/-! len(set(s)), s a text -/
namespace SX
open PySem PySem.Spec PyProof.Rows L2
/-- how many unlike signs stand among the first i -/
def cntA (z : List Nat) : Nat → Nat
  | 0 => 0
  | i + 1 => if (z.take i).any (fun c => decide (z[i]? = some c)) = true then cntA z i else cntA z i + 1
theorem cntA_le (z : List Nat) : ∀ i, cntA z i ≤ i
  | 0 => Nat.le_refl 0
  | i + 1 => by
    have := cntA_le z i
    unfold cntA
    split <;> omega
def has (z : List Nat) (i : Nat) : Str → Bool := fun k => (z.take i).any fun c => decide (k = ⟨#[c]⟩)
theorem has_step {z : List Nat} {i c : Nat} (h : z[i]? = some c) (k : Str) : (has z i k || decide (k = ⟨#[c]⟩)) = has z (i + 1) k := by
  obtain ⟨hi, rfl⟩ := List.getElem?_eq_some_iff.mp h
  unfold has
  rw [List.take_add_one, List.any_append, h]
  simp
theorem has_cnt {z : List Nat} {i c : Nat} (h : z[i]? = some c) : (if has z i ⟨#[c]⟩ = true then cntA z i else cntA z i + 1) = cntA z (i + 1) := by
  have e : has z i ⟨#[c]⟩ = (z.take i).any (fun d => decide (z[i]? = some d)) := by
    unfold has
    rw [h]
    congr 1
    funext d
    by_cases q : c = d
    · subst q; simp
    · have q1 : ¬ ((⟨#[c]⟩ : Str) = ⟨#[d]⟩) := fun e => q (List.cons.inj (congrArg (fun y : Str => y.cps.toList) e)).1
      simp [q, q1]
  rw [e]
  rfl
section
variable {prog : Program} {w : World} {A : Around} {R : Result → Shared → Prop} {I : Addr} {fp wr : List Addr} {G : Array GenState → Array GenState → Prop} {n : Nat} {P : Nat → Value → Prop} {St : Nat → Shared → Prop}
theorem loopTx (W : WalksS prog w A.in1 I fp wr G n P St) (S : Addr) (hSf : S ∉ fp) (z : List Nat) (hn : n < 4000) (hval : ∀ i v, P i v → ∃ c t, z[i]? = some c ∧ v = .str ⟨#[c]⟩ t) :
    ∀ (k i : Nat) (s : Shared), n - i = k → i ≤ n → St i s → s.heap.SetOf (PySem.strKind prog w) S (has z i) (cntA z i) →
      (∀ s', Moved (S :: wr) G s s' → s'.heap.SetOf (PySem.strKind prog w) S (has z n) (cntA z n) → R (.ok (.ret .none)) s') →
      codeAny (model prog w) A (.builtin "set.update.loop" ⟨[.ref S, .ref I], []⟩) R s
  | 0, i, s, hk, hi, hst, hS, hR => by
    have hin : i = n := by omega
    subst hin
    refine codeAny_builtin PyProof.Rows.F.entry_set_update_loop ?_
    rw [Around.under_plainId PyProof.Rows.F.plain_set_update_loop _]
    show wpAny _ A.in1 (pyNext (.ref I) >>= _) _ _ s
    refine wpAny_bind (W.done s _ _ hst fun s' hm => ?_)
    show wpAny _ A.in1 (ret Value.none) _ _ s'
    refine wpAny_pure (hR s' (hm.mono fun b hb => List.mem_cons_of_mem _ hb) ?_)
    obtain ⟨o, es, ep, t, ho, rest⟩ := hS
    exact ⟨o, es, ep, t, hm.heap S _ (fun q => hSf (W.sub _ q)) ho, rest⟩
  | k + 1, i, s, hk, hi, hst, hS, hR => by
    have hlt : i < n := by omega
    have hSw : S ∉ wr := fun q => hSf (W.sub _ q)
    refine codeAny_builtin PyProof.Rows.F.entry_set_update_loop ?_
    rw [Around.under_plainId PyProof.Rows.F.plain_set_update_loop _]
    show wpAny _ A.in1 (pyNext (.ref I) >>= _) _ _ s
    refine wpAny_bind (W.item i s _ _ hlt hst fun v s' hP hst' hm => ?_)
    obtain ⟨c, t, hc, rfl⟩ := hval i v hP
    have hS' : s'.heap.SetOf (PySem.strKind prog w) S (has z i) (cntA z i) := by
      obtain ⟨o, es, ep, tb, ho, rest⟩ := hS
      exact ⟨o, es, ep, tb, hm.heap S _ hSw ho, rest⟩
    show wpAny _ A.in1 (holding [Value.str ⟨#[c]⟩ t] (setAdd S (.str ⟨#[c]⟩ t)) >>= _) _ _ s'
    refine wpAny_bind (wpAny_holding ?_)
    unfold setAdd
    refine wpAny_holding ?_
    refine wpAny_bind ((PySem.strKind prog w).pyHash (k := (⟨#[c]⟩ : Str)) (strKind_is _ _ _ _) ?_)
    refine wpAny_setAddHashed_of (knd := PySem.strKind prog w) (s := { s' with toks := s'.toks + 1 }) (strKind_is _ _ _ _) rfl hS' (by have := cntA_le z i; unfold scanBound; omega) fun h' hsb hS2 => ?_
    have hSi : h'.SetOf (PySem.strKind prog w) S (has z (i + 1)) (cntA z (i + 1)) := SetOf_congr hS2 (fun k' => has_step hc k') (has_cnt hc)
    refine wpAny_pure ⟨plainId_quiet PyProof.Rows.F.plain_set_update_loop _, loopTx W S hSf z hn hval k (i + 1) _ (by omega) hlt (W.frame _ s' _ _ hst' (Nat.le_succ _) fun b hb o e => ?_) hSi fun s'' hm'' hS'' => ?_⟩
    · rw [hsb.2 b (fun h : b = S => hSf (by rw [← h]; exact hb))]; exact e
    · refine hR s'' (Moved.trans W.gtrans ((hm.mono fun b hb => List.mem_cons_of_mem _ hb).then_heap (Nat.le_succ _) fun b o hb e => ?_) hm'') hS''
      rw [hsb.2 b (fun h : b = S => hb (by rw [h]; exact List.mem_cons_self))]; exact e
end
section
variable {prog : Program} {w : World} {A : Around} {E : Value → Shared → Prop} {s : Shared}
theorem call_set_txt {z : List Nat} {t : Tok} {Q : Value → Shared → Prop} (hh : A.handled = none) (hz : z.length < 4000)
    (h : ∀ (h' : Heap) (tk : Nat), h'.SetOf (PySem.strKind prog w) s.heap.objs.size (has z z.length) (cntA z z.length) → (∀ b o, b < s.heap.objs.size → s.heap.get? b = some o → h'.get? b = some o) → Q (.ref s.heap.objs.size) { s with heap := h', toks := tk }) :
    wpAny (model prog w) A (call (.type "set") [.str ⟨z.toArray⟩ t]) Q E s := by
  obtain ⟨c, tl, hmro⟩ := PySem.F.called_set.mro
  have hmade := PySem.F.called_set.made
  have hsub := PySem.F.called_set.sub
  refine wpAny_call (codeAny_of_tree ?_)
  show wpAny _ _ (callAny (.type "set") _) _ _ _
  refine wpAny_pure ⟨Code.quiet_builtin _ (by decide +kernel), codeAny_builtin PySem.F.entry_type_call ?_⟩
  rw [Around.under_plain (weight_type_call_type "set" [.str ⟨z.toArray⟩ t] []) rfl]
  have h1 := PySem.F.called_set.notType
  have h2 := PySem.F.called_set.canCreate
  have hct := PySem.F.typeCall_set_1 (.str ⟨z.toArray⟩ t)
  repeat (any_goals (first | assumption | wp_step))
  refine codeAny_mono (code_set_new_1 (.str ⟨z.toArray⟩ t) (E := E) (Q₁ := fun obj s₁ => ∃ led : Bool, obj = .ref s.heap.objs.size ∧ s₁ = { s with heap := s.heap.push { cls := .type "set", dict := none, data := .set #[] 0 (.fresh 0 0 led) } }) fun led => ⟨led, rfl, rfl⟩) fun r s₁ hr => ?_
  cases r with
  | error e => exact hr
  | ok fl =>
    cases fl with
    | ret obj =>
      obtain ⟨led, rfl, rfl⟩ := hr
      have hS : (s.heap.push { cls := .type "set", dict := none, data := .set #[] 0 (.fresh 0 0 led) }).get? s.heap.objs.size = some { cls := .type "set", dict := none, data := .set #[] 0 (.fresh 0 0 led) } := Heap.get?_push_size _ rfl
      have hT : Shared.TypeIs { s with heap := s.heap.push { cls := .type "set", dict := none, data := .set #[] 0 (.fresh 0 0 led) } } (.ref s.heap.objs.size) "set" := ⟨_, hS, rfl⟩
      have hli := PySem.F.called_set.init.lookup
      have hbi := PySem.F.called_set.init.bind (.ref s.heap.objs.size)
      repeat (any_goals (first | assumption | wp_step))
      refine codeAny_mono (codeAny_call_builtin (R := wants (fun r s₂ => r = .none ∧ ∃ h' tk, s₂ = { s with heap := h', toks := tk } ∧ h'.SetOf (PySem.strKind prog w) s.heap.objs.size (has z z.length) (cntA z z.length) ∧ (∀ b o, b < s.heap.objs.size → s.heap.get? b = some o → h'.get? b = some o)) E) PySem.F.called_set.init.plain PySem.F.entry_set_init (check_set_init_1 hT ?_)) fun r₂ s₂ hr₂ => ?_
      · have hsls := PySem.F.sub_str_set
        have hslf := PySem.F.sub_str_frozenset
        have hne : (Value.type "str" == Value.type "dict") = false := by decide
        unfold Builtin.«set.__init__» noKeywords Builtin.Frozenset.updateFrom
        generalize hPI : pyIter = PI
        wp_walk
        subst hPI
        refine wpAny_pyIter_str fun o St W hst => ?_
        refine wpAny_bind (wpAny_runValue ?_)
        have hh3 : A.in1.in1.in1.handled = none := by simp [hh]
        have hSf : s.heap.objs.size ∉ [(s.heap.push { cls := .type "set", dict := none, data := .set #[] 0 (.fresh 0 0 led) }).objs.size] := by
          rw [Heap.size_push]; simp only [List.mem_singleton]
          exact Nat.ne_of_lt (Nat.lt_succ_self _)
        have esz : (⟨z.toArray⟩ : Str).cps.size = z.length := by simp
        refine loopTx ((W _ hh3).toS) s.heap.objs.size hSf z (by rw [esz]; exact hz) (fun i v hv => ?_) ((⟨z.toArray⟩ : Str).cps.size - 0) 0 _ (by omega) (Nat.zero_le _) hst ?hS0 ?hR
        case hS0 =>
          have hget : ((s.heap.push { cls := .type "set", dict := none, data := .set #[] 0 (.fresh 0 0 led) }).push o).get? s.heap.objs.size = some { cls := .type "set", dict := none, data := .set #[] 0 (.fresh 0 0 led) } := Heap.get?_push_of_some _ hS
          exact PyProof.Rows.SetOf_congr ((PyProof.Rows.setObjOf_fresh (knd := PySem.strKind prog w) led).setOf hget (by unfold scanBound; omega)) (fun _ => rfl) rfl
        case hR =>
          intro s' hm hS'
          obtain ⟨h', g', d', tk', os'⟩ := s'
          have eg : g' = s.gens := hm.gens
          have ed : d' = s.drawn := hm.drawn
          have eo : os' = s.os := hm.os
          subst eg; subst ed; subst eo
          show wpAny _ _ _ _ _ _
          refine wpAny_pure ?_
          show wpAny _ _ (ret Value.none) _ _ _
          rw [esz] at hS'
          refine wpAny_pure ⟨rfl, h', tk', rfl, hS', fun b o hb e => ?_⟩
          have hb1 : b ≠ s.heap.objs.size := Nat.ne_of_lt hb
          have hb2 : b ≠ (s.heap.push { cls := .type "set", dict := none, data := .set #[] 0 (.fresh 0 0 led) }).objs.size := by
            rw [Heap.size_push]; exact Nat.ne_of_lt (Nat.lt_succ_of_lt hb)
          exact hm.heap b o (by simp only [List.mem_cons, List.mem_singleton, List.not_mem_nil, or_false, not_or]; exact ⟨hb1, hb2⟩) (Heap.get?_push_of_some _ (Heap.get?_push_of_some _ e))
        obtain ⟨c2, u, hc2, rfl⟩ := hv
        exact ⟨c2, u, by simpa using hc2, rfl⟩
      · cases r₂ with
        | error e => exact hr₂
        | ok fl₂ =>
          cases fl₂ with
          | ret r =>
            obtain ⟨rfl, h', tk, rfl, hS', hk'⟩ := hr₂
            repeat (any_goals (first | assumption | wp_step))
            exact h _ _ hS' hk'
          | _ => exact hr₂.elim
    | _ => exact hr.elim
end
section
variable {X : Cx}
def tLenTx (ta : TE) : TE := fun σ H Q => ta σ H fun x H1 => ∃ z : List Nat, x = .str ⟨z.toArray⟩ ∧ z.length < 4000 ∧ Q (.int (cntA z z.length)) H1
theorem pe_lenTx {a : Expr} {ta : TE} {p p2 q pos : Pos} (hc : X.calm = true) (hg : Gl X "len") (hm : X.mg "len" = none) (hg2 : Gl X "set") (hm2 : X.mg "set" = none) (ha : PE X a ta)
    (na : starEach [a] X.env = (false, eval a X.env) :: starEach [] X.env := by rfl) : PE X (.Call (.Name "len" p) [.Call (.Name "set" p2) [a] [] q] [] pos) (tLenTx ta) := by
  refine ⟨fun pins s σ H Q I h => ?_⟩
  refine Call_ (ld_blt I hg hm boot_len ?_)
  refine PyProof.Rows.callWith_builtin1 (PyProof.Rows.args_cons ?_ rfl) rfl rfl
  refine Call_ (ld_blt I hg2 hm2 boot_set ?_)
  refine PyProof.Rows.callWith_type1 (PyProof.Rows.args_cons (thn (ha.run pins s σ H _ I h) fun v s1 ⟨x, H1, I1, r1, q1⟩ => PyProof.Rows.args_nil ?_) na) na rfl
  obtain ⟨z, rfl, hz, q1⟩ := q1
  obtain ⟨t, rfl⟩ := r1
  refine call_set_txt (I1.ok.hd hc) hz fun h' tk hS hk => ?_
  refine PyProof.Rows.args_nil ?_
  obtain ⟨o, es, ep, t2, ho, hex, hd, _, _, _, hf, hn⟩ := hS
  have I2 : Inv X pins σ H1 { s1 with heap := h', toks := tk } := I1.kept fun b o e => hk b o (Heap.lt_size e) e
  refine call_len_set ho hex hd hf (by have := cntA_le z z.length; rw [hn]; have e : (2 : Int) ^ 63 = 9223372036854775808 := rfl; omega) ⟨.int (cntA z z.length), H1, I2.tok _, ⟨_, by rw [hn]⟩, q1⟩
end
end SX
namespace VL
open PySem PySem.Spec PyProof.Rows L2
def eLenTx (m : ME) : ME := fun s => (m s).bind fun d s => match d with
  | .str z => if z.length < 4000 then .ok (.int (SX.cntA z z.length), s) else .no
  | _ => .no
theorem ve_lenTx {X : Cx} {B : Bs} {W : WX} {a : Expr} {ta : TE} {m : ME} {p p2 q pos : Pos} (hc : X.calm = true) (hg : Gl X "len") (hm : X.mg "len" = none) (hg2 : Gl X "set") (hm2 : X.mg "set" = none) (ha : VE X B W a ta m)
    (na : starEach [a] X.env = (false, eval a X.env) :: starEach [] X.env := by rfl) : VE X B W (.Call (.Name "len" p) [.Call (.Name "set" p2) [a] [] q] [] pos) (SX.tLenTx ta) (eLenTx m) :=
  ⟨SX.pe_lenTx hc hg hm hg2 hm2 ha.pe na, fun s th G σ H Q R Pq => ha.sem s th G σ H _ R (Pq.bind fun d s1 th1 G1 H1 v l1 R1 r1 P1 => by
    cases d with
    | str z =>
      cases r1
      dsimp only at P1
      by_cases hz : z.length < 4000
      · rw [if_pos hz] at P1
        exact ⟨z, rfl, hz, P1 th1 G1 H1 _ (Le.refl _ _ _) R1 rfl⟩
      · rw [if_neg hz] at P1
        exact P1.elim
    | _ => exact P1.elim)⟩
end VL
/-! s[::-1] of a text; xs * n as an own list -/
namespace TR
open PySem PySem.Spec PyProof.Rows L2 Builtin Builtin.Str
theorem idx_back (n : Nat) : strSliceIndices none none (-1) n = (List.range n).reverse := by
  rw [← PySem.W.krv_range, ← PySem.W.krv_sliceRange]
  rfl
theorem made_back (z : List Nat) (t u : Tok) : sliceMade ⟨z.toArray⟩ t none none (some (-1, u)) = .str ⟨z.reverse.toArray⟩ := by
  have e : slicePicked ⟨z.toArray⟩ none none (some (-1, u)) = (List.range z.length).reverse := by
    show strSliceIndices none none (-1) (⟨z.toArray⟩ : Str).length = _
    rw [idx_back, VL.str_len]
  unfold sliceMade
  have h1 : ((((some ((-1 : Int), u)).map (·.1)).getD 1 == 1 && (slicePicked ⟨z.toArray⟩ none none (some (-1, u))).length == (⟨z.toArray⟩ : Str).length) = true) = False := by
    simp
  rw [if_neg (by rw [h1]; exact id), e]
  congr 2
  rw [List.filterMap_reverse]
  have := PySem.W.krv_all z.toArray
  simp only [List.size_toArray] at this
  rw [this]
section
variable {X : Cx}
def tBackS (te : TE) : TE := fun σ H Q => te σ H fun x H1 => ∃ z : List Nat, x = .str ⟨z.toArray⟩ ∧ z.length ≤ 1000000 ∧ Q (.str ⟨z.reverse.toArray⟩) H1
theorem pe_backS {e : Expr} {te : TE} {k : Nat} {p1 p2 p3 pos : Pos} (he : PE X e te) : PE X (.Subscript e (.Slice none none (some (.UnaryOp .USub (.Constant (.int 1) k p1) p2)) p3) pos) (tBackS te) := by
  refine ⟨fun pins s σ H Q I h => Subscript_ (thn (he.run pins s σ H _ I h) fun v s1 ⟨x, H1, I1, r1, z, ex, hz, q1⟩ => ?_)⟩
  subst ex
  obtain ⟨t, rfl⟩ := r1
  have minus : PO X (some (.UnaryOp .USub (.Constant (.int 1) k p1) p2)) (tPart (tUn (rU fun i => .int (-i)) (tC (.int 1)))) := po_some (pe_un un_neg pe_int)
  refine wpAny_Slice (thn (po_none.run pins s1 σ H1 (fun o Hx => o = none ∧ Hx = H1) I1 ⟨rfl, rfl⟩) fun vl s2 ⟨l, H2, I2, pl, el, e2⟩ => ?_)
  subst el e2
  refine thn (po_none.run pins s2 σ H2 (fun o Hx => o = none ∧ Hx = H2) I2 ⟨rfl, rfl⟩) fun vu s3 ⟨u, H3, I3, pu, eu, e3⟩ => ?_
  subst eu e3
  refine thn (minus.run pins s3 σ H3 (fun o Hx => o = some (-1) ∧ Hx = H3) I3 ⟨1, rfl, -1, rfl, rfl, rfl⟩) fun vs s4 ⟨o, H4, I4, ps, eo, e4⟩ => ?_
  subst eo e4
  have I5 : Inv X pins σ H4 { s4 with heap := s4.heap.push { cls := .type "slice", data := .fields #[vl, vu, vs] } } := I4.kept (t' := s4.toks) fun b ob q => Heap.get?_push_of_some _ q
  show wpAny (model X.prog X.w) X.A (subscriptTail e (.Slice none none (some (.UnaryOp .USub (.Constant (.int 1) k p1) p2)) p3) (.str ⟨z.toArray⟩ t) (.ref s4.heap.objs.size)) (EP X pins σ Q) X.xe _
  have e0 : vl = .none := by cases pl; rfl
  have e1 : vu = .none := by cases pu; rfl
  obtain ⟨tk, e2⟩ : ∃ tk, vs = .int (-1) tk := by cases ps; exact ⟨_, rfl⟩
  subst e0 e1 e2
  refine tail_any (ops := [.str ⟨z.toArray⟩ t, .ref s4.heap.objs.size]) (typeIs_str _ _ t) PyProof.Rows.slot_str_getitem.lookup ?_ (by with_unfolding_all rfl)
  refine wpAny_getItem_str_slice (l := none) (u := none) (st := some (-1, tk)) ⟨_, Heap.get?_push_size _ rfl, rfl, rfl⟩ rfl ?_
  rw [made_back]
  refine ⟨?_, ⟨.str ⟨z.reverse.toArray⟩, H4, I5.tok _, ⟨_, rfl⟩, q1⟩⟩
  rw [VL.str_len, sizeLine_eq, List.length_reverse]
  omega
end
end TR
namespace VL
open PySem PySem.Spec PyProof.Rows L2
def eBackS (m : ME) : ME := fun s => (m s).bind fun d s => match d with
  | .str z => if z.length ≤ 1000000 then .ok (.str z.reverse, s) else .no
  | _ => .no
def fMulL (ma mb : ME) : MF := fun s => (ma s).bind fun x s => (mb s).bind fun y s => match y with
  | .int n => match lstOf s x with
    | some l => if 0 ≤ n ∧ n ≤ 1000000 ∧ l.length * n.toNat ≤ 1000000 then .ok (.lst (List.replicate n.toNat l).flatten, s) else .no
    | none => .no
  | _ => .no
section
variable {X : Cx} {B : Bs} {W : WX} {pos : Pos}
theorem ve_backS {e : Expr} {te : TE} {m : ME} {k : Nat} {p1 p2 p3 : Pos} (h : VE X B W e te m) : VE X B W (.Subscript e (.Slice none none (some (.UnaryOp .USub (.Constant (.int 1) k p1) p2)) p3) pos) (TR.tBackS te) (eBackS m) :=
  ⟨TR.pe_backS h.pe, fun s th G σ H Q R Pq => h.sem s th G σ H _ R (Pq.bind fun d s1 th1 G1 H1 v l1 R1 r1 P1 => by
    cases d with
    | str z =>
      cases r1
      dsimp only at P1
      by_cases hz : z.length ≤ 1000000
      · rw [if_pos hz] at P1
        exact ⟨z, rfl, hz, P1 th1 G1 H1 _ (Le.refl _ _ _) R1 rfl⟩
      · rw [if_neg hz] at P1
        exact P1.elim
    | _ => exact P1.elim)⟩
theorem vf_mulL {a b : Expr} {ta tb : TE} {ma mb : ME} (ha : VE X B W a ta ma) (hb : VE X B W b tb mb) : VF X B W (.BinOp a .Mult b pos) (tOp rRep ta tb) (fMulL ma mb) :=
  ⟨pe_op op_rep ha.pe hb.pe, fun s th G σ H Q R P => ha.sem s th G σ H _ R (P.bind fun x s1 th1 G1 H1 vx l1 R1 rx P1 => hb.sem s1 th1 G1 σ H1 _ R1 (P1.bind fun y s2 th2 G2 H2 vy l2 R2 ry P2 => by
    cases y with
    | int n =>
      cases ry
      dsimp only at P2
      cases e : lstOf s2 x with
      | none => rw [e] at P2; exact P2.elim
      | some l =>
        rw [e] at P2
        dsimp only at P2
        split at P2
        · rename_i hz
          obtain ⟨p, vs, h1, h2, h3⟩ := R2.lst_of (At.mono l2.pre l2.ex rx) e
          exact ⟨p, n, vs, h1, rfl, h2, by have e63 : (2 : Int) ^ 63 = 9223372036854775808 := rfl
                                           rw [e63]; omega, by have e63 : (2 : Int) ^ 63 = 9223372036854775808 := rfl
                                                               rw [e63]; omega, by rw [h3.length, sizeLine_eq]; omega, fun t ht => post_f R2 P2 (h3.rep _) ht⟩
        · exact P2.elim
    | _ => exact P2.elim))⟩
end
end VL
/-! tuple * 1, sum of a tuple, min of a list, -x, name += -/
namespace L2
open PySem PySem.Spec PyProof.Rows
theorem tuple_mulW1 (l : Addr) (items : Array Value) (n : Nat) (dd : Option Addr) (sl : Array (Option Value)) (u : Tok) :
    Meets (Builtin.«tuple.__mul__» ⟨[.ref l, .int 1 u], []⟩) (fun _ R s => s.heap.get? l = some { cls := .type "tuple", dict := dd, data := .seq items n, slots := sl } ∧ R (.ok (.ret (Value.ref l))) s) :=
  .of_wp fun prog w A R s h => by
    obtain ⟨hp, g, d, tk, os⟩ := s
    obtain ⟨hl, h⟩ := h
    have f1 := AutoSeq1.idx_int
    have c1 : (items.isEmpty || (1 : Int) == 1) = true := by simp
    wp_walk using wpAny_loadPart' hl
    all_goals first
      | exact ⟨_, rfl, h⟩
      | (refine wpAny_ite_true (decide_eq_true (by rw [c1])) ?_; wp_walk using wpAny_loadPart' hl; exact ⟨_, rfl, h⟩)
      | skip
def rRepT1 (K : PySem.W.Frag) : R2 := fun x y H Q => ∃ l xs, x = .ref l ∧ y = .int 1 ∧ SqT K H l xs ∧ Q (.ref l) H
section
variable {X : Cx}
theorem op_repT1 : OpR X (binaryOp .Mult) (rRepT1 X.K) := by
  intro pins s σ H x y v u Q I rx ry h
  obtain ⟨l, xs, rfl, rfl, hT, q⟩ := h
  cases rx
  obtain ⟨t, rfl⟩ := ry
  obtain ⟨its, r, ⟨⟨cls, dd, data, sl⟩, ho, hc, n, hd⟩, hs⟩ := I.tuple hT
  simp only at hc hd
  subst hc hd
  refine wpAny_binaryOp_repeat_ref (T := "tuple") (U := "int") (by decide) ⟨_, ho, rfl⟩ (fun s' => typeIs_int s' 1 t) noFill_tuple_mul F.fills_int_mul F.slot_int_rmul repeat_tuple F.slot_int_index.lookup
    (call_meets F.slot_int_rmul (typeIs_int s 1 t) F.entry_int_rmul (F.args_int_rmul_2 _ _) (int_rmul_tuple 1 t l its.toArray n dd sl)
      ⟨ho, rfl, ⟨_, ho, rfl⟩, call_meets F.slot_tuple_mul ⟨_, ho, rfl⟩ F.entry_tuple_mul (F.args_tuple_mul_2 _ _) (tuple_mulW1 l its.toArray n dd sl t) ⟨ho, ?_⟩⟩)
  exact ⟨.ref l, H, I, rfl, q⟩
/-- sum(t) of a tuple of ints -/
def rSumT (K : PySem.W.Frag) : List V → Hp → VK → Prop := fun vs H Q => ∃ (a : Addr) (ns : List Int), vs = [V.ref a] ∧ SqT K H a (ns.map V.int) ∧ Q (.int ns.sum) H
theorem ints_at : ∀ {ns : List Int} {its : List Value}, Vals (ns.map V.int) its → ∀ (i : Nat) (v : Value), its[i]? = some v → i < ns.length ∧ ∃ t, v = .int (ns.getD i 0) t
  | [], _, .nil, i, v, h => by simp at h
  | n :: ns, _, .cons r rs, 0, v, h => by
    simp at h
    subst h
    obtain ⟨t, rfl⟩ := r
    exact ⟨by simp, t, rfl⟩
  | n :: ns, _, .cons r rs, i + 1, v, h => by
    obtain ⟨h1, t, h2⟩ := ints_at rs i v (by simpa using h)
    exact ⟨by simpa using h1, t, by rw [h2]; simp⟩
theorem preSum_ints (ns : List Int) : ∀ n, n ≤ ns.length → preSum (fun i => ns.getD i 0) n = (ns.take n).sum
  | 0, _ => by simp [preSum]
  | n + 1, h => by
    have hn : n < ns.length := by omega
    have e1 : ns.take (n + 1) = ns.take n ++ [ns[n]] := by rw [List.take_add_one, List.getElem?_eq_getElem hn]; rfl
    have e2 : ns.getD n 0 = ns[n] := by rw [List.getD_eq_getElem?_getD, List.getElem?_eq_getElem hn]; rfl
    show preSum (fun i => ns.getD i 0) n + ns.getD n 0 = _
    rw [preSum_ints ns n (by omega), e1, List.sum_append, e2, List.sum_cons, List.sum_nil, Int.add_zero]
theorem cr_sumT (hc : X.calm = true) : CallR X (.builtin "sum") (rSumT X.K) := by
  intro pins s σ H vs us Q I r h
  obtain ⟨a, ns, rfl, hs, q⟩ := h
  obtain ⟨its, rv, pl, _⟩ := I.tuple hs
  rw [Vals.ref1 r]
  have hlen : its.toArray.size = ns.length := by rw [List.size_toArray, ← rv.length, List.length_map]
  refine PySem.call_sum_walkG (wpAny_pyIter_tuple pl ?_)
  have hlt : a < s.heap.objs.size := by obtain ⟨o, ho, _⟩ := id pl; exact Heap.lt_size ho
  have hh1 : X.A.in1.handled = none := I.ok.hd hc
  refine ⟨_, _, _, _, _, _, fun i => ns.getD i 0, rfl, Walks.tuple hh1 s.heap.objs.size a (Nat.ne_of_lt hlt) its.toArray, ⟨⟨_, Heap.get?_push_size _ rfl, rfl, rfl⟩, (show s.heap.IsTuple a its.toArray from pl).push _⟩, fun b hb => ?_, fun i v hv => ?_, fun h' tk t' hk => ?_⟩
  · rw [Heap.size_push]
    rcases (show b = s.heap.objs.size ∨ b = a by simpa using hb) with z | z
    · rw [z]; exact Nat.lt_succ_self _
    · rw [z]; exact Nat.lt_succ_of_lt hlt
  · exact (ints_at rv i v (by simpa using hv)).2
  · rw [hlen, preSum_ints ns _ (Nat.le_refl _), List.take_length]
    exact ⟨.int ns.sum, H, I.kept (t' := tk) fun b o e => hk b o (fun hb => by
      have : b = s.heap.objs.size := by simpa using hb
      rw [this] at e
      exact Nat.lt_irrefl _ (Heap.lt_size e)) (Heap.get?_push_of_some _ e), ⟨_, rfl⟩, q⟩
end
end L2
namespace VL
open PySem PySem.Spec PyProof.Rows L2
section
variable {X : Cx} {B : Bs} {W : WX} {pos : Pos} {a b : Expr} {ta tb : TE} {ma mb : ME} {K : PySem.W.Frag}
/-! ### times, for tuples any number from 1 -/
def rMulB (K : PySem.W.Frag) : R2 := fun x y H Q => rMulA K x y H Q ∨ rRepT1 K x y H Q
def fMulB : D → D → S → R (D × S) := fun x y s => match x with
  | .tup l => match y with
    | .int n => if n = 1 then .ok (.tup l, s) else fMulA (.tup l) (.int n) s
    | y => fMulA (.tup l) y s
  | x => fMulA x y s
theorem semR_mulB : SemR K B W (rMulB K) fMulB := fun s th G σ H Q x y vx vy R rx ry P => by
  cases x with
  | tup l =>
    cases y with
    | int n =>
      simp only [fMulB] at P
      by_cases h : n = 1
      · rw [if_pos h] at P
        subst h
        cases ry
        obtain ⟨p, vs, rfl, q, r⟩ := id rx
        exact .inr ⟨p, vs, rfl, rfl, R.eG.sqT q.sq, Post.ok (rel := relE K) P R rx⟩
      · rw [if_neg h] at P
        exact .inl (semR_mulA s th G σ H Q _ _ _ _ R rx ry P)
    | _ => exact .inl (semR_mulA s th G σ H Q _ _ _ _ R rx ry P)
  | _ => exact .inl (semR_mulA s th G σ H Q _ _ _ _ R rx ry P)
theorem ve_mulB (ha : VE X B W a ta ma) (hb : VE X B W b tb mb) : VE X B W (.BinOp a .Mult b pos) (tOp (rMulB X.K) ta tb) (eOp fMulB ma mb) := ⟨pe_op (op_mulA.or op_repT1) ha.pe hb.pe, sem_op semR_mulB ha.sem hb.sem⟩
/-! ### sum of a tuple -/
def gSumT : S → D → Option D := fun _ d => match d with
  | .tup l => (intsD l).map fun ns => .int ns.sum
  | _ => none
theorem semC_sumT : SemC K B W (rSumT K) (c1 gSumT) := semC_1 fun s th G σ H Q d v z R h e P => by
  cases d with
  | tup l =>
    simp only [gSumT] at e
    cases e2 : intsD l with
    | none => rw [e2] at e; cases e
    | some ns =>
      rw [e2] at e
      simp at e
      subst e
      obtain ⟨p, vs, rfl, q, r⟩ := h
      rw [intsD_eq e2] at r
      rw [r.ints] at q
      exact ⟨p, ns, rfl, R.eG.sqT q.sq, Post.ok (rel := relE K) P R rfl⟩
  | _ => cases e
/-! ### min of a list -/
def minL : List Int → Int
  | [] => 0
  | [a] => a
  | a :: b :: l => if minL (b :: l) < a then minL (b :: l) else a
theorem minL_spec : ∀ {l : List Int}, l ≠ [] → minL l ∈ l ∧ ∀ y ∈ l, minL l ≤ y
  | [a], _ => ⟨by simp [minL], fun y hy => by simp at hy; rw [hy]; simp [minL]⟩
  | a :: b :: l, _ => by
    obtain ⟨h1, h2⟩ := minL_spec (l := b :: l) (by simp)
    unfold minL
    split
    · rename_i h
      exact ⟨List.mem_cons_of_mem _ h1, fun y hy => by
        rcases List.mem_cons.mp hy with rfl | hy
        · omega
        · exact h2 y hy⟩
    · rename_i h
      exact ⟨by simp, fun y hy => by
        rcases List.mem_cons.mp hy with rfl | hy
        · omega
        · have := h2 y hy; omega⟩
def gMinL : S → D → Option D := fun s d => match lstOf s d with
  | some l => match intsD l with
    | some (n :: ns) => some (.int (minL (n :: ns)))
    | _ => none
  | none => none
theorem semC_minL : SemC K B W (rMin K) (c1 gMinL) := semC_1 fun s th G σ H Q d v z R h e P => by
  simp only [gMinL] at e
  cases e1 : lstOf s d with
  | none => rw [e1] at e; cases e
  | some l =>
    rw [e1] at e
    simp only at e
    cases e2 : intsD l with
    | none => rw [e2] at e; cases e
    | some ns =>
      rw [e2] at e
      cases ns with
      | nil => cases e
      | cons n ns =>
        cases e
        obtain ⟨p, vs, rfl, q, r⟩ := R.lst_of h e1
        rw [intsD_eq e2] at r
        rw [r.ints] at q
        refine ⟨p, n :: ns, rfl, SqL.of q, by simp, fun m h1 h2 => ?_⟩
        obtain ⟨h3, h4⟩ := minL_spec (l := n :: ns) (by simp)
        have h5 : m = minL (n :: ns) := Int.le_antisymm (h2 _ h3) (h4 _ h1)
        rw [h5]
        exact Post.ok (rel := relE K) P R rfl
/-! ### -x -/
def eNeg (m : ME) : ME := fun s => (m s).bind fun d s => match d with
  | .int i => .ok (.int (-i), s)
  | _ => .no
theorem ve_neg (ha : VE X B W a ta ma) : VE X B W (.UnaryOp .USub a pos) (tUn (rU fun i => .int (-i)) ta) (eNeg ma) :=
  ⟨pe_un un_neg ha.pe, fun s th G σ H Q R Pq => ha.sem s th G σ H _ R (Pq.bind fun d s1 th1 G1 H1 v l1 R1 r1 P1 => by
    cases d with
    | int i => cases r1; exact ⟨i, rfl, P1 th1 G1 H1 _ (Le.refl _ _ _) R1 rfl⟩
    | _ => exact P1.elim)⟩
end
end VL
/-! own lists lent to a def that takes data and gives data -/
namespace VL
open PySem PySem.Spec PyProof.Rows L2
mutual
/-- no list, no dict, no script, no place in it -/
def noLst : D → Bool
  | .non => true
  | .bl _ => true
  | .int _ => true
  | .str _ => true
  | .tup l => noLsts l
  | _ => false
def noLsts : List D → Bool
  | [] => true
  | d :: l => noLst d && noLsts l
end
def eCallL (f : List D → PR) (a : MA) : ME := fun s => (a s).bind fun ds s => if noLocs (ds.map (peek s)) = true then match f (ds.map (peek s)) with
    | .ok d => if noLst d = true then .ok (d, s) else .no
    | _ => .no
  else .no
section
variable {K : PySem.W.Frag} {B : Bs} {th th' : List Addr} {G G' H H' : Hp} {s : S} {σ : L2.St}
/-- the addresses of the lists lent -/
def Lent (s : S) (th : List Addr) (ds : List D) (a : Addr) : Prop := ∃ n l, s.m[n]? = some (.lst l) ∧ th[n]? = some a ∧ D.loc n ∈ ds
open Classical in
noncomputable def lendG (s : S) (th : List Addr) (ds : List D) (G H : Hp) : Hp := fun a => if G a = none ∧ Lent s th ds a then H a else G a
open Classical in
noncomputable def backG (s : S) (th : List Addr) (ds : List D) (G G2 : Hp) : Hp := fun a => if G a = none ∧ Lent s th ds a then none else G2 a
theorem Lent.at {ds : List D} {a : Addr} (R : Rep K B th G s σ H) (h : Lent s th ds a) : a ∈ th ∧ G a = none ∧ ∃ vs, H a = some (.lst vs) := by
  obtain ⟨n, l, h1, h2, _⟩ := h
  obtain ⟨g, vs, q, _⟩ := R.st n _ a h1 h2
  exact ⟨List.mem_of_getElem? h2, g, vs, q⟩
theorem sub_lend {ds : List D} : Sub G (lendG s th ds G H) := fun a o e => by
  unfold lendG
  rw [if_neg fun z => by rw [e] at z; cases z.1]
  exact e
theorem sub_back {ds : List D} {G2 : Hp} (h : Sub (lendG s th ds G H) G2) : Sub G (backG s th ds G G2) := fun a o e => by
  unfold backG
  rw [if_neg fun z => by rw [e] at z; cases z.1]
  exact h a o (sub_lend a o e)
theorem lend_at {ds : List D} {a : Addr} (R : Rep K B th G s σ H) (h : Lent s th ds a) : lendG s th ds G H a = H a := by
  unfold lendG
  rw [if_pos ⟨(h.at R).2.1, h⟩]
theorem lend_no {ds : List D} {a : Addr} (h : ¬ Lent s th ds a) : lendG s th ds G H a = G a := by
  unfold lendG
  rw [if_neg fun z => h z.2]
theorem peek_at (R : Rep K B th G s σ H) {ds0 : List D} : ∀ {ds : List D} {vs : List V}, (∀ d ∈ ds, d ∈ ds0) → AtL K th G ds vs → noLocs (ds.map (peek s)) = true → AtL K [] (lendG s th ds0 G H) (ds.map (peek s)) vs
  | [], _, _, h, _ => h
  | d :: ds, vs, hm, h, hn => by
    obtain ⟨v, r, rfl, h1, h2⟩ := h
    simp only [List.map_cons, noLocs, Bool.and_eq_true] at hn
    refine ⟨v, r, rfl, ?_, peek_at R (fun d hd => hm d (by simp [hd])) h2 hn.2⟩
    have plain : peek s d = d → At K [] (lendG s th ds0 G H) (peek s d) v := fun e => by
      have hn1 := hn.1
      rw [e] at hn1 ⊢
      exact At.bare hn1 (h1.mono List.prefix_rfl sub_lend)
    cases d with
    | loc n =>
      have hn1 := hn.1
      cases hs : s.m[n]? with
      | none =>
        have e : peek s (.loc n) = .loc n := by simp [peek, hs]
        rw [e] at hn1; cases hn1
      | some ob =>
        cases ob with
        | lst l =>
          have e : peek s (.loc n) = .lst l := by simp [peek, hs]
          rw [e] at hn1 ⊢
          obtain ⟨a, ha, rfl⟩ := h1
          obtain ⟨g, ws, q, rl⟩ := R.st n _ a hs ha
          have hL : Lent s th ds0 a := ⟨n, l, hs, ha, hm _ (by simp)⟩
          refine ⟨a, ws, rfl, by rw [lend_at R hL]; exact q, AtL.bare (by simpa [noLoc] using hn1) (rl.mono List.prefix_rfl sub_lend)⟩
        | _ =>
          have e : peek s (.loc n) = .loc n := by simp [peek, hs]
          rw [e] at hn1; cases hn1
    | _ => exact plain rfl
mutual
theorem At.unlend {ds : List D} {G2 : Hp} (hl : ∀ a, G a = none → Lent s th ds a → ∃ vs, G2 a = some (.lst vs)) : ∀ {d : D} {v : V}, noLst d = true → At K [] G2 d v → At K [] (backG s th ds G G2) d v
  | .non, _, _, h => h
  | .bl _, _, _, h => h
  | .int _, _, _, h => h
  | .str _, _, _, h => h
  | .tup l, _, n, h => by
    obtain ⟨a, vs, e1, q, r⟩ := h
    refine ⟨a, vs, e1, ?_, AtL.unlend hl n r⟩
    have keep : ∀ u, G2 a = some u → (∀ ws, u ≠ .lst ws) → backG s th ds G G2 a = some u := fun u e k => by
      unfold backG
      rw [if_neg fun z => by
        obtain ⟨ws, q2⟩ := hl a z.1 z.2
        rw [e] at q2
        exact k ws (Option.some.inj q2)]
      exact e
    refine ⟨?_, fun z => ?_⟩
    · rcases q.sq with (q | ⟨o, q⟩) | q
      · exact .inl (.inl (keep _ q fun _ z => by cases z))
      · exact .inl (.inr ⟨o, keep _ q fun _ z => by cases z⟩)
      · exact .inr q
    · obtain ⟨o, q1, q2⟩ := q.pl z
      exact ⟨o, keep _ q1 fun _ z => by (cases z), q2⟩
  | .lst _, _, n, _ => by cases n
  | .dct _ _, _, n, _ => by cases n
  | .scr _, _, n, _ => by cases n
  | .loc _, _, n, _ => by cases n
  | .obj _, _, n, _ => by cases n
  | .exn _ _ _ _, _, n, _ => by cases n
theorem AtL.unlend {ds : List D} {G2 : Hp} (hl : ∀ a, G a = none → Lent s th ds a → ∃ vs, G2 a = some (.lst vs)) : ∀ {l : List D} {vs : List V}, noLsts l = true → AtL K [] G2 l vs → AtL K [] (backG s th ds G G2) l vs
  | [], _, _, h => h
  | _ :: _, _, n, h => by
    obtain ⟨v, r, e1, q, z⟩ := h
    simp only [noLsts, Bool.and_eq_true] at n
    exact ⟨v, r, e1, At.unlend hl n.1 q, AtL.unlend hl n.2 z⟩
end
theorem Rep.lend (R : Rep K B th G s σ H) (ds : List D) : Rep K B [] (lendG s th ds G H) s0 [] H := ⟨rfl, fun i d e => by simp at e, fun a o e => by
    by_cases h : Lent s th ds a
    · rw [lend_at R h] at e
      rw [e]; exact keepO_self o
    · rw [lend_no h] at e
      exact R.eG a o e, R.tb, rfl, List.nodup_nil, fun a h => by simp at h, fun n ob a e => by simp at e⟩
theorem Rep.unlend (R : Rep K B th G s σ H) {ds : List D} {G2 : Hp} (l : Le [] (lendG s th ds G H) H [] G2 H') (R' : Rep K B [] G2 s0 [] H') : Rep K B th (backG s th ds G G2) s σ H' ∧ Le th G H th (backG s th ds G G2) H' ∧ ∀ a, G a = none → Lent s th ds a → ∃ vs, G2 a = some (.lst vs) := by
  have lent : ∀ a, Lent s th ds a → G2 a = H a ∧ H' a = H a := fun a h => by
    obtain ⟨h1, h2, vs, h3⟩ := h.at R
    have e1 : G2 a = some (.lst vs) := l.ex a _ (by rw [lend_at R h, h3])
    have e2 : H' a = some (.lst vs) := R'.eG a _ e1
    exact ⟨by rw [e1, h3], by rw [e2, h3]⟩
  have ne : ∀ a, H a ≠ none → H' a ≠ none := fun a h => by
    cases e : H a with
    | none => exact absurd e h
    | some o =>
      cases g : lendG s th ds G H a with
      | none =>
        obtain ⟨u, hu⟩ := keepF_some (l.fr a o e g (by simp)).1
        rw [hu]; exact fun z => by cases z
      | some u =>
        obtain ⟨w, hw⟩ := keepO_some (R'.eG a u (l.ex a u g))
        rw [hw]; exact fun z => by cases z
  have sb : Sub G (backG s th ds G G2) := sub_back l.ex
  refine ⟨⟨R.len, fun i d e => ?_, fun a o e => ?_, R'.tb, R.tl, R.nd, fun a h => ne a (R.al a h), fun n ob a e1 e2 => ?_⟩, ⟨List.prefix_rfl, sb, fun a o e g n => ?_⟩, fun a h1 h2 => ?_⟩
  · obtain ⟨v, h1, h2⟩ := R.slot i d e
    exact ⟨v, h1, h2.mono List.prefix_rfl sb⟩
  · unfold backG at e
    split at e
    · cases e
    · exact R'.eG a o e
  · have h := R.st n ob a e1 e2
    have place : G a = none → ∀ o, H a = some o → (∀ ps, o ≠ .tbl ps) → KeepF o (H' a) ∧ backG s th ds G G2 a = none := fun g o q _ => by
      by_cases hL : Lent s th ds a
      · refine ⟨by rw [(lent a hL).2, q]; exact keepF_self o, ?_⟩
        unfold backG; rw [if_pos ⟨g, hL⟩]
      · have g2 : lendG s th ds G H a = none := by rw [lend_no hL]; exact g
        obtain ⟨k1, k2, _⟩ := l.fr a o q g2 (by simp)
        refine ⟨k1, ?_⟩
        unfold backG; rw [if_neg fun z => hL z.2]; exact k2
    cases ob with
    | lst z => obtain ⟨g, vs, q, r⟩ := h; obtain ⟨k1, k2⟩ := place g _ q (fun _ z => by cases z); exact ⟨k2, vs, k1, r.mono List.prefix_rfl sb⟩
    | dct z => obtain ⟨g, vs, q, z, r⟩ := h; obtain ⟨k1, k2⟩ := place g _ q (fun _ z => by cases z); exact ⟨k2, vs, k1, z, r.mono List.prefix_rfl sb⟩
    | ins C z => obtain ⟨g, dx, vs, q, z, r⟩ := h; obtain ⟨k1, k2⟩ := place g _ q (fun _ z => by cases z); exact ⟨k2, dx, vs, k1, z, r.mono List.prefix_rfl sb⟩
    | dead => trivial
  · have hL : ¬ Lent s th ds a := fun h => n (h.at R).1
    have g2 : lendG s th ds G H a = none := by rw [lend_no hL]; exact g
    obtain ⟨k1, k2, _⟩ := l.fr a o e g2 (by simp)
    refine ⟨k1, ?_, n⟩
    unfold backG; rw [if_neg fun z => hL z.2]; exact k2
  · obtain ⟨_, _, vs, h3⟩ := h2.at R
    exact ⟨vs, by rw [(lent a h2).1, h3]⟩
theorem sem_callL {W : WX} {f : List D → PR} {t : TA} {m : MA} (h : Sem K B W (relA K) t m) : Sem K B W (relE K) (tCallS (spP K B f) (WE W) t) (eCallL f m) := fun s th G σ H Q R P =>
  h s th G σ H _ R (P.bind fun ds s1 th1 G1 H1 vs l1 R1 r1 P1 => by
    split at P1
    · rename_i hn
      refine ⟨lendG s1 th1 ds G1 H1, ds.map (peek s1), R1.lend ds, peek_at R1 (fun _ h => h) r1 hn, ?_⟩
      cases hf : f (ds.map (peek s1)) with
      | ok d =>
        rw [hf] at P1
        dsimp only at P1
        split at P1
        · rename_i hd
          intro G' H' v l R2 r2
          obtain ⟨R3, l3, hl⟩ := R1.unlend l R2
          exact P1 th1 _ H' v l3 R3 ((At.unlend hl hd r2).mono List.nil_prefix (Sub.refl _))
        · exact P1.elim
      | ex e => rw [hf] at P1; exact P1.elim
      | no => rw [hf] at P1; exact P1.elim
    · exact P1.elim)
end
section
variable {X : Cx} {B : Bs} {W : WX} {e : Expr} {es : List Expr} {t : TA} {m : MA} {pf : List D → PR} {p pos : Pos} {k n : Nat} {ps : List Str} {x : Str}
theorem ve_own_callL (c : CallOk X.prog X.w X.K X.mg X.base B x k ps pf) (hr : Room n X.A) (hn : k ≤ n) (hg : Gl X x) (tk : Takes X W) (ha : VA X B W (e :: es) t m)
    (hdb : (x == ("__debug__" : Str)) = false := by decide) (he : starEach (e :: es) X.env = (false, eval e X.env) :: starEach es X.env := by rfl) (hpl : (backTo pos (starEach es X.env)).any (·.1) = false := by rfl) :
    VE X B W (.Call (.Name x p) (e :: es) [] pos) (tCallS (spP X.K B pf) (WE W) t) (eCallL pf m) := by
  obtain ⟨f, fd, F, hm, hk, hb⟩ := c.ex
  exact ⟨pe_callS F (hr.mono hn) hg hm hk hb (fun σ => passAt tk σ) ha.pa hdb he hpl, sem_callL ha.sem⟩
end
end VL
/-! name += int; [a + b for a in d for b in t], d an own dict -/
namespace VL
open PySem PySem.Spec PyProof.Rows L2
def sInc (i : Nat) (m : ME) : MS := fun s => match (s.r[i]? : Option (Option D)) with
  | some (some (.int a)) => (m s).to fun d s => match d with
    | .int b => .nx { s with r := s.r.set i (some (.int (a + b))) }
    | _ => .no
  | _ => .no
section
variable {X : Cx} {B : Bs} {W : WX} {pos : Pos}
theorem vs_inc {x : Str} {e : Expr} {te : TE} {m : ME} {pos' : Pos} (i : Nat) (hN : X.N.Nodup) (he : VE X B W e te m) (hi : X.N[i]? = some x := by rfl) (hx : Loc X.env.scope x := by first | exact Or.inl rfl | exact Or.inr rfl) (hf : X.fn x = true ∨ X.env.scope.names.lookup x = some .local := by first | exact .inl rfl | exact .inr rfl | assumption) :
    VS X B W (.AugAssign (.Name x pos') .Add e pos) (tAug i te (ipI fun i j => i + j)) (sInc i m) :=
  ⟨ps_aug hN hi hx he.pe ip_add hf, fun s th G σ H Dn R P => by
    unfold sInc at P
    split at P
    · rename_i a h0
      obtain ⟨v, hv, q⟩ := R.slot i _ h0
      cases q
      refine ⟨_, hv, he.sem s th G σ H _ R (P.to fun d s' th' G' H' v l R' r P' => ?_)⟩
      cases d with
      | int b =>
        cases r
        exact ⟨a, b, rfl, rfl, P'.nx0 (R'.sets rfl)⟩
      | _ => exact P'.elim
    · exact P.elim⟩
end
/-! ### two generators -/
def keysI : List (Key × D) → Option (List Int)
  | [] => some []
  | (.inl k, _) :: l => (keysI l).map (k :: ·)
  | _ => none
def crossI (ks xs : List Int) : List Int := ks.flatMap fun k => xs.map (k + ·)
def fLc2K (i0 i2 j1 j2 : Nat) : MF := fun s => match (s.r[i0]? : Option (Option D)) with
  | some (some (.loc n)) => match s.m[n]? with
    | some (.dct L) => match keysI L with
      | some ks => match (s.r[i2]? : Option (Option D)) with
        | some (some (.tup l)) => match intsD l with
          | some xs => if (crossI ks xs).length < 1000000 ∧ j1 < s.r.length ∧ j2 < s.r.length then .ok (.lst ((crossI ks xs).map D.int), s) else .no
          | none => .no
        | _ => .no
      | none => .no
    | _ => .no
  | _ => .no
theorem keysI_eq : ∀ {L : List (Key × D)} {ks : List Int}, keysI L = some ks → L.map (·.1) = ks.map Sum.inl
  | [], ks, h => by cases h; rfl
  | (.inl k, d) :: L, ks, h => by
    simp only [keysI] at h
    cases e : keysI L with
    | none => rw [e] at h; cases h
    | some zs =>
      rw [e] at h
      cases h
      simp [keysI_eq e]
  | (.inr k, d) :: L, ks, h => by simp [keysI] at h
theorem cross_take {ks xs : List Int} {i : Nat} (h : i < ks.length) : crossI (ks.take (i + 1)) xs = crossI (ks.take i) xs ++ xs.map (ks[i] + ·) := by
  have e1 : ks.take (i + 1) = ks.take i ++ [ks[i]] := by rw [List.take_add_one, List.getElem?_eq_getElem h]; rfl
  unfold crossI
  rw [e1, List.flatMap_append]
  simp
theorem cross_le {ks xs : List Int} {i : Nat} : (crossI (ks.take i) xs).length ≤ (crossI ks xs).length := by
  unfold crossI
  have : ks.flatMap (fun k => xs.map (k + ·)) = (ks.take i).flatMap (fun k => xs.map (k + ·)) ++ (ks.drop i).flatMap (fun k => xs.map (k + ·)) := by
    rw [← List.flatMap_append, List.take_append_drop]
  rw [this, List.length_append]
  omega
theorem upd2 {H : Hp} {p : Addr} {o u : HO} : upd (upd H p o) p u = upd H p u := by
  funext b
  by_cases h : b = p
  · subst h; rw [upd_same, upd_same]
  · rw [upd_ne h, upd_ne h, upd_ne h]
section
variable {K : PySem.W.Frag} {B : Bs} {W : WX}
theorem sqT_upd {H : Hp} {t a : Addr} {xs : List V} {o : HO} (h : SqT K H t xs) (ha : H a = none ∨ ∃ kvs, H a = some (.dK kvs)) : SqT K (upd H a o) t xs := by
  have ne : ∀ {u}, H t = some u → (∀ kvs, u ≠ .dK kvs) → t ≠ a := fun e k z => by
    subst z
    rcases ha with q | ⟨kvs, q⟩
    · rw [e] at q; cases q
    · rw [e] at q; exact k kvs (Option.some.inj q)
  rcases h with (q | ⟨o2, q⟩) | q
  · exact .inl (.inl (by rw [upd_ne (ne q fun _ z => by cases z)]; exact q))
  · exact .inl (.inr ⟨o2, by rw [upd_ne (ne q fun _ z => by cases z)]; exact q⟩)
  · exact .inr q
theorem sem_lc2K {i0 i2 j1 j2 : Nat} {vs : List Nat} (h1 : j1 ∈ vs) (h2 : j2 ∈ vs) (h12 : j1 ≠ j2) (hi2 : i2 ∉ vs) :
    Sem K B W (relF K) (tLockE (tLc2 (iKeys (tVar i0)) (gName j1) tYes (iTup K (tVar i2)) (gName j2) tYes (tOp (rAddA K) (tVar j1) (tVar j2)) vs [j2])) (fLc2K i0 i2 j1 j2) := fun s th G σ H Q R P => by
  unfold fLc2K at P
  split at P
  · rename_i n hr0
    split at P
    · rename_i L hm
      split at P
      · rename_i ks hks
        split at P
        · rename_i l hr2
          split at P
          · rename_i xs hxs
            split at P
            · rename_i hz
              obtain ⟨hz, hj1, hj2⟩ := hz
              obtain ⟨v0, hs0, a, ha, rfl⟩ := R.slot i0 _ hr0
              obtain ⟨hGa, kvs, hHa, hk, _⟩ := R.st n _ a hm ha
              obtain ⟨v2, hs2, t, ws, rfl, hq, hl⟩ := R.slot i2 _ hr2
              rw [intsD_eq hxs] at hl
              have hl := hl.ints
              subst hl
              have hqH : SqT K H t (xs.map V.int) := R.eG.sqT hq.sq
              have hkk : kvs.map (·.1) = ks.map Sum.inl := hk.trans (keysI_eq hks)
              have hkl : kvs.length = ks.length := by simpa using congrArg List.length hkk
              refine ⟨a, .dK kvs, hHa, True.intro, fun od => ?_⟩
              refine ⟨.ref a, hs0, a, od, rfl, .inl ⟨kvs, upd_same, fun D hD => ?_⟩⟩
              have hDa : D ≠ a := fun z => by rw [z, upd_same] at hD; cases hD
              have hHD : H D = none := by rw [upd_ne hDa] at hD; exact hD
              obtain ⟨Hl, eHl⟩ : ∃ Hl, Hl = upd H a (.frz od (.dK kvs)) := ⟨_, rfl⟩
              rw [← eHl] at hD ⊢
              have hla : ∀ o, (upd Hl D o) a = some (.frz od (.dK kvs)) := fun o => by rw [upd_ne (Ne.symm hDa), eHl, upd_same]
              have hlt : ∀ o, SqT K (upd Hl D o) t (xs.map V.int) := fun o => sqT_upd (by rw [eHl]; exact sqT_upd hqH (.inr ⟨kvs, hHa⟩)) (.inl hD)
              have hsl : σ.length = s.r.length := R.len.symm
              have sz : sizeLine = 16777216 := sizeLine_eq
              refine ⟨fun i m H' => i ≤ ks.length ∧ m = ks.length - i ∧ H' = upd Hl D (.lst ((crossI (ks.take i) xs).map V.int)), ⟨ks.length, Nat.zero_le _, rfl, rfl⟩, ?_⟩
              rintro i m H' ⟨hi, rfl, rfl⟩
              by_cases hlt2 : i < ks.length
              · refine .inr ⟨⟨hla _, by omega⟩, fun H' => H' = upd Hl D (.lst ((crossI (ks.take (i + 1)) xs).map V.int)), fun H' e => ⟨ks.length - (i + 1), by omega, hlt2, rfl, e⟩, ?_⟩
                rintro x H2 ⟨rfl, k, v, hkv, rfl⟩
                have ek : k = Sum.inl ks[i] := by
                  have e1 : (kvs.map (·.1))[i]? = some k := by rw [List.getElem?_map, hkv]; rfl
                  rw [hkk, List.getElem?_map, List.getElem?_eq_getElem hlt2] at e1
                  exact (Option.some.inj e1).symm
                subst ek
                refine ⟨(wipe_set h1).trans wipe_wipe, ?_⟩
                simp only [tYes, if_true]
                have hwl : (wipe σ vs).length = s.r.length := by rw [wipe_length, hsl]
                have ne21 : i2 ≠ j1 := fun z => hi2 (z ▸ h1)
                have hs2' : ((wipe σ vs).set j1 (some (kV (Sum.inl ks[i]))))[i2]? = some (some (.ref t)) := by
                  rw [List.getElem?_set_ne (Ne.symm ne21), wipe_out hi2]; exact hs2
                refine ⟨.ref t, hs2', t, rfl, ⟨_, hlt _⟩, ?_⟩
                refine ⟨fun j k H' => j ≤ xs.length ∧ k = xs.length - j ∧ H' = upd Hl D (.lst ((crossI (ks.take i) xs ++ (xs.take j).map (ks[i] + ·)).map V.int)), ⟨xs.length, Nat.zero_le _, rfl, by simp⟩, ?_⟩
                rintro j k H' ⟨hj, rfl, rfl⟩
                by_cases hjl : j < xs.length
                · refine .inr ⟨⟨xs.map V.int, .int xs[j], hlt _, by simp [hjl]⟩, fun H' => H' = upd Hl D (.lst ((crossI (ks.take i) xs ++ (xs.take (j + 1)).map (ks[i] + ·)).map V.int)), fun H' e => ⟨xs.length - (j + 1), by omega, hjl, rfl, e⟩, ?_⟩
                  rintro y H2 ⟨rfl, hy⟩
                  have ey : y = V.int xs[j] := by
                    have := hy _ (hlt _)
                    rw [List.getElem?_map, List.getElem?_eq_getElem hjl] at this
                    exact (Option.some.inj this).symm
                  subst ey
                  refine ⟨(wipe_set (by simp)).trans wipe_wipe, ?_⟩
                  have g1 : ((wipe ((wipe σ vs).set j1 (some (kV (Sum.inl ks[i])))) [j2]).set j2 (some (V.int xs[j])))[j1]? = some (some (V.int ks[i])) := by
                    rw [List.getElem?_set_ne (Ne.symm h12), wipe_out (by simpa using h12), List.getElem?_set_self (by omega)]; rfl
                  have g2 : ((wipe ((wipe σ vs).set j1 (some (kV (Sum.inl ks[i])))) [j2]).set j2 (some (V.int xs[j])))[j2]? = some (some (V.int xs[j])) := by
                    rw [List.getElem?_set_self (by rw [wipe_length, List.length_set]; omega)]
                  refine ⟨_, g1, _, g2, .inl ⟨ks[i], xs[j], rfl, rfl, _, upd_same, ?_, ?_⟩⟩
                  · have h3 : (crossI (ks.take i) xs ++ (xs.take j).map (ks[i] + ·)).length ≤ (crossI (ks.take (i + 1)) xs).length := by
                      rw [cross_take hlt2]
                      simp
                      omega
                    have h4 : (crossI (ks.take (i + 1)) xs).length ≤ (crossI ks xs).length := cross_le
                    rw [List.length_map, sz]
                    omega
                  · rw [upd2]
                    have e1 : xs.take (j + 1) = xs.take j ++ [xs[j]] := by rw [List.take_add_one, List.getElem?_eq_getElem hjl]; rfl
                    have e2 : (crossI (ks.take i) xs ++ (xs.take (j + 1)).map (ks[i] + ·)).map V.int = (crossI (ks.take i) xs ++ (xs.take j).map (ks[i] + ·)).map V.int ++ [V.int (ks[i] + xs[j])] := by
                      rw [e1]
                      simp only [List.map_append, List.map_cons, List.map_nil, List.append_assoc]
                    rw [e2]
                · refine .inl ⟨⟨_, hlt _, by rw [List.length_map]; omega⟩, ?_⟩
                  have ej : xs.take j = xs := List.take_of_length_le (by omega)
                  rw [ej, cross_take hlt2]
              · refine .inl ⟨⟨hla _, by omega⟩, hla _, ?_⟩
                have ei : ks.take i = ks := List.take_of_length_le (by omega)
                rw [ei]
                have eH : upd (upd Hl D (.lst ((crossI ks xs).map V.int))) a (.dK kvs) = upd H D (.lst ((crossI ks xs).map V.int)) := by
                  funext b
                  by_cases hb : b = a
                  · subst hb
                    rw [upd_same, upd_ne (Ne.symm hDa), hHa]
                  · rw [upd_ne hb]
                    by_cases hb2 : b = D
                    · subst hb2; rw [upd_same, upd_same]
                    · rw [upd_ne hb2, upd_ne hb2, eHl, upd_ne hb]
                rw [eH]
                exact post_f R P (atL_ints _) hHD
            · exact P.elim
          · exact P.elim
        · exact P.elim
      · exact P.elim
    · exact P.elim
  · exact P.elim
end
section
variable {X : Cx} {B : Bs} {W : WX} {scope : Scope} {own : List (Str × Nat)} {pos p1 p2 p3 p4 q1 q2 q3 py spos : Pos} {a b d t y : Str} {me : ME}
theorem vf_lc2K (i0 i2 j1 j2 : Nat) (hc : X.calm = true) (hN : X.N.Nodup) (ok : BlkOk X.N X.env.scope scope own) (h1 : j1 ∈ own.map (·.2)) (h2 : j2 ∈ own.map (·.2)) (h12 : j1 ≠ j2) (hi2 : i2 ∉ own.map (·.2))
    (hd : VE X B W (.Name d p2) (tVar i0) (eV i0))
    (hg : ∀ (s : Shared) (H : Hp) (C : Addr) (cl : List (Str × Addr)) (fp : List Addr), VG (X.blk s H scope (compEnvC scope cl C X.env) fp) B Wf (.Name a p1) (gName j1) (gN j1))
    (ht : ∀ (s : Shared) (H : Hp) (C : Addr) (cl : List (Str × Addr)) (fp : List Addr), VE (X.blk s H scope (compEnvC scope cl C X.env) fp) B Wf (.Name t p4) (tVar i2) (eV i2))
    (hg1 : ∀ (s : Shared) (H : Hp) (C : Addr) (cl : List (Str × Addr)) (fp : List Addr), VG (X.blk s H scope (compEnvC scope cl C X.env) fp) B Wf (.Name b p3) (gName j2) (gN j2))
    (he : ∀ (s : Shared) (H : Hp) (C : Addr) (cl : List (Str × Addr)) (fp : List Addr), VE (X.blk s H scope (compEnvC scope cl C X.env) fp) B Wf (.BinOp (.Name a q1) .Add (.Name b q2) q3) (tOp (rAddA X.K) (tVar j1) (tVar j2)) me)
    (hs : ∀ x, foldedSetIterable (.Name d p2) X.env x = pure x := by intro _; rfl) (hs1 : ∀ env x, foldedSetIterable (.Name t p4) env x = pure x := by intro _ _; rfl) :
    VF X B W (.ListComp (.BinOp (.Name a q1) .Add (.Name b q2) q3) [⟨.Name a p1, .Name d p2, [], 0⟩, ⟨.Name b p3, .Name t p4, [], 0⟩] scope pos)
      (tLockE (tLc2 (iKeys (tVar i0)) (gName j1) tYes (iTup X.K (tVar i2)) (gName j2) tYes (tOp (rAddA X.K) (tVar j1) (tVar j2)) (own.map (·.2)) [j2])) (fLc2K i0 i2 j1 j2) :=
  ⟨pe_lock (pe_lc2 hc hN (pi_keys hd.pe) ok (fun i hi => by simp at hi; subst hi; exact h2) (fun s H C cl fp => (hg s H C cl fp).pg) (fun _ _ _ _ _ => pts_nil) (fun s H C cl fp => pi_tup (ht s H C cl fp).pe) (fun s H C cl fp => (hg1 s H C cl fp).pg) (fun _ _ _ _ _ => pts_nil) (fun s H C cl fp => (he s H C cl fp).pe) hs hs1), sem_lc2K h1 h2 h12 hi2⟩
theorem vs_setLc2K (j i0 i2 j1 j2 : Nat) {ef : MF → ME} (hef : ∀ {X : Cx} {e : Expr} {t : TE} {mf : MF}, VF X B W e t mf → VE X B W e t (ef mf)) (hc : X.calm = true) (hN : X.N.Nodup) (ok : BlkOk X.N X.env.scope scope own) (h1 : j1 ∈ own.map (·.2)) (h2 : j2 ∈ own.map (·.2)) (h12 : j1 ≠ j2) (hi2 : i2 ∉ own.map (·.2))
    (hd : VE X B W (.Name d p2) (tVar i0) (eV i0))
    (hg : ∀ (s : Shared) (H : Hp) (C : Addr) (cl : List (Str × Addr)) (fp : List Addr), VG (X.blk s H scope (compEnvC scope cl C X.env) fp) B Wf (.Name a p1) (gName j1) (gN j1))
    (ht : ∀ (s : Shared) (H : Hp) (C : Addr) (cl : List (Str × Addr)) (fp : List Addr), VE (X.blk s H scope (compEnvC scope cl C X.env) fp) B Wf (.Name t p4) (tVar i2) (eV i2))
    (hg1 : ∀ (s : Shared) (H : Hp) (C : Addr) (cl : List (Str × Addr)) (fp : List Addr), VG (X.blk s H scope (compEnvC scope cl C X.env) fp) B Wf (.Name b p3) (gName j2) (gN j2))
    (he : ∀ (s : Shared) (H : Hp) (C : Addr) (cl : List (Str × Addr)) (fp : List Addr), VE (X.blk s H scope (compEnvC scope cl C X.env) fp) B Wf (.BinOp (.Name a q1) .Add (.Name b q2) q3) (tOp (rAddA X.K) (tVar j1) (tVar j2)) me)
    (hy : X.N[j]? = some y := by rfl) (hyl : X.env.scope.names.lookup y = some .local := by rfl)
    (hsw : swapsWith (.ListComp (.BinOp (.Name a q1) .Add (.Name b q2) q3) [⟨.Name a p1, .Name d p2, [], 0⟩, ⟨.Name b p3, .Name t p4, [], 0⟩] scope pos) (some (.Name y py)) spos.line X.env = pure true := by rfl)
    (hs : ∀ x, foldedSetIterable (.Name d p2) X.env x = pure x := by intro _; rfl) (hs1 : ∀ env x, foldedSetIterable (.Name t p4) env x = pure x := by intro _ _; rfl) :
    VS X B W (.Assign [.Name y py] (.ListComp (.BinOp (.Name a q1) .Add (.Name b q2) q3) [⟨.Name a p1, .Name d p2, [], 0⟩, ⟨.Name b p3, .Name t p4, [], 0⟩] scope pos) spos)
      (tLock (tAsg (tLc2 (iKeys (tVar i0)) (gName j1) tYes (iTup X.K (tVar i2)) (gName j2) tYes (tOp (rAddA X.K) (tVar j1) (tVar j2)) (own.map (·.2)) [j2]) (gName j))) (sAsg (ef (fLc2K i0 i2 j1 j2)) (gN j)) :=
  ⟨ps_lock (ps_setLc2 hc hN hy hyl hsw (pi_keys hd.pe) ok (fun i hi => by simp at hi; subst hi; exact h2) (fun s H C cl fp => (hg s H C cl fp).pg) (fun _ _ _ _ _ => pts_nil) (fun s H C cl fp => pi_tup (ht s H C cl fp).pe) (fun s H C cl fp => (hg1 s H C cl fp).pg) (fun _ _ _ _ _ => pts_nil) (fun s H C cl fp => (he s H C cl fp).pe) hs hs1),
    fun s th G σ H Dn R P => by
      obtain ⟨dd, u, k1, k2, k3⟩ := (hef (vf_lc2K (pos := pos) i0 i2 j1 j2 hc hN ok h1 h2 h12 hi2 hd hg ht hg1 he hs hs1)).sem s th G σ H _ R (P.to fun d s' th' G' H' v l R' r P' => P'.nx0 (R'.sets r))
      exact ⟨dd, u, k1, k2, fun od => k3 od⟩⟩
end
end VL
/-! defs that share the caller's own objects; instances: fields, methods, making -/
namespace VL
open PySem PySem.Spec PyProof.Rows L2
inductive IR where
  | ok (d : D) (m : List Ob) | ex (e : Exn) (m : List Ob) | no
def impOf (n np : Nat) (m : MS) : List D → List Ob → IR := fun ds ob => if ds.length = np then match m ⟨startD n ds, ob⟩ with
    | .rt d s => .ok d s.m
    | .nx s => .ok .non s.m
    | .ex e s => .ex e s.m
    | _ => .no
  else .no
def IR.to (x : IR) (r : List (Option D)) : R (D × S) := match x with
  | .ok d m => .ok (d, ⟨r, m⟩)
  | .ex e m => .ex e ⟨r, m⟩
  | .no => .no
@[simp] theorem IR.to_ok {d : D} {m : List Ob} {r : List (Option D)} : IR.to (.ok d m) r = .ok (d, ⟨r, m⟩) := id rfl
@[simp] theorem IR.to_ex {e : Exn} {m : List Ob} {r : List (Option D)} : IR.to (.ex e m) r = .ex e ⟨r, m⟩ := id rfl
def eCallI (f : List D → List Ob → IR) (a : MA) : ME := fun s => (a s).bind fun ds s => (f ds s.m).to s.r
def spI (K : PySem.W.Frag) (B : Bs) (f : List D → List Ob → IR) : Sp := fun vs H Q E => ∃ th G ob ds, Rep K B th G ⟨[], ob⟩ [] H ∧ AtL K th G ds vs ∧ match f ds ob with
  | .ok d m => ∀ th' G' H' v, Le th G H th' G' H' → Rep K B th' G' ⟨[], m⟩ [] H' → At K th' G' d v → Q v H'
  | .ex e m => ∀ th' G' H' cls dd, Le th G H th' G' H' → Rep K B th' G' ⟨[], m⟩ [] H' → ExAt K B th' G' H' e cls dd → E cls dd H'
  | .no => False
section
variable {K : PySem.W.Frag} {B : Bs} {W : WX} {th th' : List Addr} {G G' H H' : Hp} {s : S} {σ : L2.St}
theorem Rep.bare (R : Rep K B th G s σ H) : Rep K B th G ⟨[], s.m⟩ [] H := ⟨rfl, fun i d e => by simp at e, R.eG, R.tb, R.tl, R.nd, R.al, R.st⟩
theorem Rep.dress (R : Rep K B th G s σ H) (l : Le th G H th' G' H') {m : List Ob} (R' : Rep K B th' G' ⟨[], m⟩ [] H') : Rep K B th' G' ⟨s.r, m⟩ σ H' :=
  ⟨R.len, fun i d e => by
    obtain ⟨v, h1, h2⟩ := R.slot i d e
    exact ⟨v, h1, h2.mono l.pre l.ex⟩, R'.eG, R'.tb, R'.tl, R'.nd, R'.al, R'.st⟩
/-- what a call leaves -/
theorem call_post {f : List D → List Ob → IR} {ds : List D} {Q : VK} (R : Rep K B th G s σ H) (P : Post K B W σ th G H (relE K) ((f ds s.m).to s.r) Q) : match f ds s.m with
    | .ok d m => ∀ th' G' H' v, Le th G H th' G' H' → Rep K B th' G' ⟨[], m⟩ [] H' → At K th' G' d v → Q v H'
    | .ex e m => ∀ th' G' H' cls dd, Le th G H th' G' H' → Rep K B th' G' ⟨[], m⟩ [] H' → ExAt K B th' G' H' e cls dd → WE W σ cls dd H'
    | .no => False := by
  cases hf : f ds s.m with
  | ok d m => rw [hf] at P; exact fun th' G' H' v l R2 r2 => P th' G' H' v l (R.dress l R2) r2
  | ex e m => rw [hf] at P; exact fun th' G' H' cls dd l R2 r2 => P th' G' H' cls dd l (R.dress l R2) r2
  | no => rw [hf] at P; exact P.elim
theorem sem_callI {f : List D → List Ob → IR} {t : TA} {m : MA} (h : Sem K B W (relA K) t m) : Sem K B W (relE K) (tCallS (spI K B f) (WE W) t) (eCallI f m) := fun s th G σ H Q R P =>
  h s th G σ H _ R (P.bind fun ds s1 th1 G1 H1 vs l1 R1 r1 P1 => ⟨th1, G1, s1.m, ds, R1.bare, r1, call_post R1 P1⟩)
theorem Rep.startI {N : List Str} {ds : List D} {vs : List V} {ob : List Ob} (R : Rep K B th G ⟨[], ob⟩ [] H) (r : AtL K th G ds vs) : Rep K B th G ⟨startD N.length ds, ob⟩ (L2.start N vs) H := by
  refine R.slots (startD_len r.length) fun i d e => ?_
  unfold startD at e
  unfold L2.start
  have hl := r.length
  by_cases hi : i < ds.length
  · rw [List.getElem?_append_left (by simpa using hi), List.getElem?_map] at e
    rw [List.getElem?_append_left (by rw [List.length_map, hl]; exact hi)]
    cases hd : ds[i]? with
    | none => rw [hd] at e; cases e
    | some z =>
      rw [hd] at e
      cases e
      obtain ⟨v, h1, h2⟩ := r.get hd
      exact ⟨v, by rw [List.getElem?_map, h1]; rfl, h2⟩
  · rw [List.getElem?_append_right (by simpa using Nat.le_of_not_lt hi), List.getElem?_replicate] at e
    split at e <;> cases e
theorem body_runI {N : List Str} {np : Nat} {W : WX} {t : TS} {m : MS} {vs : List V} {Q : VK} {E : XK} (hW : W = fun c d _ H => E c d H) (h : SemS K B W t m) (hsp : spI K B (impOf N.length np m) vs H Q E) :
    t { nx := fun _ H' => Q .non H', rt := Q } (L2.start N vs) H := by
  obtain ⟨th, G, ob, ds, R, r, hm⟩ := hsp
  have key : impOf N.length np m ds ob = if ds.length = np then (match m ⟨startD N.length ds, ob⟩ with
    | .rt d s => .ok d s.m
    | .nx s => .ok .non s.m
    | .ex e s => .ex e s.m
    | _ => .no) else .no := rfl
  by_cases hl : ds.length = np
  · rw [if_pos hl] at key
    refine h _ _ _ _ _ _ (R.startI (N := N) r) ?_
    cases hc : m ⟨startD N.length ds, ob⟩ with
    | nx s' =>
      rw [hc] at key
      rw [key] at hm
      exact fun th' G' H' σ' l R' => hm th' G' H' .non l R'.bare rfl
    | rt d s' =>
      rw [hc] at key
      rw [key] at hm
      exact fun th' G' H' σ' v l R' r' => hm th' G' H' v l R'.bare r'
    | ex e s' =>
      rw [hc] at key
      rw [key] at hm
      subst hW
      exact fun th' G' H' σ' cls dd l R' r' => hm th' G' H' cls dd l R'.bare r'
    | bk s' => rw [hc] at key; rw [key] at hm; exact hm.elim
    | ct s' => rw [hc] at key; rw [key] at hm; exact hm.elim
    | no => rw [hc] at key; rw [key] at hm; exact hm.elim
  · rw [if_neg hl] at key
    rw [key] at hm
    exact hm.elim
theorem spI_len {n np : Nat} {m : MS} {vs : List V} {Q : VK} {E : XK} (hsp : spI K B (impOf n np m) vs H Q E) : vs.length = np := by
  obtain ⟨th, G, ob, ds, R, r, hm⟩ := hsp
  by_cases hl : ds.length = np
  · rw [r.length]; exact hl
  · have key : impOf n np m ds ob = .no := if_neg hl
    rw [key] at hm
    exact hm.elim
end
/-- the promise of a def that shares the caller's own objects -/
abbrev FnI (P : Program) (w : World) (K : PySem.W.Frag) (mg : Str → Option Value) (base : Heap) (B : Bs) (k : Nat) (f : Addr) (fd : FuncData) (ps : List Str) (pf : List D → List Ob → IR) : Prop := FnOk P w K mg base (L2.CX P w) k f fd ps (spI K B pf)
section
variable {P : Program} {w : World} {K : PySem.W.Frag} {mg : Str → Option Value} {base : Heap} {B : Bs} {x qual : Str} {params : Arguments} {body : List Stmt} {scope : Scope} {dvs : List V} {kws : List (Str × V)} {f : Addr} {fd : FuncData}
theorem def_imp {N ps : List Str} {k : Nat} {m : MS} (F : FunD K x qual params body scope dvs kws f fd) (Sc : FnScope N ps scope)
    (hbody : ∀ (cdv : Value) (A : Around) (outer : List Env) (s : Shared) (H : Hp) (E : XK), fd.code = cdv → Room k (A.deeper (envOfC qual scope s.heap.objs.size f cdv)) → ∃ t, VSs (cxOf (L2.CX P w) P w K mg base N qual scope f cdv A outer s H E) B (fun c d _ H => E c d H) body t m) :
    FnI P w K mg base B (k + 1) f fd ps (impOf N.length ps.length m) := by
  obtain ⟨oc, od, dV, kV, doc, pm, an, cdv, ct, osl, rfl, lk, hcd, _, _⟩ := F.ex
  exact fn_of lk hcd Sc (fun vs H Q E h => spI_len h) fun A outer s H vs Q E hr h => by
    obtain ⟨t, hv⟩ := hbody cdv A outer s H E rfl hr
    exact ⟨t, hv.ps, body_runI rfl hv.sem h⟩
end
structure CallOkI (P : Program) (w : World) (K : PySem.W.Frag) (mg : Str → Option Value) (base : Heap) (B : Bs) (x : Str) (k : Nat) (ps : List Str) (pf : List D → List Ob → IR) : Prop where
  ex : ∃ f fd, FnI P w K mg base B k f fd ps pf ∧ mg x = some (.ref f) ∧ PySem.W.keepIn K (.ref f) = true ∧ Binds K fd ps []
section
variable {X : Cx} {B : Bs} {W : WX} {e o value : Expr} {es : List Expr} {t : TA} {m : MA} {pf : List D → List Ob → IR} {p pos apos pos' tpos : Pos} {k n : Nat} {ps : List Str} {x : Str} {a b : Expr} {ta tb tv : TE} {ma mb mo mv : ME}
theorem ve_callI (c : CallOkI X.prog X.w X.K X.mg X.base B x k ps pf) (hr : Room n X.A) (hn : k ≤ n) (hg : Gl X x) (tk : Takes X W) (ha : VA X B W (e :: es) t m)
    (hdb : (x == ("__debug__" : Str)) = false := by decide) (he : starEach (e :: es) X.env = (false, eval e X.env) :: starEach es X.env := by rfl) (hpl : (backTo pos (starEach es X.env)).any (·.1) = false := by rfl) :
    VE X B W (.Call (.Name x p) (e :: es) [] pos) (tCallS (spI X.K B pf) (WE W) t) (eCallI pf m) := by
  obtain ⟨f, fd, F, hm, hk, hb⟩ := c.ex
  exact ⟨pe_callS F (hr.mono hn) hg hm hk hb (fun σ => passAt tk σ) ha.pa hdb he hpl, sem_callI ha.sem⟩
/-! ### fields -/
def putS (f : Str) (d : D) : List (Str × D) → List (Str × D)
  | [] => [(f, d)]
  | (g, x) :: r => if g = f then (g, d) :: r else (g, x) :: putS f d r
/-- fields stand for data -/
def AtF (K : PySem.W.Frag) (th : List Addr) (G : Hp) (l : List (Str × D)) (fs : List (Str × V)) : Prop := fs.map (·.1) = l.map (·.1) ∧ AtL K th G (l.map (·.2)) (fs.map (·.2))
section
variable {K : PySem.W.Frag} {th th' : List Addr} {G G' H : Hp} {s : S} {σ : L2.St}
theorem AtF.look {f : Str} {d : D} : ∀ {l : List (Str × D)} {fs : List (Str × V)}, AtF K th G l fs → l.lookup f = some d → ∃ v, fs.lookup f = some v ∧ At K th G d v
  | [], _, _, e => by simp at e
  | (g, x) :: l, fs, h, e => by
    obtain ⟨h1, h2⟩ := h
    cases fs with
    | nil => simp at h1
    | cons q fs =>
      obtain ⟨g', v⟩ := q
      simp only [List.map_cons, List.cons.injEq] at h1
      obtain ⟨v', r, e3, h3, h4⟩ := h2
      simp only [List.map_cons, List.cons.injEq] at e3
      obtain ⟨rfl, rfl⟩ := e3
      obtain ⟨rfl, h5⟩ := h1
      simp only [List.lookup] at e ⊢
      cases hg : f == g' with
      | true => rw [hg] at e; cases e; exact ⟨v, rfl, h3⟩
      | false => rw [hg] at e; exact AtF.look ⟨h5, h4⟩ e
theorem AtF.none {f : Str} : ∀ {l : List (Str × D)} {fs : List (Str × V)}, AtF K th G l fs → l.lookup f = none → fs.lookup f = none
  | [], fs, h, _ => by
    obtain ⟨h1, _⟩ := h
    cases fs with
    | nil => rfl
    | cons q fs => simp at h1
  | (g, x) :: l, fs, h, e => by
    obtain ⟨h1, h2⟩ := h
    cases fs with
    | nil => rfl
    | cons q fs =>
      obtain ⟨g', v⟩ := q
      simp only [List.map_cons, List.cons.injEq] at h1
      obtain ⟨v', r, e3, h3, h4⟩ := h2
      simp only [List.map_cons, List.cons.injEq] at e3
      obtain ⟨rfl, rfl⟩ := e3
      obtain ⟨rfl, h5⟩ := h1
      simp only [List.lookup] at e ⊢
      cases hg : f == g' with
      | true => rw [hg] at e; cases e
      | false => rw [hg] at e; exact AtF.none ⟨h5, h4⟩ e
theorem AtF.put {f : Str} {d : D} {v : V} (hv : At K th G d v) : ∀ {l : List (Str × D)} {fs : List (Str × V)}, AtF K th G l fs → AtF K th G (putS f d l) (putF f v fs)
  | [], fs, h => by
    obtain ⟨h1, _⟩ := h
    cases fs with
    | nil => exact ⟨rfl, .one hv⟩
    | cons q fs => simp at h1
  | (g, x) :: l, fs, h => by
    obtain ⟨h1, h2⟩ := h
    cases fs with
    | nil => simp at h1
    | cons q fs =>
      obtain ⟨g', u⟩ := q
      simp only [List.map_cons, List.cons.injEq] at h1
      obtain ⟨v', r, e3, h3, h4⟩ := h2
      simp only [List.map_cons, List.cons.injEq] at e3
      obtain ⟨rfl, rfl⟩ := e3
      obtain ⟨rfl, h5⟩ := h1
      unfold putS putF
      by_cases hg : g' = f
      · rw [if_pos hg, if_pos hg]
        exact ⟨by simp [h5], .cons hv h4⟩
      · rw [if_neg hg, if_neg hg]
        obtain ⟨i1, i2⟩ := AtF.put (f := f) hv ⟨h5, h4⟩
        exact ⟨by simp [i1], .cons h3 i2⟩
theorem AtF.len {l : List (Str × D)} {fs : List (Str × V)} (h : AtF K th G l fs) : fs.length = l.length := by
  have := congrArg List.length h.1
  simpa using this
theorem AtF.mono {l : List (Str × D)} {fs : List (Str × V)} (ht : th <+: th') (e : Sub G G') (h : AtF K th G l fs) : AtF K th' G' l fs := ⟨h.1, h.2.mono ht e⟩
theorem Rep.ins_at (R : Rep K B th G s σ H) {n : Nat} {c : Str} {l : List (Str × D)} {v : V} (h : At K th G (.loc n) v) (e : s.m[n]? = some (.ins c l)) : ∃ a dx fs, v = .ref a ∧ th[n]? = some a ∧ G a = none ∧ H a = some (.ins (He.ga K c) dx fs) ∧ AtF K th G l fs := by
  obtain ⟨a, ha, rfl⟩ := h
  obtain ⟨g, dx, fs, q, h1, h2⟩ := R.st n _ a e ha
  exact ⟨a, dx, fs, rfl, ha, g, q, h1, h2⟩
end
def eAtt (c f : Str) (m : ME) : ME := fun s => (m s).bind fun o s => match o with
  | .loc n => match s.m[n]? with
    | some (.ins c' l) => if c' = c then (match l.lookup f with
      | some d => .ok (d, s)
      | none => .no) else .no
    | _ => .no
  | _ => .no
theorem ve_att {c f : Str} (cl : Cls X.K (He.ga X.K c)) (na : NoAttr X.K (He.ga X.K c) f) (h : VE X B W e ta ma) (hb : attributeBase e f X.env (eval e X.env) = eval e X.env := by rfl) : VE X B W (.Attribute e f pos) (L2.tFld X.K ta f) (eAtt c f ma) :=
  ⟨L2.pe_fld h.pe hb, fun s th G σ H Q R P => h.sem s th G σ H _ R (P.bind fun o s1 th1 G1 H1 vo l1 R1 r1 P1 => by
    cases o with
    | loc n =>
      dsimp only at P1
      cases hm : s1.m[n]? with
      | none => rw [hm] at P1; exact P1.elim
      | some ob =>
        rw [hm] at P1
        cases ob with
        | ins c' l =>
          dsimp only at P1
          by_cases hc : c' = c
          · rw [if_pos hc] at P1
            subst hc
            cases hl : l.lookup f with
            | none => rw [hl] at P1; exact P1.elim
            | some d =>
              rw [hl] at P1
              obtain ⟨a, dx, fs, rfl, _, _, q, af⟩ := R1.ins_at r1 hm
              obtain ⟨v, hv, hr⟩ := af.look hl
              exact ⟨a, _, dx, fs, v, rfl, q, cl, na, hv, Post.ok (rel := relE X.K) P1 R1 hr⟩
          · rw [if_neg hc] at P1; exact P1.elim
        | _ => exact P1.elim
    | _ => exact P1.elim)⟩
/-- an instance's fields change -/
def setIns (n : Nat) (c f : Str) (d : D) (s : S) : C := match s.m[n]? with
  | some (.ins c' l) => if c' = c ∧ l.length < 1000 then .nx { s with m := s.m.set n (.ins c (putS f d l)) } else .no
  | _ => .no
def sSetF (c f : Str) (mo mv : ME) : MS := fun s => (mv s).to fun d s => (mo s).to fun o s => match o with
  | .loc n => setIns n c f d s
  | _ => .no
theorem setIns_ok {K : PySem.W.Frag} {th : List Addr} {G H : Hp} {s : S} {σ : L2.St} {n : Nat} {c f : Str} {d : D} {v vo : V} {Dn : Ends} (R : Rep K B th G s σ H) (ho : At K th G (.loc n) vo) (hv : At K th G d v) (P : PostS K B W th G H (setIns n c f d s) Dn) :
    ∃ a dx fs, vo = .ref a ∧ H a = some (.ins (He.ga K c) dx fs) ∧ fs.length < 1000 ∧ Dn.nx σ (upd H a (.ins (He.ga K c) dx (putF f v fs))) := by
  unfold setIns at P
  cases hm : s.m[n]? with
  | none => rw [hm] at P; exact P.elim
  | some ob =>
    rw [hm] at P
    cases ob with
    | ins c' l =>
      dsimp only at P
      by_cases hc : c' = c ∧ l.length < 1000
      · rw [if_pos hc] at P
        obtain ⟨rfl, hl⟩ := hc
        obtain ⟨a, dx, fs, rfl, ha, hg, q, af⟩ := R.ins_at ho hm
        refine ⟨a, dx, fs, rfl, q, by rw [af.len]; exact hl, ?_⟩
        obtain ⟨p1, p2⟩ := AtF.put (f := f) hv af
        exact P _ _ _ σ (Le.put ha) (R.put ha hg ⟨hg, dx, _, upd_same, p1, p2⟩ (R.tbne q fun _ z => nomatch z))
      · rw [if_neg hc] at P; exact P.elim
    | _ => exact P.elim
theorem vs_setF {c f : Str} (cl : Cls X.K (He.ga X.K c)) (na : NoAttr X.K (He.ga X.K c) f) (ho : VE X B W o ta mo) (hv : VE X B W value tv mv) (hs : swapsWith value (some (.Attribute o f pos')) pos.line X.env = pure false := by rfl) :
    VS X B W (.Assign [.Attribute o f pos'] value pos) (sFld X.K ta tv f) (sSetF c f mo mv) :=
  ⟨ps_fld ho.pe hv.pe hs, fun s th G σ H Dn R P => hv.sem s th G σ H _ R (P.to fun d s1 th1 G1 H1 v l1 R1 r1 P1 => ho.sem s1 th1 G1 σ H1 _ R1 (P1.to fun od s2 th2 G2 H2 vo l2 R2 r2 P2 => by
    cases od with
    | loc n =>
      obtain ⟨a, dx, fs, rfl, q, hl, hn⟩ := setIns_ok R2 r2 (r1.mono l2.pre l2.ex) P2
      exact ⟨a, _, dx, fs, rfl, q, cl, na, hl, hn⟩
    | _ => exact P2.elim))⟩
def sAugF (c f : Str) (op : D → D → S → R (D × S)) (mo mv : ME) : MS := fun s => (mo s).to fun o s => match o with
  | .loc n => match s.m[n]? with
    | some (.ins c' l) => if c' = c then (match l.lookup f with
      | some x => (mv s).to fun y s => (op x y s).to fun z s => setIns n c f z s
      | none => .no) else .no
    | _ => .no
  | _ => .no
theorem vs_augF {op : Operator} {rd : V → V → Hp → VK → Prop} {c f : Str} {fop : D → D → S → R (D × S)} (hop : InOp X op rd) (hf : SemR X.K B W rd fop) (cl : Cls X.K (He.ga X.K c)) (na : NoAttr X.K (He.ga X.K c) f) (ho : VE X B W o ta mo) (hv : VE X B W value tv mv) :
    VS X B W (.AugAssign (.Attribute o f tpos) op value pos) (sFldAug X.K ta tv rd f) (sAugF c f fop mo mv) :=
  ⟨ps_fldaug ho.pe hv.pe hop, fun s th G σ H Dn R P => ho.sem s th G σ H _ R (P.to fun od s1 th1 G1 H1 vo l1 R1 r1 P1 => by
    cases od with
    | loc n =>
      dsimp only at P1
      cases hm : s1.m[n]? with
      | none => rw [hm] at P1; exact P1.elim
      | some ob =>
        rw [hm] at P1
        cases ob with
        | ins c' l =>
          dsimp only at P1
          by_cases hc : c' = c
          · rw [if_pos hc] at P1
            subst hc
            cases hl : l.lookup f with
            | none => rw [hl] at P1; exact P1.elim
            | some x =>
              rw [hl] at P1
              obtain ⟨a, dx, fs, rfl, ha, _, q, af⟩ := R1.ins_at r1 hm
              obtain ⟨vx, hvx, hrx⟩ := af.look hl
              refine ⟨a, _, dx, fs, vx, rfl, q, cl, na, hvx, hv.sem s1 th1 G1 σ H1 _ R1 (P1.to fun y s2 th2 G2 H2 vy l2 R2 r2 P2 => hf s2 th2 G2 σ H2 _ x y vx vy R2 (hrx.mono l2.pre l2.ex) r2 (P2.to fun z s3 th3 G3 H3 vz l3 R3 r3 P3 => ?_))⟩
              have hn3 : At X.K th3 G3 (.loc n) (.ref a) := ⟨a, pre_get (l2.pre.trans l3.pre) ha, rfl⟩
              obtain ⟨a', dx', fs', e', q', hl', hn'⟩ := setIns_ok R3 hn3 r3 P3
              cases e'
              exact ⟨dx', fs', q', hl', hn'⟩
          · rw [if_neg hc] at P1; exact P1.elim
        | _ => exact P1.elim
    | _ => exact P1.elim)⟩
end
end VL
/-! methods of own classes, instances made -/
namespace VL
open PySem PySem.Spec PyProof.Rows L2
/-! ### rules of the hand layer, an exception's wish by the slots -/
def tMeW (C : Addr) (m : Str) (sp : Sp) (E : L2.St → XK) (ta : TE) (t : TA) : TE := fun σ H Q => ta σ H fun x H1 => ∃ a dx fs, x = .ref a ∧ H1 a = some (.ins C dx fs) ∧ fs.lookup m = none ∧ t σ H1 fun vs H2 => sp (x :: vs) H2 Q (E σ)
def tMkW (C : Addr) (sp : Sp) (E : L2.St → XK) (t : TA) : TE := fun σ H Q => t σ H fun vs H1 => ∀ x dx, H1 x = none → H1 dx = none → dx ≠ x →
  sp (.ref x :: vs) (upd (upd H1 dx (.own x)) x (.ins C dx [])) (fun v H2 => v = .non ∧ Q (.ref x) H2) (E σ)
section
variable {X : Cx} {CX : CXT} {k : Nat} {f C : Addr} {fd : FuncData} {ps : List Str} {sp : Sp} {E : L2.St → XK} {x m : Str} {p pos apos : Pos} {e o : Expr} {es : List Expr} {ta : TE} {t : TA}
theorem pe_meW {pl : PySem.Sem Bool} (ho : PE X o ta) (cl : Cls X.K C) (mt : Meth X.K C m f) (F : FnOk X.prog X.w X.K X.mg X.base CX k f fd ps sp) (rm : Room k X.A) (bi : Binds X.K fd ps []) (px : ∀ σ, PassesAt CX X σ (E σ)) (ha : PA X (e :: es) t)
    (h1 : starEach (e :: es) X.env = (false, eval e X.env) :: starEach es X.env := by rfl) (h2 : (backTo pos (starEach es X.env)).any (·.1) = false := by rfl)
    (h3 : eval (.Call (.Attribute o m apos) (e :: es) [] pos) X.env = (do
      let v ← eval o X.env
      standAt apos.atName
      let (g, first) ← holding [v] (getMethod v m pl)
      callWith pos g first (backTo pos (starEach (e :: es) X.env)) (backToKw pos (keywordEach [] X.env))) := by rfl) :
    PE X (.Call (.Attribute o m apos) (e :: es) [] pos) (tMeW C m sp E ta t) := by
  refine ⟨fun pins s σ H Q I hh => PySem.W.methodCall_KW (pl := pl) (thn (ho.run pins s σ H _ I hh) fun u s1 ⟨y, H1, I1, ry, a, dx, fs, ey, ea, lk, q⟩ => ?_) h3⟩
  subst ey
  obtain rfl : u = Value.ref a := ry
  exact getmeth_ok I1 ea cl mt lk (PySem.W.callWith_K (first := [.ref a]) (h₀ := X.base) I.ok.mod.kin mt.kp (thn (ha.run pos pins s1 σ H1 _ I1 q) fun us s2 ⟨vs, H2, I2, r, q2⟩ => ⟨I2.kIn, run_fnS (us := .ref a :: us) (vs := .ref a :: vs) F rm bi (px σ) I2 (.cons rfl r) q2⟩) h1 h2)
theorem pe_meW0 {pl : PySem.Sem Bool} (ho : PE X o ta) (cl : Cls X.K C) (mt : Meth X.K C m f) (F : FnOk X.prog X.w X.K X.mg X.base CX k f fd ps sp) (rm : Room k X.A) (bi : Binds X.K fd ps []) (px : ∀ σ, PassesAt CX X σ (E σ))
    (h3 : eval (.Call (.Attribute o m apos) [] [] pos) X.env = (do
      let v ← eval o X.env
      standAt apos.atName
      let (g, first) ← holding [v] (getMethod v m pl)
      callWith pos g first (backTo pos (starEach [] X.env)) (backToKw pos (keywordEach [] X.env))) := by rfl) :
    PE X (.Call (.Attribute o m apos) [] [] pos) (tMeW C m sp E ta tNil) := by
  refine ⟨fun pins s σ H Q I hh => PySem.W.methodCall_KW (pl := pl) (thn (ho.run pins s σ H _ I hh) fun u s1 ⟨y, H1, I1, ry, a, dx, fs, ey, ea, lk, q⟩ => ?_) h3⟩
  subst ey
  obtain rfl : u = Value.ref a := ry
  exact getmeth_ok I1 ea cl mt lk (PySem.W.callWith_K0 (first := [.ref a]) I1.kIn mt.kp (run_fnS (us := [.ref a]) (vs := [.ref a]) F rm bi (px σ) I1 (.cons rfl .nil) q))
theorem run_mkW {pins : List (Addr × Obj)} {σ : L2.St} {H : Hp} {s : Shared} {Q : VK} {us : List Value} {vs : List V} (M : Mk X.K C f) (F : FnOk X.prog X.w X.K X.mg X.base CX k f fd ps sp) (rm : Room (k + 1) X.A) (bi : Binds X.K fd ps [])
    (px : ∀ σ, PassesAt CX X σ (E σ)) (I : Inv X pins σ H s) (r : Vals vs us)
    (hh : ∀ x dx, H x = none → H dx = none → dx ≠ x → sp (.ref x :: vs) (upd (upd H dx (.own x)) x (.ins C dx [])) (fun v H2 => v = .non ∧ Q (.ref x) H2) (E σ)) :
    wpAny (model X.prog X.w) X.A (call (.ref C) us) (EP X pins σ Q) X.xe s := by
  have hq := hh (s.heap.objs.size + 1) s.heap.objs.size (I.hok.fresh (Nat.le_succ _)) (I.hok.fresh (Nat.le_refl _)) (Nat.ne_of_lt (Nat.lt_succ_self _))
  have J := Inv.made (C := C) I
  have r2 : Vals (V.ref (s.heap.objs.size + 1) :: vs) (Value.ref (s.heap.objs.size + 1) :: us) := .cons rfl r
  have hl : (Value.ref (s.heap.objs.size + 1) :: us).length = ps.length := by
    have z := r2.length
    rw [F.len _ _ _ _ hq] at z
    exact z.symm
  have b := bi _ (Value.ref (s.heap.objs.size + 1) :: us) J.kIn (by rw [List.append_nil]; exact hl)
  rw [List.append_nil] at b
  refine wpAny_call (make_map (f := f) I.kIn M.makes M.init (beq_iff_eq.mp M.fn) (codeAny_mono (F.run _ X.stack _ _ ⟨Value.ref (s.heap.objs.size + 1) :: us, []⟩ (Value.ref (s.heap.objs.size + 1) :: us) _ _ (E σ) (rm.make C us [])
    (J.env0.make C us []) b r2 hq) fun r s' hq' => ?_))
  cases r with
  | error z => exact px σ pins _ _ z s' J hq'
  | ok fl =>
    cases fl with
    | ret u =>
      obtain ⟨v, H', I3, rv, ev, q3⟩ := J.after hq'
      subst ev
      exact ⟨rv, ⟨V.ref (s.heap.objs.size + 1), H', I3, rfl, q3⟩⟩
    | next => exact False.elim hq'
    | brk => exact False.elim hq'
    | cont => exact False.elim hq'
theorem pe_mkW (M : Mk X.K C f) (F : FnOk X.prog X.w X.K X.mg X.base CX k f fd ps sp) (rm : Room (k + 1) X.A) (hg : Gl X x) (hm : X.mg x = some (.ref C)) (bi : Binds X.K fd ps []) (px : ∀ σ, PassesAt CX X σ (E σ))
    (ha : PA X (e :: es) t) (hdb : (x == ("__debug__" : Str)) = false := by decide) (h1 : starEach (e :: es) X.env = (false, eval e X.env) :: starEach es X.env := by rfl) (h2 : (backTo pos (starEach es X.env)).any (·.1) = false := by rfl) :
    PE X (.Call (.Name x p) (e :: es) [] pos) (tMkW C sp E t) := by
  refine ⟨fun pins s σ H Q I hh => wpAny_Call_Name_kw (ld_glob I hg hm ?_ hdb)⟩
  exact PySem.W.callWith_K (h₀ := X.base) I.ok.mod.kin M.kp (thn (ha.run pos pins s σ H _ I hh) fun us s1 ⟨vs, H1, I1, r, q⟩ => ⟨I1.kIn, run_mkW M F rm bi px I1 r q⟩) h1 h2
end
/-! ### over data -/
structure MetOk (P : Program) (w : World) (K : PySem.W.Frag) (mg : Str → Option Value) (base : Heap) (B : Bs) (c m : Str) (k : Nat) (ps : List Str) (pf : List D → List Ob → IR) : Prop where
  ex : ∃ f fd, FnI P w K mg base B k f fd ps pf ∧ Meth K (He.ga K c) m f ∧ Binds K fd ps []
  cl : Cls K (He.ga K c)
structure MkOk (P : Program) (w : World) (K : PySem.W.Frag) (mg : Str → Option Value) (base : Heap) (B : Bs) (c : Str) (k : Nat) (ps : List Str) (pf : List D → List Ob → IR) : Prop where
  ex : ∃ f fd, FnI P w K mg base B k f fd ps pf ∧ Mk K (He.ga K c) f ∧ Binds K fd ps []
  gl : mg c = some (.ref (He.ga K c))
def eMet (c m : Str) (f : List D → List Ob → IR) (mo : ME) (a : MA) : ME := fun s => (mo s).bind fun o s => match o with
  | .loc n => match s.m[n]? with
    | some (.ins c' l) => if c' = c ∧ l.lookup m = none then (a s).bind fun ds s => (f (.loc n :: ds) s.m).to s.r else .no
    | _ => .no
  | _ => .no
def eMake (c : Str) (f : List D → List Ob → IR) (a : MA) : ME := fun s => (a s).bind fun ds s => match f (.loc s.m.length :: ds) (s.m ++ [.ins c []]) with
  | .ok .non m => .ok (.loc s.m.length, ⟨s.r, m⟩)
  | .ok _ _ => .no
  | .ex e m => .ex e ⟨s.r, m⟩
  | .no => .no
section
variable {X : Cx} {B : Bs} {W : WX} {e o : Expr} {es : List Expr} {t : TA} {ma : MA} {pf : List D → List Ob → IR} {p pos apos : Pos} {k n : Nat} {ps : List Str} {c x m : Str} {ta : TE} {mo : ME}
theorem sem_met {K : PySem.W.Frag} (ho : Sem K B W (relE K) ta mo) (ha : Sem K B W (relA K) t ma) : Sem K B W (relE K) (tMeW (He.ga K c) m (spI K B pf) (WE W) ta t) (eMet c m pf mo ma) := fun s th G σ H Q R P =>
  ho s th G σ H _ R (P.bind fun od s1 th1 G1 H1 vo l1 R1 r1 P1 => by
    cases od with
    | loc n =>
      dsimp only at P1
      cases hm : s1.m[n]? with
      | none => rw [hm] at P1; exact P1.elim
      | some ob =>
        rw [hm] at P1
        cases ob with
        | ins c' l =>
          dsimp only at P1
          by_cases hc : c' = c ∧ l.lookup m = none
          · rw [if_pos hc] at P1
            obtain ⟨rfl, hl⟩ := hc
            obtain ⟨a, dx, fs, rfl, ha1, _, q, af⟩ := R1.ins_at r1 hm
            refine ⟨a, dx, fs, rfl, q, af.none hl, ha s1 th1 G1 σ H1 _ R1 (P1.bind fun ds s2 th2 G2 H2 vs l2 R2 r2 P2 => ⟨th2, G2, s2.m, .loc n :: ds, R2.bare, .cons ⟨a, pre_get l2.pre ha1, rfl⟩ r2, call_post R2 P2⟩)⟩
          · rw [if_neg hc] at P1; exact P1.elim
        | _ => exact P1.elim
    | _ => exact P1.elim)
theorem ve_met {pl : PySem.Sem Bool} (c0 : MetOk X.prog X.w X.K X.mg X.base B c m k ps pf) (hr : Room n X.A) (hn : k ≤ n) (tk : Takes X W) (ho : VE X B W o ta mo) (ha : VA X B W (e :: es) t ma)
    (h1 : starEach (e :: es) X.env = (false, eval e X.env) :: starEach es X.env := by rfl) (h2 : (backTo pos (starEach es X.env)).any (·.1) = false := by rfl)
    (h3 : eval (.Call (.Attribute o m apos) (e :: es) [] pos) X.env = (do
      let v ← eval o X.env
      standAt apos.atName
      let (g, first) ← holding [v] (getMethod v m pl)
      callWith pos g first (backTo pos (starEach (e :: es) X.env)) (backToKw pos (keywordEach [] X.env))) := by rfl) :
    VE X B W (.Call (.Attribute o m apos) (e :: es) [] pos) (tMeW (He.ga X.K c) m (spI X.K B pf) (WE W) ta t) (eMet c m pf mo ma) := by
  obtain ⟨f, fd, F, hm, hb⟩ := c0.ex
  exact ⟨pe_meW (pl := pl) ho.pe c0.cl hm F (hr.mono hn) hb (fun σ => passAt tk σ) ha.pa h1 h2 h3, sem_met ho.sem ha.sem⟩
theorem ve_met0 {pl : PySem.Sem Bool} (c0 : MetOk X.prog X.w X.K X.mg X.base B c m k ps pf) (hr : Room n X.A) (hn : k ≤ n) (tk : Takes X W) (ho : VE X B W o ta mo)
    (h3 : eval (.Call (.Attribute o m apos) [] [] pos) X.env = (do
      let v ← eval o X.env
      standAt apos.atName
      let (g, first) ← holding [v] (getMethod v m pl)
      callWith pos g first (backTo pos (starEach [] X.env)) (backToKw pos (keywordEach [] X.env))) := by rfl) :
    VE X B W (.Call (.Attribute o m apos) [] [] pos) (tMeW (He.ga X.K c) m (spI X.K B pf) (WE W) ta tNil) (eMet c m pf mo aNil) := by
  obtain ⟨f, fd, F, hm, hb⟩ := c0.ex
  exact ⟨pe_meW0 (pl := pl) ho.pe c0.cl hm F (hr.mono hn) hb (fun σ => passAt tk σ) h3, sem_met ho.sem va_nil.sem⟩
theorem Le.made {th : List Addr} {G H : Hp} {x dx : Addr} {o u : HO} (hx : H x = none) (hd : H dx = none) : Le th G H (th ++ [x]) G (upd (upd H dx o) x u) :=
  ⟨List.prefix_append _ _, Sub.refl G, fun a v e g hn => by
    have h1 : a ≠ x := ne_of_none e hx
    have h2 : a ≠ dx := ne_of_none e hd
    exact ⟨by rw [upd_ne h1, upd_ne h2, e]; exact keepF_self v, g, fun z => by
      rcases List.mem_append.mp z with z | z
      · exact hn z
      · exact h1 (by simpa using z)⟩⟩
theorem sem_make {K : PySem.W.Frag} (ha : Sem K B W (relA K) t ma) : Sem K B W (relE K) (tMkW (He.ga K c) (spI K B pf) (WE W) t) (eMake c pf ma) := fun s th G σ H Q R P =>
  ha s th G σ H _ R (P.bind fun ds s1 th1 G1 H1 vs l1 R1 r1 P1 x dx hx hd hne => by
    have hx2 : (upd H1 dx (.own x)) x = none := by rw [upd_ne (Ne.symm hne)]; exact hx
    have R2 := (R1.asideNew (.own x) hd).asideNew (.ins (He.ga K c) dx []) hx2
    have R3 := R2.own (p := x) (by rw [upd_same]; exact fun z => nomatch z) (R1.thne hx) (ob := .ins c []) ⟨R1.gnone hx, dx, [], upd_same, rfl, rfl⟩
    have l3 : Le th1 G1 H1 (th1 ++ [x]) G1 (upd (upd H1 dx (.own x)) x (.ins (He.ga K c) dx [])) := Le.made hx hd
    have hself : At K (th1 ++ [x]) G1 (.loc s1.m.length) (.ref x) := ⟨x, by rw [← R1.tl]; simp, rfl⟩
    refine ⟨th1 ++ [x], G1, s1.m ++ [.ins c []], .loc s1.m.length :: ds, R3.bare, .cons hself (r1.mono l3.pre l3.ex), ?_⟩
    cases hf : pf (.loc s1.m.length :: ds) (s1.m ++ [.ins c []]) with
    | ok d m' =>
      rw [hf] at P1
      cases d with
      | non => exact fun th' G' H' v l R4 r4 => ⟨r4, P1 th' G' H' (.ref x) (l3.trans l) (R1.dress (l3.trans l) R4) ⟨x, pre_get l.pre (by rw [← R1.tl]; simp), rfl⟩⟩
      | _ => exact P1.elim
    | ex e m' =>
      rw [hf] at P1
      exact fun th' G' H' cls dd l R4 r4 => P1 th' G' H' cls dd (l3.trans l) (R1.dress (l3.trans l) R4) r4
    | no => rw [hf] at P1; exact P1.elim)
theorem ve_make (c0 : MkOk X.prog X.w X.K X.mg X.base B c k ps pf) (hr : Room n X.A) (hn : k + 1 ≤ n) (hg : Gl X c) (tk : Takes X W) (ha : VA X B W (e :: es) t ma) (hdb : (c == ("__debug__" : Str)) = false := by decide)
    (h1 : starEach (e :: es) X.env = (false, eval e X.env) :: starEach es X.env := by rfl) (h2 : (backTo pos (starEach es X.env)).any (·.1) = false := by rfl) :
    VE X B W (.Call (.Name c p) (e :: es) [] pos) (tMkW (He.ga X.K c) (spI X.K B pf) (WE W) t) (eMake c pf ma) := by
  obtain ⟨f, fd, F, hm, hb⟩ := c0.ex
  exact ⟨pe_mkW hm F (hr.mono hn) hg c0.gl hb (fun σ => passAt tk σ) ha.pa hdb h1 h2, sem_make ha.sem⟩
end
end VL
set_option maxHeartbeats 3200000
/-! sorted(set(xs)) of a list of ints; max of a list; e.f as a target; what a field gains; facts of own classes -/
namespace SI
open PySem PySem.Spec PyProof.Rows L2
abbrev nob (w : World) : Obj := { cls := .type "set", dict := none, data := .set #[] 0 (.fresh 0 0 (!w.params.followText "set-order")) }
section
variable {P : Program} {w : World} {A : Around} {E : Value → Shared → Prop} {s : Shared}
theorem set_of_list {l : Addr} {items : Array Value} (ns : List Int) {Q : Value → Shared → Prop} (hh : A.handled = none) (hl : s.heap.IsList l items) (hit : IntsAre items.toList ns) (hb : ns.length + 1 < scanBound)
    (h : ∀ (h' : Heap) (tk c : Nat), SetR w h' s.heap.objs.size (fun j => decide (j ∈ ns)) c → c ≤ ns.length → (∀ b o, s.heap.get? b = some o → h'.get? b = some o) → Q (.ref s.heap.objs.size) { s with heap := h', toks := tk }) :
    wpAny (model P w) A (call (.type "set") [.ref l]) Q E s := by
  have hisz : items.size = ns.length := by
    have q := IntsAre.length hit
    rw [Array.length_toList] at q
    exact q
  obtain ⟨c, tl, hmro⟩ := F.called_set.mro
  have hmade := F.called_set.made
  have hsub := F.called_set.sub
  refine wpAny_call (codeAny_of_tree ?_)
  show wpAny _ _ (callAny (.type "set") _) _ _ _
  refine wpAny_pure ⟨Code.quiet_builtin _ (by decide +kernel), codeAny_builtin F.entry_type_call ?_⟩
  rw [Around.under_plain (weight_type_call_type "set" [.ref l] []) rfl]
  have h1 := F.called_set.notType
  have h2 := F.called_set.canCreate
  have hct := F.typeCall_set_1 (.ref l)
  repeat (any_goals (first | assumption | wp_step))

  refine codeAny_mono (code_set_led1 (.ref l) (E := E) (Q₁ := fun obj s₁ => obj = .ref s.heap.objs.size ∧ s₁ = { s with heap := s.heap.push (nob w) }) ⟨rfl, rfl⟩) fun r s₁ hr => ?_
  cases r with
  | error e => exact hr
  | ok fl =>
    cases fl with
    | ret obj =>
      obtain ⟨rfl, rfl⟩ := hr
      have hS : (s.heap.push (nob w)).get? s.heap.objs.size = some (nob w) := Heap.get?_push_size _ rfl
      have hT : Shared.TypeIs { s with heap := s.heap.push (nob w) } (.ref s.heap.objs.size) "set" := ⟨_, hS, rfl⟩
      have hli := F.called_set.init.lookup
      have hbi := F.called_set.init.bind (.ref s.heap.objs.size)
      repeat (any_goals (first | assumption | wp_step))

      refine codeAny_mono (codeAny_call_builtin (R := wants (fun r s₂ => r = .none ∧ ∃ h' tk c, s₂ = { s with heap := h', toks := tk } ∧ SetR w h' s.heap.objs.size (fun j => decide (j ∈ ns)) c ∧ c ≤ ns.length ∧
          (∀ b o, s.heap.get? b = some o → h'.get? b = some o)) E) F.called_set.init.plain F.entry_set_init (check_set_init_1 hT ?_)) fun r₂ s₂ hr₂ => ?_
      · obtain ⟨ol, hol, hcl, nl, hdl⟩ := hl
        obtain ⟨ocls, odict, odata, oslots⟩ := ol
        simp only at hcl hdl
        subst hcl; subst hdl
        have hol' : (s.heap.push (nob w)).get? l = some { cls := .type "list", dict := odict, data := .seq items nl, slots := oslots } := Heap.get?_push_of_some _ hol
        have hsls := F.sub_list_set
        have hslf := F.sub_list_frozenset
        have hne : (Value.type "list" == Value.type "dict") = false := by decide
        have hl1 : (s.heap.push (nob w)).IsList l items := ⟨_, hol', rfl, nl, rfl⟩
        unfold Builtin.«set.__init__» noKeywords Builtin.Frozenset.updateFrom
        generalize hPI : pyIter = PI
        wp_walk
        subst hPI

        refine wpAny_pyIter_list hl1 ?_
        refine wpAny_bind (wpAny_runValue ?_)
        have hlS : l < s.heap.objs.size := Heap.lt_size hol
        have hh3 : A.in1.in1.in1.handled = none := by simp [hh]
        have hz1 : (s.heap.push (nob w)).objs.size = s.heap.objs.size + 1 := Heap.size_push ..
        have hneI : l ≠ (s.heap.push (nob w)).objs.size := by
          rw [Heap.size_push]; exact Nat.ne_of_lt (Nat.lt_succ_of_lt hlS)
        have hSf : s.heap.objs.size ∉ [(s.heap.push (nob w)).objs.size, l] := by
          rw [Heap.size_push]; simp only [List.mem_cons, List.mem_singleton, List.not_mem_nil, or_false, not_or]
          exact ⟨Nat.ne_of_lt (Nat.lt_succ_self _), Nat.ne_of_gt hlS⟩
        have hval : ∀ (i : Nat) (v : Value), items[i]? = some v → ∃ k t, ns[i]? = some k ∧ v = .int k t := fun i v hv => by
          have hi : i < ns.length := by rw [← hisz]; exact (Array.getElem?_eq_some_iff.mp hv).1
          obtain ⟨t, e⟩ := PyProof.Rows.IntsAre.int_at hit i v (by rw [Array.getElem?_toList]; exact hv)
          refine ⟨ns[i], t, List.getElem?_eq_getElem hi, ?_⟩
          rw [e, List.getD_eq_getElem?_getD, List.getElem?_eq_getElem hi] <;> rfl
        refine set_update_ints ((Walks.list hh3 _ l hneI items).toS) s.heap.objs.size
          hSf ns hisz hb hval (items.size - 0) 0 _ (by omega) (Nat.zero_le _)
          ⟨⟨_, Heap.get?_push_size _ rfl, rfl, rfl⟩, (hl1.push _)⟩ ?hS0 ?hR
        case hS0 =>
          have hget : ((s.heap.push (nob w)).push { cls := .type "list_iterator", data := .fields #[.ref l, .int 0 0] }).get? s.heap.objs.size
              = some (nob w) := Heap.get?_push_of_some _ hS
          exact ⟨0, Nat.le_refl 0, setR_new_at hget⟩
        case hR =>
          intro s' c' hm hc' hS'
          obtain ⟨h', g2, d', tk', os'⟩ := s'
          have eg : g2 = s.gens := hm.gens
          have ed : d' = s.drawn := hm.drawn
          have eo : os' = s.os := hm.os
          subst eg; subst ed; subst eo
          show wpAny _ _ _ _ _ _
          refine wpAny_pure ?_
          show wpAny _ _ (ret Value.none) _ _ _
          rw [hisz] at hc'
          refine wpAny_pure ⟨rfl, h', tk', c', rfl, hS', hc', fun b o e => ?_⟩
          have hb0 : b < s.heap.objs.size := Heap.lt_size e
          have hb1 : b ≠ s.heap.objs.size := Nat.ne_of_lt hb0
          have hb2 : b ≠ (s.heap.push (nob w)).objs.size := by
            rw [Heap.size_push]; exact Nat.ne_of_lt (Nat.lt_succ_of_lt hb0)
          exact hm.heap b o (by simp only [List.mem_cons, List.mem_singleton, List.not_mem_nil, or_false, not_or]; exact ⟨hb1, hb2⟩) (Heap.get?_push_of_some _ (Heap.get?_push_of_some _ e))

      · cases r₂ with
        | error e => exact hr₂
        | ok fl₂ =>
          cases fl₂ with
          | ret r =>
            obtain ⟨rfl, h', tk, c', rfl, hS', hc', hk'⟩ := hr₂
            repeat (any_goals (first | assumption | wp_step))
            exact h _ _ _ hS' hc' hk'
          | _ => exact hr₂.elim
    | _ => exact hr.elim

end
end SI
namespace VL
open PySem PySem.Spec PyProof.Rows L2
/-! ### sorted(set(xs)), xs a list of ints -/
def rSetL (K : PySem.W.Frag) (w : World) : List V → Hp → VK → Prop := fun xs H Q => ∃ (a : Addr) (ns : List Int), xs = [.ref a] ∧ SqL K H a (ns.map V.int) ∧ ns.length + 1 < scanBound ∧
  ∀ p c, H p = none → c ≤ ns.length → Q (.ref p) (upd H p (SetO w p (fun j => decide (j ∈ ns)) c))
section
variable {X : Cx}
theorem cr_setL (hc : X.calm = true) : CallR X (.type "set") (rSetL X.K X.w) := by
  intro pins s σ H xs us Q I r h
  obtain ⟨a, ns, rfl, hs, hb, q⟩ := h
  obtain ⟨its, rv, ⟨o, n, ho, hcl, hd, hdat⟩, hz⟩ := I.list hs
  rw [Vals.ref1 r]
  refine SI.set_of_list (items := its.toArray) ns (I.ok.hd hc) ⟨o, ho, hcl, n, hdat⟩ (ints_of_vals rv) hb fun h' tk c R hcn k => ?_
  exact ⟨.ref s.heap.objs.size, upd H s.heap.objs.size (SetO X.w s.heap.objs.size (fun j => decide (j ∈ ns)) c), I.laid (t' := tk) k (Nat.le_refl _) (setO_new R), rfl, q _ c (I.hok.fresh (Nat.le_refl _)) hcn⟩
end
def insU (a : Int) : List Int → List Int
  | [] => [a]
  | b :: l => if a < b then a :: b :: l else if a = b then b :: l else b :: insU a l
def sortU (l : List Int) : List Int := l.foldr insU []
theorem mem_insU {a x : Int} : ∀ {l : List Int}, x ∈ insU a l ↔ x = a ∨ x ∈ l
  | [] => by simp [insU]
  | b :: l => by
    have ih := mem_insU (a := a) (x := x) (l := l)
    unfold insU
    split
    · simp
    · split
      · rename_i h; subst h; simp
      · rw [List.mem_cons, ih, List.mem_cons]
        constructor
        · rintro (h | h | h)
          · exact .inr (.inl h)
          · exact .inl h
          · exact .inr (.inr h)
        · rintro (h | h | h)
          · exact .inr (.inl h)
          · exact .inl h
          · exact .inr (.inr h)
theorem insU_lt {a : Int} : ∀ {l : List Int}, l.Pairwise (· < ·) → (insU a l).Pairwise (· < ·)
  | [], _ => by simp [insU]
  | b :: l, h => by
    obtain ⟨h1, h2⟩ := List.pairwise_cons.mp h
    unfold insU
    split
    · rename_i hab
      refine List.pairwise_cons.mpr ⟨fun x hx => ?_, h⟩
      rcases List.mem_cons.mp hx with rfl | hx
      · exact hab
      · have := h1 x hx; omega
    · split
      · exact h
      · refine List.pairwise_cons.mpr ⟨fun x hx => ?_, insU_lt h2⟩
        rcases mem_insU.mp hx with rfl | hx
        · omega
        · exact h1 x hx
theorem mem_sortU {x : Int} : ∀ {l : List Int}, x ∈ sortU l ↔ x ∈ l
  | [] => by simp [sortU]
  | a :: l => by
    have ih := mem_sortU (x := x) (l := l)
    show x ∈ insU a (sortU l) ↔ _
    rw [mem_insU, ih, List.mem_cons]
theorem sortU_lt : ∀ l : List Int, (sortU l).Pairwise (· < ·)
  | [] => List.Pairwise.nil
  | a :: l => insU_lt (sortU_lt l)
theorem insU_len {a : Int} : ∀ l : List Int, (insU a l).length ≤ l.length + 1
  | [] => by simp [insU]
  | b :: l => by
    have := insU_len (a := a) l
    unfold insU
    split
    · simp
    · split
      · simp
      · simp; omega
theorem sortU_len : ∀ l : List Int, (sortU l).length ≤ l.length
  | [] => Nat.le_refl _
  | a :: l => by
    have h1 := sortU_len l
    have h2 := insU_len (a := a) (sortU l)
    show (insU a (sortU l)).length ≤ _
    rw [List.length_cons]
    omega
theorem lt_unique : ∀ {l k : List Int}, l.Pairwise (· < ·) → k.Pairwise (· < ·) → (∀ x, x ∈ l ↔ x ∈ k) → l = k
  | [], [], _, _, _ => rfl
  | [], b :: k, _, _, h => by have := (h b).mpr (by simp); cases this
  | a :: l, [], _, _, h => by have := (h a).mp (by simp); cases this
  | a :: l, b :: k, h1, h2, h => by
    obtain ⟨p1, p2⟩ := List.pairwise_cons.mp h1
    obtain ⟨q1, q2⟩ := List.pairwise_cons.mp h2
    have e : a = b := by
      rcases List.mem_cons.mp ((h a).mp (by simp)) with e | e
      · exact e
      · rcases List.mem_cons.mp ((h b).mpr (by simp)) with e2 | e2
        · exact e2.symm
        · have := q1 a e; have := p1 b e2; omega
    subst e
    have := lt_unique p2 q2 fun x => by
      have hx := h x
      rw [List.mem_cons, List.mem_cons] at hx
      constructor
      · intro hl
        rcases hx.mp (.inr hl) with e | e
        · subst e; have := p1 x hl; omega
        · exact e
      · intro hk
        rcases hx.mpr (.inr hk) with e | e
        · subst e; have := q1 x hk; omega
        · exact e
    rw [this]
def fSortSet (m : ME) : MF := fun s => (m s).bind fun d s => match lstOf s d with
  | some l => match intsD l with
    | some ns => if ns.length < 63 then .ok (.lst ((sortU ns).map D.int), s) else .no
    | none => .no
  | none => .no
section
variable {X : Cx} {B : Bs} {W : WX} {e o value tg : Expr} {ta tb tv : TE} {ma mb mo mv : ME} {p p2 p3 pos tpos : Pos}
theorem vf_sortSet (hcalm : X.calm = true) (hm : X.mg "sorted" = none) (hm2 : X.mg "set" = none) (ha : VE X B W e ta ma) (hg : Gl X "sorted" := by rfl) (hg2 : Gl X "set" := by rfl)
    (he : starEach [e] X.env = [(false, eval e X.env)] := by rfl) (he2 : starEach [.Call (.Name "set" p2) [e] [] p3] X.env = [(false, eval (.Call (.Name "set" p2) [e] [] p3) X.env)] := by rfl) :
    VF X B W (.Call (.Name "sorted" p) [.Call (.Name "set" p2) [e] [] p3] [] pos) (tCB (rSortedSet X.w) (tCons (tCB (rSetL X.K X.w) (tCons ta tNil)) tNil)) (fSortSet ma) := by
  refine ⟨pe_callB (cr_sortedSet hcalm) hg hm vb_sorted (pa_cons (pe_callTy (cr_setL hcalm) hg2 hm2 vb_set (pa_cons ha.pe pa_nil he) (by decide) (by decide) he rfl) pa_nil he2) (by decide) (by decide) he2 rfl, fun s th G σ H Q R P => ?_⟩
  refine ha.sem s th G σ H _ R (P.bind fun d s1 th1 G1 H1 vd l1 R1 r1 P1 => ?_)
  cases hl : lstOf s1 d with
  | none => rw [hl] at P1; exact P1.elim
  | some l =>
    rw [hl] at P1
    dsimp only at P1
    cases hi : intsD l with
    | none => rw [hi] at P1; exact P1.elim
    | some ns =>
      rw [hi] at P1
      dsimp only at P1
      by_cases hn : ns.length < 63
      · rw [if_pos hn] at P1
        obtain ⟨a, vs, rfl, q, r⟩ := R1.lst_of r1 hl
        rw [intsD_eq hi] at r
        rw [r.ints] at q
        have hsb : scanBound = 30000 ∨ 64 ≤ scanBound := .inr (by decide)
        refine ⟨a, ns, rfl, SqL.of q, by rcases hsb with e | e <;> omega, fun p0 c hp hc => ⟨p0, _, c, rfl, upd_same, by omega, fun ns' p' hlt hmem hlen hp' => ?_⟩⟩
        have e1 : ns' = sortU ns := lt_unique hlt (sortU_lt ns) fun x => by
          rw [hmem x, mem_sortU]
          simp
        subst e1
        have R2 := R1.asideNew (SetO X.w p0 (fun j => decide (j ∈ ns)) c) hp
        have hpn : p' ≠ p0 := fun z => by rw [z, upd_same] at hp'; cases hp'
        have hp1 : H1 p' = none := by rw [upd_ne hpn] at hp'; exact hp'
        have R3 := R2.asideNew (.lst ((sortU ns).map V.int)) hp'
        have l3 : Le th1 G1 H1 th1 G1 (upd (upd H1 p0 (SetO X.w p0 (fun j => decide (j ∈ ns)) c)) p' (.lst ((sortU ns).map V.int))) := ((Le.refl th1 G1 H1).aside hp).aside hp1
        exact P1 th1 G1 _ _ l3 R3 ⟨p', rfl, (fun z => nomatch z), ⟨R1.gnone hp1, _, upd_same, atL_ints _⟩, R1.thne hp1, hp1⟩
      · rw [if_neg hn] at P1; exact P1.elim
/-! ### max of a list -/
def maxL : List Int → Int
  | [] => 0
  | [a] => a
  | a :: b :: l => if a < maxL (b :: l) then maxL (b :: l) else a
theorem maxL_spec : ∀ {l : List Int}, l ≠ [] → maxL l ∈ l ∧ ∀ y ∈ l, y ≤ maxL l
  | [a], _ => ⟨by simp [maxL], fun y hy => by simp at hy; rw [hy]; simp [maxL]⟩
  | a :: b :: l, _ => by
    obtain ⟨h1, h2⟩ := maxL_spec (l := b :: l) (by simp)
    unfold maxL
    split
    · rename_i h
      refine ⟨List.mem_cons_of_mem _ h1, fun y hy => ?_⟩
      rcases List.mem_cons.mp hy with rfl | hy
      · omega
      · exact h2 y hy
    · rename_i h
      refine ⟨by simp, fun y hy => ?_⟩
      rcases List.mem_cons.mp hy with rfl | hy
      · omega
      · have := h2 y hy; omega
def gMaxL : S → D → Option D := fun s d => match lstOf s d with
  | some l => match intsD l with
    | some (n :: ns) => some (.int (maxL (n :: ns)))
    | _ => none
  | none => none
theorem semC_maxL {K : PySem.W.Frag} : SemC K B W (rMax K) (c1 gMaxL) := semC_1 fun s th G σ H Q d v z R h e P => by
  simp only [gMaxL] at e
  cases e1 : lstOf s d with
  | none => rw [e1] at e; cases e
  | some l =>
    rw [e1] at e
    simp only at e
    cases e2 : intsD l with
    | none => rw [e2] at e; cases e
    | some ns =>
      rw [e2] at e
      cases ns with
      | nil => cases e
      | cons n ns =>
        cases e
        obtain ⟨p, vs, rfl, q, r⟩ := R.lst_of h e1
        rw [intsD_eq e2] at r
        rw [r.ints] at q
        refine ⟨p, n :: ns, rfl, SqL.of q, by simp, fun m h1 h2 => ?_⟩
        obtain ⟨h3, h4⟩ := maxL_spec (l := n :: ns) (by simp)
        have h5 : m = maxL (n :: ns) := Int.le_antisymm (h4 _ h1) (h2 _ h3)
        rw [h5]
        exact Post.ok (rel := relE K) P R rfl
/-! ### e.f as one target among others -/
def tgF (K : PySem.W.Frag) (ta : TE) (f : Str) : TG := fun v σ H Q => ta σ H fun x H1 => ∃ a C dx fs, x = .ref a ∧ H1 a = some (.ins C dx fs) ∧ Cls K C ∧ NoAttr K C f ∧ fs.length < 1000 ∧ Q σ (upd H1 a (.ins C dx (putF f v fs)))
theorem pg_att {f : Str} (ho : PE X o ta) : PG X (.Attribute o f pos) (tgF X.K ta f) :=
  ⟨fun pins s σ H v u Q I rv h => PySem.W.kas_attr (thn (ho.run pins s σ H _ I h) fun ov s1 ⟨x, H1, I1, rx, a, C, dx, fs, ex, ea, c, n, l, q⟩ => by
    subst ex
    obtain rfl : ov = Value.ref a := rx
    exact setattr_ok I1 ea c n l rv fun s2 I2 => ⟨σ, _, I2, q⟩)⟩
def gAtt (c f : Str) (mo : ME) : MG := fun d s => match mo s with
  | .ok (.loc n, s) => setIns n c f d s
  | _ => .no
theorem setIns_nx {n : Nat} {c f : Str} {d : D} {s : S} : (∃ s', setIns n c f d s = .nx s') ∨ setIns n c f d s = .no := by
  unfold setIns
  split
  · split
    · exact .inl ⟨_, rfl⟩
    · exact .inr rfl
  · exact .inr rfl
theorem gatt_ok {c f : Str} {mo : ME} : GOk (gAtt c f mo) := fun d s => by
  unfold gAtt
  split
  · exact setIns_nx
  · exact .inr rfl
theorem vg_att {c f : Str} (cl : Cls X.K (He.ga X.K c)) (na : NoAttr X.K (He.ga X.K c) f) (ho : VE X B W o ta mo) : VG X B W (.Attribute o f pos) (tgF X.K ta f) (gAtt c f mo) :=
  ⟨pg_att ho.pe, fun s th G σ H d v Q R hv P => by
    unfold gAtt at P
    cases hm : mo s with
    | ok z =>
      obtain ⟨od, s1⟩ := z
      rw [hm] at P
      cases od with
      | loc n =>
        dsimp only at P
        have P0 : Post X.K B W σ th G H (relE X.K) (mo s) (fun x H1 => ∃ a C dx fs, x = .ref a ∧ H1 a = some (.ins C dx fs) ∧ Cls X.K C ∧ NoAttr X.K C f ∧ fs.length < 1000 ∧ Q σ (upd H1 a (.ins C dx (putF f v fs)))) := by
          rw [hm]
          intro th1 G1 H1 vo l1 R1 r1
          obtain ⟨a, dx, fs, rfl, q, hl, hn⟩ := setIns_ok R1 r1 (hv.mono l1.pre l1.ex) (PostS.later l1 P)
          exact ⟨a, _, dx, fs, rfl, q, cl, na, hl, hn⟩
        exact ho.sem s th G σ H _ R P0
      | _ => exact P.elim
    | ex e2 s1 => rw [hm] at P; exact P.elim
    | no => rw [hm] at P; exact P.elim⟩
/-! ### e.f += e2 -/
theorem InOp.or {op : Operator} {r u : V → V → Hp → VK → Prop} (h : InOp X op r) (k : InOp X op u) : InOp X op (fun x y H Q => r x y H Q ∨ u x y H Q) := fun pins s σ H x y u' v Q I rx ry hw => by
  rcases hw with hw | hw
  · exact h pins s σ H x y u' v Q I rx ry hw
  · exact k pins s σ H x y u' v Q I rx ry hw
def fInA : D → D → S → R (D × S) := fun x y s => match x, y with
  | .int i, .int j => .ok (.int (i + j), s)
  | .str a, .str b => if a.length + b.length ≤ SZ then .ok (.str (a ++ b), s) else .no
  | _, _ => .no
theorem in_addA : InOp X .Add (fun x y H Q => rAdd x y H Q ∨ rAddS x y H Q) := VL.InOp.or in_add in_addS
theorem semR_inA {K : PySem.W.Frag} : SemR K B W (fun x y H Q => rAdd x y H Q ∨ rAddS x y H Q) fInA := fun s th G σ H Q x y vx vy R rx ry P => by
  cases x with
  | int i =>
    cases y with
    | int j =>
      cases rx; cases ry
      exact .inl ⟨i, j, rfl, rfl, Post.ok (rel := relE K) P R rfl⟩
    | _ => exact P.elim
  | str a =>
    cases y with
    | str b =>
      cases rx; cases ry
      simp only [fInA] at P
      split at P
      · rename_i h
        refine .inr ⟨_, _, rfl, rfl, h, ?_⟩
        rw [str_app]
        exact Post.ok (rel := relE K) P R rfl
      · exact P.elim
    | _ => exact P.elim
  | _ => exact P.elim
def fInS : D → D → S → R (D × S) := fun x y s => match x, y with
  | .int i, .int j => .ok (.int (i - j), s)
  | _, _ => .no
theorem semR_inS {K : PySem.W.Frag} : SemR K B W rSub fInS := fun s th G σ H Q x y vx vy R rx ry P => by
  cases x with
  | int i =>
    cases y with
    | int j =>
      cases rx; cases ry
      exact ⟨i, j, rfl, rfl, Post.ok (rel := relE K) P R rfl⟩
    | _ => exact P.elim
  | _ => exact P.elim
end
/-! ### facts for the end -/
section
variable {P : Program} {w : World} {K : PySem.W.Frag} {mg : Str → Option Value} {base : Heap} {B : Bs} {x m c q : Str} {k : Nat} {ps : List Str} {pf : List D → List Ob → IR} {params : Arguments} {body : List Stmt} {scope : Scope} {kws : List (Str × V)} {f : Addr} {fd : FuncData}
theorem calli_ok (F : FunD K x q params body scope [] kws f fd) (hm : mg x = some (.ref f)) (h : FnI P w K mg base B k f fd ps pf)
    (hb : ∀ (kV doc pm : Value) (an : Option Addr) (cdv ct : Value) (us : List Value), us.length = ps.length → bindArgs (PySem.W.fnOf x q params body scope .none kV doc pm an cdv ct) ⟨us, []⟩ = pure (ps.zip us)) : CallOkI P w K mg base B x k ps pf :=
  ⟨f, fd, h, hm, F.kp, F.bindsN hb⟩
theorem met_ok (F : FunD K m q params body scope [] kws f fd) (cl : Cls K (He.ga K c)) (mt : Meth K (He.ga K c) m f) (h : FnI P w K mg base B k f fd ps pf)
    (hb : ∀ (kV doc pm : Value) (an : Option Addr) (cdv ct : Value) (us : List Value), us.length = ps.length → bindArgs (PySem.W.fnOf m q params body scope .none kV doc pm an cdv ct) ⟨us, []⟩ = pure (ps.zip us)) : MetOk P w K mg base B c m k ps pf :=
  ⟨⟨f, fd, h, mt, F.bindsN hb⟩, cl⟩
theorem mko_ok (F : FunD K m q params body scope [] kws f fd) (gl : mg c = some (.ref (He.ga K c))) (mk : Mk K (He.ga K c) f) (h : FnI P w K mg base B k f fd ps pf)
    (hb : ∀ (kV doc pm : Value) (an : Option Addr) (cdv ct : Value) (us : List Value), us.length = ps.length → bindArgs (PySem.W.fnOf m q params body scope .none kV doc pm an cdv ct) ⟨us, []⟩ = pure (ps.zip us)) : MkOk P w K mg base B c k ps pf :=
  ⟨⟨f, fd, h, mk, F.bindsN hb⟩, gl⟩
end
end VL
/-! own exceptions without a field, with one field; raise X() -/
namespace VL
open PySem PySem.W PySem.Calls PyProof.Rows
section
variable {prog : Program} {w : World} {A : Around} {E : Value → Shared → Prop} {env : Env} {m : Str → Option Value}
theorem tells_c {z0 : Str} {k0 : Nat} {m0 : Pos} : XI.Tells prog w A E env m (.Constant (.str z0) k0 m0) := fun s1 R hn q => by
  exact wpAny_Constant_str (q _ _)
theorem tells_tf {z0 x : Str} {v : Value} {k0 : Nat} {m0 m1 m2 m6 : Pos} (h0 : z0.length ≤ 1000000) (hv : XI.Short v) (e1 : m x = some v) (hk : env.scope.kind = .function) (hx : env.kindOf x = some .local) (hd : (x == ("__debug__" : Str)) = false) :
    XI.Tells prog w A E env m (.JoinedStr [.Constant (.str z0) k0 m0, .FormattedValue (.Name x m1) (-1) none m2] m6) := fun s1 R hn q => by
  refine wpAny_JoinedStr (XI.joinsM (es := [_, _]) (by simp) (fun e he => ?_) hn q)
  simp only [List.mem_cons, List.not_mem_nil, or_false] at he
  rcases he with rfl | rfl
  · exact XI.piece_txt h0
  · exact XI.piece_fld e1 hv hk hx hd
theorem tells_ft {z1 x : Str} {v : Value} {k1 : Nat} {m1 m2 m3 m6 : Pos} (h1 : z1.length ≤ 1000000) (hv : XI.Short v) (e1 : m x = some v) (hk : env.scope.kind = .function) (hx : env.kindOf x = some .local) (hd : (x == ("__debug__" : Str)) = false) :
    XI.Tells prog w A E env m (.JoinedStr [.FormattedValue (.Name x m1) (-1) none m2, .Constant (.str z1) k1 m3] m6) := fun s1 R hn q => by
  refine wpAny_JoinedStr (XI.joinsM (es := [_, _]) (by simp) (fun e he => ?_) hn q)
  simp only [List.mem_cons, List.not_mem_nil, or_false] at he
  rcases he with rfl | rfl
  · exact XI.piece_fld e1 hv hk hx hd
  · exact XI.piece_txt h1
theorem tells_tft {z0 z1 x : Str} {v : Value} {k0 k1 : Nat} {m0 m1 m2 m3 m6 : Pos} (h0 : z0.length ≤ 1000000) (h1 : z1.length ≤ 1000000) (hv : XI.Short v) (e1 : m x = some v) (hk : env.scope.kind = .function) (hx : env.kindOf x = some .local) (hd : (x == ("__debug__" : Str)) = false) :
    XI.Tells prog w A E env m (.JoinedStr [.Constant (.str z0) k0 m0, .FormattedValue (.Name x m1) (-1) none m2, .Constant (.str z1) k1 m3] m6) := fun s1 R hn q => by
  refine wpAny_JoinedStr (XI.joinsM (es := [_, _, _]) (by simp) (fun e he => ?_) hn q)
  simp only [List.mem_cons, List.not_mem_nil, or_false] at he
  rcases he with rfl | rfl | rfl
  · exact XI.piece_txt h0
  · exact XI.piece_fld e1 hv hk hx hd
  · exact XI.piece_txt h1
end
end VL
namespace VL
open PySem PySem.Spec PyProof.Rows L2 He PySem.W
section
variable {prog : Program} {w : World} {K : Frag} {mg : Str → Option Value} {x q file f : Str} {e : Expr} {a1 a2 p0 p1 p2 p3 p4 u1 u2 u3 u4 : Pos}
theorem mk1 (T : ExcT K x) (hw : iniW K x = (⟨x, q, XI.iAs [XI.iArg "self" a1, XI.iArg f a2], [XI.iR e p0 p1 p2 p3 p4, XI.iF f u1 u2 u3 u4], XI.iSc ["self", f]⟩ : IniD).val) (hB : iniB K x q file = true) (hff : f = "line" ∨ f = "place" ∨ f = "tick" ∨ f = "amount")
    (hf : prog.main.file = file) (hs : (prog.main.scope.names.lookup ("super" : Str)).isSome = false) (hn : mg "super" = none) (hg : mg x = some (.ref (ga K x))) (n1 : findIn K (.ref (ga K x)) f = some none)
    (hst : ∀ env, starEach [e] env = [(false, eval e env)]) (hl : (p2.endLine == p3.line) = true) (hsw : ∀ env, swapsWith (.Call (.Attribute (.Call (.Name "super" p0) [] [] p1) "__init__" p2) [e] [] p3) none p4.line env = pure false)
    (hmsg : ∀ (cc cda : Addr) (v : Value) A E L m, XI.Short v → m f = some v → XI.Tells prog w A E (ksEnv q (XI.iSc ["self", f]) L (iniAd K x) (.ref cda) cc) m e) :
    ExcMk prog w K mg x (ga K x) [f] := by
  obtain ⟨oc, doc, pm, ct, od, an, osl, cda, cc, ho, c1, c2, c3⟩ := ini_ok (d := ⟨x, q, _, _, _⟩) hw hB
  refine ⟨hg, ⟨iniAd K x, T.c, fun us hl2 hsh => ?_⟩, by simp⟩
  match us, hl2 with
  | [v], _ =>
    intro A s R y t0 mb X G B b lim room hy hnx hq
    exact XI.init1 (T.txt (mg := mg) c1 c2 hf hs hn) (s := s) hff ho c3 T.sa n1 hst hl hsw (fun A E L m => hmsg cc cda v A E L m (hsh v (by simp))) X G B b lim room hy hnx fun h' tk dx t1 z => hq h' tk (some dx) t1 (by simp) ⟨z.keep, z.obj, fun d hd => by
      cases hd
      refine ⟨z.dbig, z.dne, ?_⟩
      have ez : (fun y : Str => if y = f then some v else none) = fun y : Str => List.lookup y ([f].zip [v]) := by
        funext y
        by_cases e1 : y = f
        · subst e1; simp [List.lookup]
        · have b1 : (y == f) = false := by simpa using e1
          simp [List.lookup, b1, e1]
      rw [← ez]
      exact z.ns⟩
theorem mk0 (T : ExcT K x) (hw : iniW K x = (⟨x, q, XI.iAs [XI.iArg "self" a1], [XI.iR e p0 p1 p2 p3 p4], XI.iSc ["self"]⟩ : IniD).val) (hB : iniB K x q file = true)
    (hf : prog.main.file = file) (hs : (prog.main.scope.names.lookup ("super" : Str)).isSome = false) (hn : mg "super" = none) (hg : mg x = some (.ref (ga K x)))
    (hst : ∀ env, starEach [e] env = [(false, eval e env)]) (hl : (p2.endLine == p3.line) = true) (hsw : ∀ env, swapsWith (.Call (.Attribute (.Call (.Name "super" p0) [] [] p1) "__init__" p2) [e] [] p3) none p4.line env = pure false)
    (hmsg : ∀ (cc cda : Addr) A E L m, XI.Tells prog w A E (ksEnv q (XI.iSc ["self"]) L (iniAd K x) (.ref cda) cc) m e) :
    ExcMk prog w K mg x (ga K x) [] := by
  obtain ⟨oc, doc, pm, ct, od, an, osl, cda, cc, ho, c1, c2, c3⟩ := ini_ok (d := ⟨x, q, _, _, _⟩) hw hB
  refine ⟨hg, ⟨iniAd K x, T.c, fun us hl2 hsh => ?_⟩, by simp⟩
  match us, hl2 with
  | [], _ =>
    intro A s R y t0 mb X G B b lim room hy hnx hq
    exact XI.init0 (T.txt (mg := mg) c1 c2 hf hs hn) (s := s) ho c3 hst hl hsw (fun A E L m => hmsg cc cda A E L m) X G B b lim room hy hnx fun h' tk t1 k1 k2 => hq h' tk none t1 (by simp) ⟨k1, k2, fun d hd => nomatch hd⟩
end
section
variable {X : Cx} {B : Bs} {W : WX} {pos p pos2 : Pos} {C : Addr}
theorem pmk_x0 {x : Str} {k : Nat} (T : ExcMk X.prog X.w X.K X.mg x C []) (hr : Room k X.A) (hg : Gl X x) (hdb : (x == ("__debug__" : Str)) = false := by decide) :
    PMk X (.Call (.Name x p) [] [] pos) (tMk C [] tNil) := by
  intro pins s σ H Q I h
  obtain ⟨fI, cl, ini⟩ := T.ini
  refine wpAny_Call_Name_kw (ld_glob I hg T.gC ?_ hdb)
  refine PySem.W.callWith_K0 I.kIn cl.kC ?_
  obtain ⟨_, _, q0, _⟩ := (show ([] : List V).length = ([] : List Str).length ∧ _ ∧ _ ∧ _ from h)
  obtain ⟨mb, hb1, hb2⟩ := I.mod.blt
  have hsup : mb "super" = some (.type "super") := (hb2 "super" (by decide)).trans (by decide +kernel)
  have lim := I.nolimit
  have hB : s.heap.Ns builtinsNs mb := hb1.keeps I.bk
  have hG : s.heap.Ns mainGlobals X.mg := I.mod.glob.keeps I.bk
  obtain ⟨h0, g, dr, tk, os⟩ := s
  refine wpAny_call (XI.made (s := ⟨h0, g, dr, tk, os⟩) cl (ini [] rfl (fun u hu => by simp at hu)) (by simp) I.kIn hG hB hsup lim (by have := hr.dp; omega) fun h' tk' e d hd M => ?_)
  show MkP X pins σ Q (.ref e) ⟨h', g, dr, tk', os⟩
  obtain ⟨oe, fv, hoe, hc, hdd, hdat, h1⟩ := M.obj
  have hd0 : d = none := hd.mpr (by simp)
  subst hd0
  obtain ⟨G', g1, g2⟩ := restrict h' fun b => decide (b ≠ e)
  have gk : ∀ b, b ≠ e → G'.get? b = h'.get? b := fun b hb => g1 b (decide_eq_true hb)
  have ge : G'.get? e = none := g2 e (by simp)
  have old : ∀ b o, h0.get? b = some o → G'.get? b = some o := fun b o q => (gk b (Nat.ne_of_lt (Nat.lt_of_lt_of_le (Heap.lt_size q) M.new))).trans (M.keep b o q)
  have back : ∀ b o, G'.get? b = some o → h'.get? b = some o := fun b o q => by
    by_cases hb : b = e
    · rw [hb, ge] at q; cases q
    · exact (gk b hb).symm.trans q
  have J : Inv X pins σ H ⟨G', g, dr, tk', os⟩ := I.kept (t' := tk') old
  exact ⟨e, oe, fv, ⟨G', g, dr, tk', os⟩, H, .ref C, none, rfl, J, back, ge, hoe, ⟨hc, hdd⟩, hdat, h1, I.hok.fresh M.new, rfl, I.bare, raises_own cl.exC cl.tyC, q0 rfl⟩
def sRaise0 (c : Str) : MS := fun s => .ex ⟨c, []⟩ s
theorem vs_raise0 {x : Str} {k : Nat} (hc : X.calm = true) (tk : Takes X W) (T : ExcMk X.prog X.w X.K X.mg x (B.cl x) []) (hr : Room k X.A) (hg : Gl X x := by rfl) (hdb : (x == ("__debug__" : Str)) = false := by decide) :
    VS X B W (.Raise (some (.Call (.Name x p) [] [] pos)) none pos2) (fun _ σ H => tMk (B.cl x) [] tNil σ H fun cls d H' => W cls d σ H') (sRaise0 x) :=
  ⟨ps_raise hc tk (pmk_x0 T hr hg hdb), fun s th G σ H Dn R P => ⟨rfl, fun v hv => (by simp at hv), fun _ => P th G H σ _ _ (Le.refl _ _ _) R ⟨rfl, [], rfl, rfl, fun _ => rfl, fun dd z => (by cases z)⟩, fun z => absurd rfl z⟩⟩
end
end VL
set_option maxHeartbeats 4000000
/-! dict(t) of a tuple of pairs -/
namespace L2
open PySem PySem.Spec PyProof.Rows
section
variable {X : Cx}
theorem kps_of {pins : List (Addr × Obj)} {σ : St} {H : Hp} {s : Shared} (I : Inv X pins σ H s) : ∀ {ps : List Addr} {kvs : List (Key × V)}, Paired (fun p kv => SqT X.K H p [kV kv.1, kv.2]) ps kvs →
    ∃ (prs : List (Key × Value)) (kps : List (Value × Value)), KV kvs prs ∧ prs.length = ps.length ∧ kps.length = ps.length ∧
      ∀ (j : Nat) (x y : Value), kps[j]? = some (x, y) → ∃ (b : Addr) (k : Key), ps[j]? = some b ∧ prs[j]? = some (k, y) ∧ IsTup s.heap b #[x, y] ∧ keyIs k x = true
  | _, _, .nil => ⟨[], [], .nil, rfl, rfl, fun j x y e => by simp at e⟩
  | _, _, .cons (a := p) (b := kv) h t => by
    obtain ⟨prs, kps, r, hl, hl2, hp⟩ := kps_of I t
    obtain ⟨its, rv, ht, _⟩ := I.tuple h
    obtain ⟨u, y, ei, ru, ry⟩ := vals2 rv
    subst ei
    refine ⟨(kv.1, y) :: prs, (u, y) :: kps, .cons ⟨rfl, ry⟩ r, by rw [List.length_cons, List.length_cons, hl], by rw [List.length_cons, List.length_cons, hl2], fun j x z e => ?_⟩
    cases j with
    | zero =>
      have e' : (u, y) = (x, z) := Option.some.inj e
      cases e'
      exact ⟨p, kv.1, rfl, rfl, ht, kV_is (P := X.prog) (w := X.w) ru⟩
    | succ j =>
      obtain ⟨b, k, e1, e2, e3, e4⟩ := hp j x z (by simpa using e)
      exact ⟨b, k, by simpa using e1, by simpa using e2, e3, e4⟩
def rDictT (K : PySem.W.Frag) : List V → Hp → VK → Prop := fun xs H Q => ∃ (a : Addr) (o : Obj) (ps : List Addr) (kvs : List (Key × V)), xs = [.ref a] ∧ H a = some (.frz o (.tup (ps.map V.ref))) ∧ o.dict = none ∧ Paired (fun p kv => SqT K H p [kV kv.1, kv.2]) ps kvs ∧
    ∀ p, H p = none → Q (.ref p) (upd H p (.dK (mergeK [] kvs)))
theorem call_dictT (hcalm : X.calm = true) : CallR X (.type "dict") (rDictT X.K) := by
  intro pins s σ H xs us Q I r q
  obtain ⟨a, o, ps, kvs, ex, ho, hd, hp, q⟩ := q
  subst ex
  obtain ⟨u, eu, rx⟩ := vals1 r
  subst eu
  cases rx
  obtain ⟨e1, hz, its, rv, o', e2, hc, n, hdat⟩ := I.hok a _ ho
  rw [e1] at e2
  cases e2
  have ei := refs_at rv
  subst ei
  rw [List.length_map] at hz
  obtain ⟨prs, kps, rel, hl, hl2, hpr⟩ := kps_of I hp
  refine PySem.call_dict_pairs (A := X.A) (knd := mixKind X.prog X.w) (kvs := prs) (PairArg.tuple a (ps.map Value.ref).toArray (fun j => ps.getD j 0) kps) (I.ok.hd hcalm) ⟨⟨o, n, e1, hc, hd, hdat⟩, by simp [hl2], fun j k v e => ?_⟩ ⟨by rw [hl, hl2], fun i key v e => ?_⟩ (by rw [hl2]; exact hz) fun h' tk hd' k => ?_
  · obtain ⟨b, k', e3, e4, e5, e6⟩ := hpr j k v e
    have eb : ps.getD j 0 = b := by rw [List.getD_eq_getElem?_getD, e3]; rfl
    dsimp only
    rw [eb]
    exact ⟨by simp [e3], .inl e5⟩
  · obtain ⟨b, k', e3, e4, e5, e6⟩ := hpr i key v e
    exact ⟨k', e4, by rw [mixKind_is]; exact e6⟩
  · have hm : (s.heap.objs.size == sysModules) = false := beq_eq_false_iff_ne.mpr (Nat.ne_of_gt I.big)
    have hlen : (mergeK [] kvs).length ≤ sizeLine := by
      refine Nat.le_trans (length_mergeK kvs []) ?_
      rw [List.length_nil, Nat.zero_add, rel.length, hl]
      exact hz
    exact ⟨.ref s.heap.objs.size, upd H s.heap.objs.size (.dK (mergeK [] kvs)), I.laid (t' := tk) (fun b o' e => k b o' (by simp) e) (Nat.le_refl _) (show ObjOk X.prog X.w _ _ _ (.dK (mergeK [] kvs)) from ⟨hlen, hm, merged [] prs, KV.merge rel .nil, hd'⟩), rfl, q _ (I.hok.fresh (Nat.le_refl _))⟩
end
end L2
/-! dict(t) of a tuple of pairs -/
namespace VL
open PySem L2
def prsD : List D → Option (List (Key × D))
  | [] => some []
  | .tup [k, v] :: l => match keyOf k with
    | some k => (prsD l).map ((k, v) :: ·)
    | none => none
  | _ => none
def mergeD (l m : List (Key × D)) : List (Key × D) := m.foldl (fun acc kv => putD acc kv.1 kv.2) l
def gDict : List D → S → R (Ob × S) := fun l s => match l with
  | [.tup l] => match prsD l with
    | some kvs => .ok (.dct (mergeD [] kvs), s)
    | none => .no
  | _ => .no
section
variable {K : PySem.W.Frag} {B : Bs} {W : WX} {th : List Addr} {G H : Hp} {s : S} {σ : St}
theorem prsD_prs : ∀ {l : List D} {kvs : List (Key × D)}, prsD l = some kvs → prs l = true
  | [], _, _ => rfl
  | d :: l, kvs, h => by
    unfold prsD at h
    split at h
    · rename_i e; cases e
    · rename_i e
      cases e
      split at h
      · cases e2 : prsD l with
        | none => rw [e2] at h; cases h
        | some m =>
          have := prsD_prs e2
          unfold prs at this ⊢
          rw [List.all_cons, this]
          rfl
      · cases h
    · cases h
theorem prsD_at (e : Ex G H) : ∀ {l : List D} {kvs : List (Key × D)} {vs : List V}, AtL K th G l vs → prsD l = some kvs → ∃ (ps : List Addr) (kws : List (Key × V)), vs = ps.map V.ref ∧ Paired (fun p kv => SqT K H p [kV kv.1, kv.2]) ps kws ∧ AtK K th G kvs kws
  | [], _, vs, h, hp => by
    cases h
    cases hp
    exact ⟨[], [], rfl, .nil, .nil⟩
  | d :: l, kvs, vs, h, hp => by
    obtain ⟨v, r, rfl, h1, h2⟩ := h
    unfold prsD at hp
    split at hp
    · rename_i e; cases e
    · rename_i e3
      cases e3
      split at hp
      · rename_i k hk
        cases e2 : prsD l with
        | none => rw [e2] at hp; cases hp
        | some m =>
          rw [e2] at hp
          cases hp
          obtain ⟨ps, kws, rfl, q1, q2⟩ := prsD_at e h2 e2
          obtain ⟨a, us, rfl, q, x, r1, rfl, hx, hy⟩ := h1
          obtain ⟨y, r2, rfl, hy, hn⟩ := hy
          cases hn
          cases key_at hx hk
          exact ⟨a :: ps, (k, y) :: kws, rfl, .cons (e.sqT q.sq) q1, .cons hy q2⟩
      · cases hp
    · cases hp
theorem AtK.merge' : ∀ {m : List (Key × D)} {ws : List (Key × V)} {l : List (Key × D)} {kvs : List (Key × V)}, AtK K th G m ws → AtK K th G l kvs → AtK K th G (mergeD l m) (mergeK kvs ws)
  | [], ws, l, kvs, h, k => by rw [h.unnil]; exact k
  | p :: m, ws, l, kvs, h, k => by
    obtain ⟨v', r, rfl, h1, h2⟩ := h.uncons
    have := AtK.merge' (l := putD l p.1 p.2) h2 (k.put h1)
    exact this
theorem semC_dict : SemCF K B W (rDictT K) gDict := fun s th G σ H Q l vs R rl P => by
  match l, rl, P with
  | [], _, P => exact P.elim
  | [d], rl, P =>
    obtain ⟨v, rfl, hv⟩ := rl.one_of
    cases d with
    | tup l =>
      simp only [gDict] at P
      cases e : prsD l with
      | none => rw [e] at P; exact P.elim
      | some kvs =>
        rw [e] at P
        obtain ⟨a, us, rfl, q, r⟩ := hv
        obtain ⟨ps, kws, rfl, q1, q2⟩ := prsD_at R.eG r e
        obtain ⟨o, q3, q4⟩ := (q.pl (prsD_prs e)).ex R.eG
        refine ⟨a, o, ps, kws, rfl, q3, q4, q1, fun p hp => ?_⟩
        exact P th G _ _ ((Le.refl th G H).aside hp) (R.asideNew _ hp) ⟨p, rfl, (fun z => nomatch z), obAt_dct (R.gnone hp) upd_same (AtK.merge' q2 .nil), R.thne hp, hp⟩
    | _ => exact P.elim
  | a :: b :: c, _, P =>
    have P : Post K B W σ th G H (relF K) (.no : VL.R (Ob × S)) Q := by cases a <;> exact P
    exact P.elim
end
end VL
/-! sorted(d.items()) -/
namespace ST
open PySem PySem.Calls PyProof.Rows PySem.W
section
variable {prog : Program} {w : World} {A : Around} {E : Value → Shared → Prop} {s : Shared}
theorem sortedIt {K : Type} [DecidableEq K] {knd : PySem.KeyKind prog w K} {r d : Addr} {ep : Nat} {kvs : List (K × Value)} {β : Type} {enc : β → PyData} {Rr : Value → β → Prop} {Q : Value → Shared → Prop} (hh : A.handled = none) (hv : s.heap.IsItemsView r d) (hm : s.heap.DictAt knd d kvs ep) (hn : kvs.length ≤ sizeLine)
    (h : ∀ (h' : Heap) (tk : Nat) (as : List Addr), (∀ b o, s.heap.get? b = some o → h'.get? b = some o) → as.length = kvs.length → KdxG knd kvs s.heap.objs.size h' as →
      ∃ bs : List β, EachIs Rr (as.map Value.ref) bs ∧ EachIs (fun v b => ∃ as', Reads h' v (enc b) as') (as.map Value.ref) bs ∧ AllAlike (bs.map enc) ∧ Sortable (bs.map enc) ∧ (∀ b, b ∈ bs → A.units + 2 + (enc b).depth < cLine) ∧
      ∀ (out : List Value) (h2 : Heap), out.length = bs.length → EachIs Rr out (bs.mergeSort (dataLe false enc)) → (∀ b o, h'.get? b = some o → h2.get? b = some o) → (∃ e, h2.get? h'.objs.size = some (seqObj "list" out.toArray e)) → Q (.ref h'.objs.size) { s with heap := h2, toks := tk }) :
    wpAny (model prog w) A (call (.builtin "sorted") [.ref r]) Q E s := by
  refine call_function_entry_kw kind_sorted plain_sorted entry_sorted (args_sorted1 _) ?_
  unfold Builtin.«sorted»
  refine wpAny_bind (m := checkCount "sorted" 1 1 _) (wpAny_pure ?_)
  refine wpAny_bind (kdx_collect (A := A.in1) (knd := knd) (kvs := kvs) (ep := ep) hh hv hm hn fun h' tk as hk hl hG => ?_)
  obtain ⟨bs, e, er, hal, hks, hu, hq⟩ := h h' tk as hk hl hG
  have hL : (as.map Value.ref).length ≤ sizeLine := by rw [List.length_map, hl]; exact hn
  refine wpAny_bind (wpAny_newList ?_ hL)
  have hB : (h'.push (seqObj "list" (as.map Value.ref).toArray 0)).get? h'.objs.size = some (seqObj "list" (as.map Value.ref).toArray 0) := Heap.get?_push_size _ rfl
  show wpAny _ _ _ _ _ { s with heap := h'.push (seqObj "list" (as.map Value.ref).toArray 0), toks := tk }
  refine wpAny_bind (wpAny_holding (wpAny_call_entry_kw slot_list_sort ⟨_, hB, rfl⟩ entry_list_sort ?body (args_list_sort _)))
  case body =>
    show wpAny (model prog w) A.in1.in1 (Builtin.«list.sort» ⟨[.ref h'.objs.size], []⟩) _ _ _
    have er2 : EachIs (fun v b => ∃ as', Reads (sortingHeap (h'.push (seqObj "list" (as.map Value.ref).toArray 0)) h'.objs.size (as.map Value.ref)) v (enc b) as') (as.map Value.ref) bs := er.mono fun _ _ ⟨as', r⟩ => ⟨as', PyProof.Rows.Reads.keeps (fun b o e => sortingHeap_old (Nat.ne_of_lt (Heap.lt_size e)) (Heap.get?_push_of_some _ e)) r⟩
    refine list_sort_vals (s := { s with heap := h'.push (seqObj "list" (as.map Value.ref).toArray 0), toks := tk }) hB (SortsAt.data (s := { s with heap := sortingHeap (h'.push (seqObj "list" (as.map Value.ref).toArray 0)) h'.objs.size (as.map Value.ref), toks := tk }) (each_map (R := fun v d => ∃ as', Reads (sortingHeap (h'.push (seqObj "list" (as.map Value.ref).toArray 0)) h'.objs.size (as.map Value.ref)) v d as') enc er2) hal hks (bound_map hu)) hL ?_
    refine ⟨_, rfl, wpAny_pure ⟨_, rfl, ?_⟩⟩
    have g := hq (sortVals (dataKind (sortingHeap (h'.push (seqObj "list" (as.map Value.ref).toArray 0)) h'.objs.size (as.map Value.ref)) (bs.map enc)) false (as.map Value.ref) (as.map Value.ref)) (sortedHeap (h'.push (seqObj "list" (as.map Value.ref).toArray 0)) h'.objs.size (as.map Value.ref) (sortVals (dataKind (sortingHeap (h'.push (seqObj "list" (as.map Value.ref).toArray 0)) h'.objs.size (as.map Value.ref)) (bs.map enc)) false (as.map Value.ref) (as.map Value.ref)).toArray)
      (by rw [sortVals_length false rfl]; exact e.length) (sortVals_data false e er2 hal)
    exact g (fun b o e => (sortedHeap_old (Nat.ne_of_lt (Heap.lt_size e)) (by rw [Heap.size_push]; exact Nat.lt_succ_of_lt (Heap.lt_size e))).trans (Heap.get?_push_of_some _ e)) (sortedHeap_at (n := 0) hB)
end
end ST
/-! sorted(d.items()), as a rule -/
namespace L2
open PySem PySem.Spec PyProof.Rows LiI
section
variable {X : Cx} {e : Expr} {te : TE} {p apos cpos pos : Pos}
theorem inv_putT {pins : List (Addr × Obj)} {σ : L2.St} {H : Hp} {s : Shared} {h' : Heap} {tk : Nat} {kvs : List (Key × V)} {as : List Addr} (I : Inv X pins σ H s) (hk : ∀ b o, s.heap.get? b = some o → h'.get? b = some o)
    (new : ∀ t ∈ as, s.heap.objs.size ≤ t) (nd : as.Nodup) (hl : as.length = kvs.length) (hob : ∀ (i : Nat) (a : Addr) (q : Key × V), as[i]? = some a → kvs[i]? = some q → ∃ its : List Value, Vals [kV q.1, q.2] its ∧ IsTup h' a its.toArray) : Inv X pins σ (putT H as kvs) { s with heap := h', toks := tk } := by
  have atP := putT_at as kvs H hl nd
  have fresh : ∀ t ∈ as, H t = none := fun t ht => I.hok.fresh (new t ht)
  have kp : ∀ b u, H b = some u → putT H as kvs b = some u := fun b u e => by
    rw [putT_off as kvs _ (fun z => by rw [fresh b z] at e; cases e)]
    exact e
  refine I.un ⟨fun b o q _ _ _ => hk b o q, fun b o q _ _ _ => ⟨o.slots, hk b o q⟩, fun b o q n _ => ?_, fun b o q _ => ⟨o, hk b o q⟩, fun b xs q => kp b _ q, fun b o u q => kp b _ q, fun b ps q => ⟨#[], by rw [kp b _ q]; simp⟩⟩ fun b u q => ?_
  · rw [putT_off as kvs _ (fun z => absurd (Heap.lt_size q) (Nat.not_lt.mpr (new b z)))]
    exact n
  · by_cases hb : b ∈ as
    · obtain ⟨j, y, e1, e2, e3⟩ := paired_ix atP hb
      rw [e3] at q
      cases q
      obtain ⟨its, rv, pt⟩ := hob j b y e1 e2
      exact ⟨by show 2 ≤ sizeLine; decide, its, rv, pt⟩
    · rw [putT_off as kvs _ hb] at q
      exact (I.hok b u q).stay (fun d v _ y => hk d v y) (fun d y => kp d _ y) fun d xs y => kp d _ y
/-- the new tuples, then the list of them, sorted by what they are worth -/
def rSortItems (K : PySem.W.Frag) (x : V) (H : Hp) (Q : VK) : Prop := ∃ (d : Addr) (kvs : List (Key × V)) (β : Type) (bs : List β) (enc : β → PyData), x = .ref d ∧ H d = some (.dK kvs) ∧ bs.length = kvs.length ∧ PySem.W.AllAlike (bs.map enc) ∧ PySem.W.Sortable (bs.map enc) ∧ (∀ b ∈ bs, (enc b).depth ≤ 64) ∧
  ∀ (as : List Addr) (q : Addr), as.length = kvs.length → as.Nodup → (∀ t ∈ as, H t = none) → H q = none → q ∉ as →
    (∀ z ∈ as.zip bs, Dp K (putT H as kvs) (.ref z.1) (enc z.2)) ∧ Q (.ref q) (upd (putT H as kvs) q (.lst (((as.zip bs).mergeSort (PySem.W.dataLe false fun z => enc z.2)).map fun z => V.ref z.1)))
def tSortItems (K : PySem.W.Frag) (te : TE) : TE := fun σ H Q => te σ H fun x H1 => rSortItems K x H1 Q
theorem each_as {H : Hp} {β : Type} {enc : β → PyData} {pins : List (Addr × Obj)} {σ : L2.St} {s : Shared} (I : Inv X pins σ H s) : ∀ {as : List Addr} {bs : List β}, as.length = bs.length → (∀ z ∈ as.zip bs, Dp X.K H (.ref z.1) (enc z.2)) →
    PySem.W.EachIs (fun v (z : Addr × β) => v = Value.ref z.1) (as.map Value.ref) (as.zip bs) ∧ PySem.W.EachIs (fun v (z : Addr × β) => ∃ as', Reads s.heap v (enc z.2) as') (as.map Value.ref) (as.zip bs)
  | [], [], _, _ => ⟨.nil, .nil⟩
  | a :: as, b :: bs, hl, hd => by
    obtain ⟨h1, h2⟩ := each_as I (as := as) (bs := bs) (Nat.succ.inj hl) fun z hz => hd z (List.mem_cons_of_mem _ hz)
    exact ⟨.cons rfl h1, .cons (Dp.reads I (enc b) (.ref a) _ (hd (a, b) (by simp)) rfl) h2⟩
theorem refs_out {β : Type} : ∀ {out : List Value} {zs : List (Addr × β)}, PySem.W.EachIs (fun v (z : Addr × β) => v = Value.ref z.1) out zs → Vals (zs.map fun z => V.ref z.1) out
  | _, _, .nil => .nil
  | _, _, .cons e t => by
    cases e
    exact .cons rfl (refs_out t)
theorem pe_sortItems (hc : X.calm = true) (hu : X.A.units + 67 < cLine) (he : PE X e te) (hg : Gl X "sorted") (hm : X.mg "sorted" = none) (hv : bootBuiltins "sorted" = some (.builtin "sorted")) (hbase : attributeBase e "items" X.env (eval e X.env) = eval e X.env := by rfl) (hline : (apos.endLine == cpos.line) = true := by rfl)
    (hs : starEach [.Call (.Attribute e "items" apos) [] [] cpos] X.env = (false, eval (.Call (.Attribute e "items" apos) [] [] cpos) X.env) :: starEach [] X.env := by rfl) :
    PE X (.Call (.Name "sorted" p) [.Call (.Attribute e "items" apos) [] [] cpos] [] pos) (tSortItems X.K te) := by
  refine ⟨fun pins s σ H Q I hq => ?_⟩
  refine wpAny_Call_Name_kw (ld_blt I hg hm hv ?_)
  refine PyProof.Rows.callWith_builtin1 ?_ hs rfl
  rw [hs]
  show wpAny _ _ (spliced ((false, eval (.Call (.Attribute e "items" apos) [] [] cpos) X.env) :: backTo pos (starEach [] X.env))) _ _ s
  refine Calls.spliced_cons ?_
  refine wpAny_Call_method (T := "dict") (id := "dict.items") hbase rfl hline F.plainAttrs_dict F.slot_dict_items F.type_dict_items (thn (he.run pins s σ H _ I hq) fun u s1 ⟨x, H1, I1, rx, d, kvs, β, bs, enc, ex, hd, hbl, hal, hks, hdep, q⟩ => ?_)
  subst ex
  obtain rfl : u = Value.ref d := rx
  obtain ⟨hz, hs0, vs, kv, hdo⟩ := I1.hok d _ hd
  obtain ⟨ep, hat⟩ := hdo.dictAt
  have lk : kvs.length = vs.length := Paired.length kv
  have I2 : Inv X pins σ H1 { s1 with heap := s1.heap.push { cls := .type "dict_items", data := .fields #[.ref d] } } := I1.kept (t' := s1.toks) fun b ob q => Heap.get?_push_of_some _ q
  refine ⟨hdo.typeIs, hdo.mapOf.noDict, ?_⟩
  show wpAny _ _ (callWith cpos (.builtin "dict.items") [.ref d] [] []) _ X.xe s1
  refine method_meetsIn F.slot_dict_items F.entry_dict_items rfl (PySem.evalArgs_none ⟨rfl, hdo.typeIs, F.args_dict_items_1 _, _, meets_dict_items (mixKind X.prog X.w) d hs0, ⟨vs, hdo⟩, ?_⟩)
  refine Calls.spliced_nil ?_
  refine ST.sortedIt (knd := mixKind X.prog X.w) (kvs := vs) (ep := ep) (enc := fun z : Addr × β => enc z.2) (Rr := fun v (z : Addr × β) => v = Value.ref z.1) (I1.ok.hd hc) ⟨_, Heap.get?_push_size _ rfl, rfl, rfl⟩ (hat.push _) (by omega) fun h' tk as hk hl hG => ?_
  have asl : as.length = kvs.length := by omega
  have nd : as.Nodup := List.Pairwise.imp (fun {a b} (h : a < b) => Nat.ne_of_lt h) hG.rise
  have new : ∀ t ∈ as, (s1.heap.push { cls := .type "dict_items", data := .fields #[.ref d] }).objs.size ≤ t := fun t ht => Nat.le_of_lt (hG.above t ht)
  have fresh : ∀ t ∈ as, H1 t = none := fun t ht => I2.hok.fresh (new t ht)
  have I3 : Inv X pins σ (putT H1 as kvs) { s1 with heap := h', toks := tk }   := inv_putT (s := { s1 with heap := s1.heap.push { cls := .type "dict_items", data := .fields #[.ref d] } }) I2 hk new nd asl fun i a q' e1 e2 => by
    obtain ⟨key, k, x, f1, f2, f3⟩ := hG.pairs i a e1
    obtain ⟨qv, g1, g2, g3⟩ := paired_get kv e2
    rw [f1] at g1
    cases g1
    have rk : RelV (kV q'.1) key := by
      rw [g2]
      exact relV_key (show keyIs k key = true from f2)
    exact ⟨[key, x], .cons rk (.cons g3 .nil), ⟨_, f3, rfl, _, rfl⟩⟩
  have hB : putT H1 as kvs h'.objs.size = none := I3.hok.fresh (Nat.le_refl _)
  have hBn : h'.objs.size ∉ as := fun z => Nat.lt_irrefl _ (hG.there z)
  have hB1 : H1 h'.objs.size = none := by rw [putT_off as kvs _ hBn] at hB; exact hB
  obtain ⟨hD, hQ⟩ := q as h'.objs.size asl nd fresh hB1 hBn
  obtain ⟨e1, e2⟩ := each_as I3 (by rw [asl, hbl]) hD
  have em : (as.zip bs).map (fun z : Addr × β => enc z.2) = bs.map enc := by
    rw [show (fun z : Addr × β => enc z.2) = enc ∘ Prod.snd from rfl, ← List.map_map, List.map_snd_zip (by omega)]
  refine ⟨as.zip bs, e1, e2, by rw [em]; exact hal, by rw [em]; exact hks, fun z hz => ?_, fun out h2 ho hE hk2 hat2 => ?_⟩
  · have := hdep z.2 (List.of_mem_zip hz).2
    omega
  · obtain ⟨ec, hat2⟩ := hat2
    have ho2 : out.length = as.length := by rw [ho, List.length_zip]; omega
    refine ⟨.ref h'.objs.size, _, I3.laid (t' := tk) (o := .lst (((as.zip bs).mergeSort (PySem.W.dataLe false fun z => enc z.2)).map fun z => V.ref z.1)) hk2 (Nat.le_refl _) ⟨?_, out, ec, refs_out hE, hat2⟩, rfl, hQ⟩
    rw [List.length_map, List.length_mergeSort, List.length_zip]
    omega
end
end L2
/-! sorted(d.items()), its value form -/
namespace VL
open PySem L2 LiI
def prD (l : List (Key × D)) : List D := l.map fun kv => .tup [kD kv.1, kv.2]
def fSortItems (m : ME) : MF := fun s => (m s).bind fun d s => match d with
  | .loc n => match s.m[n]? with
    | some (.dct l) => if srtOk (prD l) = true then .ok (.lst (sortD (prD l)), s) else .no
    | _ => .no
  | _ => .no
section
variable {K : PySem.W.Frag} {B : Bs} {W : WX} {th : List Addr} {G H : Hp} {s : S} {σ : St}
theorem rep_putT : ∀ (as : List Addr) (kvs : List (Key × V)) {G H : Hp}, as.length = kvs.length → as.Nodup → (∀ t ∈ as, H t = none) → Rep K B th G s σ H → Rep K B th (putT G as kvs) s σ (putT H as kvs) ∧ Le th G H th (putT G as kvs) (putT H as kvs)
  | [], [], G, H, _, _, _, R => ⟨R, Le.refl th G H⟩
  | [], _ :: _, _, _, h, _, _, _ => by cases h
  | _ :: _, [], _, _, h, _, _, _ => by cases h
  | a :: as, p :: kvs, G, H, hl, nd, fr, R => by
    obtain ⟨n1, n2⟩ := List.nodup_cons.mp nd
    have ha := fr a (by simp)
    obtain ⟨R2, l2⟩ := rep_putT as kvs (G := upd G a (.tup [kV p.1, p.2])) (H := upd H a (.tup [kV p.1, p.2])) (Nat.succ.inj hl) n2 (fun t ht => by rw [upd_ne (fun e => n1 (by rw [← e]; exact ht))]; exact fr t (by simp [ht])) (R.frz ha _)
    exact ⟨R2, (Le.new ha R.eG).trans l2⟩
theorem sub_putT {as : List Addr} {kvs : List (Key × V)} {G : Hp} (fr : ∀ t ∈ as, G t = none) : Sub G (putT G as kvs) := fun a o h => by
  rw [putT_off as kvs _ (fun z => by rw [fr a z] at h; cases h)]
  exact h
theorem items_at : ∀ {as : List Addr} {kvs : List (Key × V)} {l : List (Key × D)} {G : Hp}, as.length = kvs.length → as.Nodup → (∀ t ∈ as, G t = none) → AtK K th G l kvs → AtL K th (putT G as kvs) (prD l) (as.map V.ref)
  | [], [], [], _, _, _, _, _ => rfl
  | [], [], _ :: _, _, _, _, _, h => by cases h.1
  | [], _ :: _, _, _, h, _, _, _ => by cases h
  | _ :: _, [], _, _, h, _, _, _ => by cases h
  | a :: as, p :: kvs, [], G, _, _, _, h => by cases h.1
  | a :: as, p :: kvs, q :: l, G, hl, nd, fr, h => by
    obtain ⟨n1, n2⟩ := List.nodup_cons.mp nd
    have ha := fr a (by simp)
    obtain ⟨y, r, e, h1, h2⟩ := h.uncons
    cases e
    have fr2 : ∀ t ∈ as, upd G a (.tup [kV q.1, y]) t = none := fun t ht => by rw [upd_ne (fun e => n1 (by rw [← e]; exact ht))]; exact fr t (by simp [ht])
    have sb : Sub G (putT (upd G a (.tup [kV q.1, y])) as kvs) := (Sub.new ha).trans (sub_putT fr2)
    have ih := items_at (as := as) (kvs := kvs) (l := l) (G := upd G a (.tup [kV q.1, y])) (Nat.succ.inj hl) n2 fr2 ⟨h2.1, h2.2.mono List.prefix_rfl (Sub.new ha)⟩
    refine ⟨.ref a, as.map V.ref, rfl, ⟨a, [kV q.1, y], rfl, .odd (.inl (.inl ?_)) (by obtain ⟨k, d⟩ := q; cases k <;> rfl), .cons kD_at (.one (h1.mono List.prefix_rfl sb))⟩, ih⟩
    show putT (upd G a (.tup [kV q.1, y])) as kvs a = _
    rw [putT_off as kvs _ n1, upd_same]
end
section
variable {X : Cx} {B : Bs} {W : WX} {e : Expr} {te : TE} {m : ME} {p apos cpos pos : Pos}
theorem vf_sortItems (hc : X.calm = true) (hu : X.A.units + 67 < cLine) (hm : X.mg "sorted" = none) (he : VE X B W e te m) (hg : Gl X "sorted" := by rfl) (hv : bootBuiltins "sorted" = some (.builtin "sorted") := by decide +kernel) (hbase : attributeBase e "items" X.env (eval e X.env) = eval e X.env := by rfl) (hline : (apos.endLine == cpos.line) = true := by rfl)
    (hs : starEach [.Call (.Attribute e "items" apos) [] [] cpos] X.env = (false, eval (.Call (.Attribute e "items" apos) [] [] cpos) X.env) :: starEach [] X.env := by rfl) :
    VF X B W (.Call (.Name "sorted" p) [.Call (.Attribute e "items" apos) [] [] cpos] [] pos) (tSortItems X.K te) (fSortItems m) :=
  ⟨pe_sortItems hc hu he.pe hg hm hv hbase hline hs, fun s th G σ H Q R P => he.sem s th G σ H _ R (P.bind fun d s1 th1 G1 H1 v l1 R1 r1 P1 => by
    cases d with
    | loc n =>
      simp only at P1
      obtain ⟨a, ha, rfl⟩ := r1
      cases hm1 : s1.m[n]? with
      | none => rw [hm1] at P1; exact P1.elim
      | some ob =>
        rw [hm1] at P1
        cases ob with
        | dct l =>
          simp only at P1
          split at P1
          · rename_i ho
            obtain ⟨g, kvs, hH, hk, hr⟩ := R1.st n _ a hm1 ha
            have hAK : AtK X.K th1 G1 l kvs := ⟨hk, hr⟩
            have hll : l.length = kvs.length := by have := congrArg List.length hk; simpa using this.symm
            unfold srtOk at ho
            simp only [Bool.and_eq_true] at ho
            obtain ⟨h1, h2, h3⟩ := ho
            refine ⟨a, kvs, D, prD l, toP, rfl, hH, by simp [prD, hll], ?_, kind_of h3, fun b hb => Nat.le_trans (okD_P 63 _ (okDs_all h1 _ hb)).2 (by decide), fun as q hl nd fr hq hqn => ?_⟩
            · intro x hx y hy
              obtain ⟨x2, hx2, rfl⟩ := List.mem_map.mp hx
              obtain ⟨y2, hy2, rfl⟩ := List.mem_map.mp hy
              exact List.all_eq_true.mp (List.all_eq_true.mp h2 x2 hx2) y2 hy2
            · obtain ⟨R2, l2⟩ := rep_putT as kvs hl nd fr R1
              have fr1 : ∀ t ∈ as, G1 t = none := fun t ht => R1.gnone (fr t ht)
              have hat := items_at hl nd fr1 hAK
              have hz : ∀ z ∈ as.zip (prD l), At X.K th1 (putT G1 as kvs) z.2 (.ref z.1) := fun z hz => by
                obtain ⟨i, hi, e⟩ := List.getElem_of_mem hz
                rw [List.getElem_zip] at e
                obtain ⟨v, hv1, hv2⟩ := hat.get (i := i) (d := z.2) (by rw [← e]; exact List.getElem?_eq_getElem _)
                rw [List.getElem?_map, List.getElem?_eq_getElem (by rw [List.length_zip] at hi; omega)] at hv1
                simp only [Option.map_some, Option.some.injEq] at hv1
                rw [← e] at hv2 ⊢
                rw [← hv1] at hv2
                exact hv2
              refine ⟨fun z hz' => dp_of R2.eG 63 _ _ (okDs_all h1 _ (List.of_mem_zip hz').2) (hz z hz'), ?_⟩
              have hq2 : putT H1 as kvs q = none := by rw [putT_off as kvs _ hqn]; exact hq
              have hres : AtL X.K th1 (putT G1 as kvs) (sortD (prD l)) (((as.zip (prD l)).mergeSort (PySem.W.dataLe false fun z => toP z.2)).map fun z => V.ref z.1) := by
                have e1 : sortD (prD l) = ((as.zip (prD l)).mergeSort (PySem.W.dataLe false fun z => toP z.2)).map Prod.snd := by
                  have := List.map_mergeSort (f := Prod.snd) (r := PySem.W.dataLe false fun z : Addr × D => toP z.2) (s := PySem.W.dataLe false toP) (l := as.zip (prD l)) fun _ _ _ _ => rfl
                  rw [this, List.map_snd_zip (by simp [prD]; omega)]
                  rfl
                rw [e1]
                have gen : ∀ zs : List (Addr × D), (∀ z ∈ zs, At X.K th1 (putT G1 as kvs) z.2 (.ref z.1)) → AtL X.K th1 (putT G1 as kvs) (zs.map Prod.snd) (zs.map fun z => V.ref z.1) := fun zs => by
                  induction zs with
                  | nil => intro _; rfl
                  | cons z zs ih => intro h; exact .cons (h z (by simp)) (ih fun y hy => h y (by simp [hy]))
                exact gen _ fun z hz' => hz z ((List.mergeSort_perm _ _).mem_iff.mp hz')
              exact P1 th1 (putT G1 as kvs) _ (.ref q) (l2.aside hq) (R2.asideNew _ hq2) ⟨q, rfl, (fun z => nomatch z), ⟨R2.gnone hq2, _, upd_same, hres⟩, R2.thne hq2, hq⟩
          · exact P1.elim
        | _ => exact P1.elim
    | _ => exact P1.elim)⟩
end
end VL
namespace K77
open PySem PySem.Spec PyProof.Rows L2 VL
def top (i : Nat) : Stmt := PySem.Challenge.pw_mailways_k77_whole_bags_in_bags.main.body.getD i (.Pass ⟨0, 0, 0, 0⟩)
def mth (i j : Nat) : Stmt := match top i with
  | .ClassDef _ _ _ b _ _ _ _ _ _ _ => b.getD j (.Pass ⟨0, 0, 0, 0⟩)
  | _ => .Pass ⟨0, 0, 0, 0⟩
abbrev FnQ (K : PySem.W.Frag) (x q : Str) (st : Stmt) (f : Addr) (fd : FuncData) : Prop := FunD K x q (defArgs st) (defBody st) (defScope st) [] [] f fd
abbrev FnD (K : PySem.W.Frag) (x : Str) (st : Stmt) (f : Addr) (fd : FuncData) : Prop := FunD K x x (defArgs st) (defBody st) (defScope st) [] [] f fd
noncomputable section
/-! way -/
abbrev st_way : Stmt := top 8
abbrev N_way : List Str := ["room", "thing", "holders", "found", "holder"]
abbrev P_way : List Str := ["room", "thing"]
structure L_way where
  v_room : Option D := none
  v_thing : Option D := none
  v_holders : Option D := none
  v_found : Option D := none
  v_holder : Option D := none
  mm : List Ob := []
def L_way.S (v : L_way) : S := ⟨[v.v_room, v.v_thing, v.v_holders, v.v_found, v.v_holder], v.mm⟩
def s_way_1 : MS := (sDrop (eLM lmApp (eV 3) (aCons (eV 4) aNil)))
def s_way_2 : MS := (sAsg (eOp fIx (eV 2) (eV 4)) (gN 4))
def b_way_3 : MS := (sSeq s_way_1
  s_way_2)
def s_way_4 : MS := (sAsg (eFrz (fCB gDict (aCons (eV 0) aNil))) (gN 2))
def s_way_5 : MS := (sAsg (eOwn (fLst aNil)) (gN 3))
def s_way_6 : MS := (sAsg (eOp fIx (eV 2) (eV 1)) (gN 4))
def s_way_7 : MS := (sWhile 1000000 (tBl (eOp fNe (eV 4) (eC (.str [])))) b_way_3)
def s_way_8 : MS := (sRet (eCB (c1 gTuple) (aCons (eV 3) aNil)))
def m_way : MS :=
  (sSeq s_way_4
  (sSeq s_way_5
  (sSeq s_way_6
  (sSeq s_way_7
  s_way_8))))
def f_way : List D → PR := pureOf 5 2 m_way
/-! held -/
abbrev st_held : Stmt := top 9
abbrev N_held : List Str := ["room", "thing", "other", "_"]
abbrev P_held : List Str := ["room", "thing"]
structure L_held where
  v_room : Option D := none
  v_thing : Option D := none
  v_other : Option D := none
  v__ : Option D := none
  mm : List Ob := []
def L_held.S (v : L_held) : S := ⟨[v.v_room, v.v_thing, v.v_other, v.v__], v.mm⟩
def c_held_1 : MF := (fLc (iSeqM (eV 0)) (gTupM (gsCons (gN 2) (gsCons (gN 3) gsNil))) (tBl (eOp fIn (eV 1) (eCall f_way (aCons (eV 0) (aCons (eV 2) aNil))))) (eV 2) [2, 3])
def m_held : MS :=
  (sRet (eCB (c1 gTuple) (aCons (eFrz c_held_1) aNil)))
def f_held : List D → PR := pureOf 4 2 m_held
/-! depth -/
abbrev st_depth : Stmt := top 10
abbrev N_depth : List Str := ["room", "thing", "_"]
abbrev P_depth : List Str := ["room"]
structure L_depth where
  v_room : Option D := none
  v_thing : Option D := none
  v__ : Option D := none
  mm : List Ob := []
def L_depth.S (v : L_depth) : S := ⟨[v.v_room, v.v_thing, v.v__], v.mm⟩
def c_depth_1 : MF := (fLc (iSeqM (eV 0)) (gTupM (gsCons (gN 1) (gsCons (gN 2) gsNil))) tYesM (eCB cLen (aCons (eCall f_way (aCons (eV 0) (aCons (eV 1) aNil))) aNil)) [1, 2])
def m_depth : MS :=
  (sRet (eIf (tTruN (eV 0)) (eCB (c1 gMaxL) (aCons (eFrz c_depth_1) aNil)) (eC (.int 0))))
def f_depth : List D → PR := pureOf 3 1 m_depth
/-! moved -/
abbrev st_moved : Stmt := top 11
abbrev N_moved : List Str := ["room", "thing", "holder", "holders"]
abbrev P_moved : List Str := ["room", "thing", "holder"]
structure L_moved where
  v_room : Option D := none
  v_thing : Option D := none
  v_holder : Option D := none
  v_holders : Option D := none
  mm : List Ob := []
def L_moved.S (v : L_moved) : S := ⟨[v.v_room, v.v_thing, v.v_holder, v.v_holders], v.mm⟩
def s_moved_1 : MS := (sIf (tOrM (tBl (eOp fEq (eV 2) (eV 1))) (tAndM (tBl (eOp fNe (eV 2) (eC (.str [])))) (tBl (eOp fIn (eV 1) (eCall f_way (aCons (eV 0) (aCons (eV 2) aNil))))))) (sRaise0 "BadMove") sNil)
def s_moved_2 : MS := (sAsg (eOwn (fCB gDict (aCons (eV 0) aNil))) (gN 3))
def s_moved_3 : MS := (sAsg (eV 2) (gSet (eV 3) (eV 1)))
def s_moved_4 : MS := (sRet (eCB (c1 gTuple) (aCons (eFrz (fSortItems (eV 3))) aNil)))
def m_moved : MS :=
  (sSeq s_moved_1
  (sSeq s_moved_2
  (sSeq s_moved_3
  s_moved_4)))
def f_moved : List D → PR := pureOf 4 3 m_moved
/-! _law_cell -/
abbrev st__law_cell : Stmt := top 13
abbrev N__law_cell : List Str := ["script", "k"]
abbrev P__law_cell : List Str := ["script", "k"]
structure L__law_cell where
  v_script : Option D := none
  v_k : Option D := none
  mm : List Ob := []
def L__law_cell.S (v : L__law_cell) : S := ⟨[v.v_script, v.v_k], v.mm⟩
def s__law_cell_1 : MS := (sIf (tBl (eOp fLt (eV 1) (eCB cLen (aCons (eV 0) aNil)))) (sRet (eOp fIx (eV 0) (eV 1))) sNil)
def s__law_cell_2 : MS := (sRet (eOp fAdd (eOp fMul (eC (.int 5)) (eV 1)) (eC (.int 3))))
def m__law_cell : MS :=
  (sSeq s__law_cell_1
  s__law_cell_2)
def f__law_cell : List D → PR := pureOf 2 2 m__law_cell
/-! _law_draws -/
abbrev st__law_draws : Stmt := top 14
abbrev N__law_draws : List Str := ["cell", "count", "rest", "digits", "seed", "draws", "k", "mixed"]
abbrev P__law_draws : List Str := ["cell", "count"]
structure L__law_draws where
  v_cell : Option D := none
  v_count : Option D := none
  v_rest : Option D := none
  v_digits : Option D := none
  v_seed : Option D := none
  v_draws : Option D := none
  v_k : Option D := none
  v_mixed : Option D := none
  mm : List Ob := []
def L__law_draws.S (v : L__law_draws) : S := ⟨[v.v_cell, v.v_count, v.v_rest, v.v_digits, v.v_seed, v.v_draws, v.v_k, v.v_mixed], v.mm⟩
def b__law_draws_1 : MS := (sIf (tAndM (tTruN (eV 3)) (tBl (eOp fGt (eV 2) (eC (.int 0))))) (sSeq (sDrop (eLM lmApp (eV 5) (aCons (eOp fMod (eCB (c1 gInt) (aCons (eV 2) aNil)) (eC (.int 5040))) aNil)))
  (sAsg (eOp fDiv (eV 2) (eC (.int 5040))) (gN 2))) (sSeq (sAsg (eOp fMod (eCB (c1 gInt) (aCons (eOp fAdd (eOp fAdd (eOp fMul (eV 4) (eC (.int 48271))) (eOp fMul (eOp fAdd (eV 6) (eC (.int 1))) (eC (.int 69621)))) (eC (.int 11))) aNil)) (eC (.int 2147483647))) (gN 7))
  (sSeq (sAsg (eOp fMod (eCB (c1 gInt) (aCons (eOp fAdd (eOp fMul (eV 7) (eV 7)) (eOp fMul (eC (.int 40692)) (eOp fAdd (eV 6) (eC (.int 3))))) aNil)) (eC (.int 2147483399))) (gN 7))
  (sDrop (eLM lmApp (eV 5) (aCons (eOp fMod (eCB (c1 gInt) (aCons (eOp fDiv (eV 7) (eC (.int 64))) aNil)) (eC (.int 5040))) aNil))))))
def s__law_draws_2 : MS := (sAsg (eCB (c1 gAbs) (aCons (eCB (c1 gInt) (aCons (eV 0) aNil)) aNil)) (gN 2))
def s__law_draws_3 : MS := (sAsg (eOp fGe (eV 2) (eOp fPow (eC (.int 10)) (eC (.int 18)))) (gN 3))
def s__law_draws_4 : MS := (sAsg (eV 2) (gN 4))
def s__law_draws_5 : MS := (sAsg (eOwn (fLst aNil)) (gN 5))
def s__law_draws_6 : MS := (sFor (iRg1M (aCons (eV 1) aNil)) (gN 6) b__law_draws_1)
def s__law_draws_7 : MS := (sRet (eTake 5))
def m__law_draws : MS :=
  (sSeq s__law_draws_2
  (sSeq s__law_draws_3
  (sSeq s__law_draws_4
  (sSeq s__law_draws_5
  (sSeq s__law_draws_6
  s__law_draws_7)))))
def f__law_draws : List D → PR := pureOf 8 2 m__law_draws
/-! _law_is_integer -/
abbrev st__law_is_integer : Stmt := top 15
abbrev N__law_is_integer : List Str := ["value"]
abbrev P__law_is_integer : List Str := ["value"]
structure L__law_is_integer where
  v_value : Option D := none
  mm : List Ob := []
def L__law_is_integer.S (v : L__law_is_integer) : S := ⟨[v.v_value], v.mm⟩
def m__law_is_integer : MS :=
  (sRet (eAndV (eIsi "int" (eV 0)) (eNotV (eIsi "bool" (eV 0)))))
def f__law_is_integer : List D → PR := pureOf 1 1 m__law_is_integer
/-! _law_name -/
abbrev st__law_name : Stmt := top 16
abbrev N__law_name : List Str := ["draw", "other", "letters", "size", "rest", "name", "more", "at"]
abbrev P__law_name : List Str := ["draw", "other"]
structure L__law_name where
  v_draw : Option D := none
  v_other : Option D := none
  v_letters : Option D := none
  v_size : Option D := none
  v_rest : Option D := none
  v_name : Option D := none
  v_more : Option D := none
  v_at : Option D := none
  mm : List Ob := []
def L__law_name.S (v : L__law_name) : S := ⟨[v.v_draw, v.v_other, v.v_letters, v.v_size, v.v_rest, v.v_name, v.v_more, v.v_at], v.mm⟩
def s__law_name_1 : MS := (sAsg (eOp fAdd (eV 5) (eOp fIx (eV 2) (eOp fMod (eCB (c1 gInt) (aCons (eOp fAdd (eV 4) (eOp fMul (eC (.int 5)) (eV 7))) aNil)) (eC (.int 26))))) (gN 5))
def s__law_name_2 : MS := (sAsg (eOp fAdd (eOp fDiv (eV 4) (eC (.int 26))) (eOp fMul (eV 6) (eOp fAdd (eV 7) (eC (.int 1))))) (gN 4))
def b__law_name_3 : MS := (sSeq s__law_name_1
  s__law_name_2)
def s__law_name_4 : MS := (sAsg (eC (.str [97, 98, 99, 100, 101, 102, 103, 104, 105, 106, 107, 108, 109, 110, 111, 112, 113, 114, 115, 116, 117, 118, 119, 120, 121, 122])) (gN 2))
def s__law_name_5 : MS := (sAsg (eOp fIx (eTup (aCons (eC (.int 3)) (aCons (eC (.int 1)) (aCons (eC (.int 5)) (aCons (eC (.int 2)) (aCons (eC (.int 12)) (aCons (eC (.int 4)) aNil))))))) (eOp fMod (eCB (c1 gInt) (aCons (eV 0) aNil)) (eC (.int 6)))) (gN 3))
def s__law_name_6 : MS := (sAsg (eOp fDiv (eCB (c1 gInt) (aCons (eV 0) aNil)) (eC (.int 6))) (gN 4))
def s__law_name_7 : MS := (sAsg (eOp fIx (eV 2) (eOp fMod (eCB (c1 gInt) (aCons (eV 1) aNil)) (eC (.int 26)))) (gN 5))
def s__law_name_8 : MS := (sAsg (eOp fDiv (eCB (c1 gInt) (aCons (eV 1) aNil)) (eC (.int 26))) (gN 6))
def s__law_name_9 : MS := (sFor (iRg1M (aCons (eOp fSub (eV 3) (eC (.int 1))) aNil)) (gN 7) b__law_name_3)
def s__law_name_10 : MS := (sRet (eV 5))
def m__law_name : MS :=
  (sSeq s__law_name_4
  (sSeq s__law_name_5
  (sSeq s__law_name_6
  (sSeq s__law_name_7
  (sSeq s__law_name_8
  (sSeq s__law_name_9
  s__law_name_10))))))
def f__law_name : List D → PR := pureOf 8 2 m__law_name
/-! _law_is -/
abbrev st__law_is : Stmt := top 17
abbrev N__law_is : List Str := ["value", "due", "at"]
abbrev P__law_is : List Str := ["value", "due"]
structure L__law_is where
  v_value : Option D := none
  v_due : Option D := none
  v_at : Option D := none
  mm : List Ob := []
def L__law_is.S (v : L__law_is) : S := ⟨[v.v_value, v.v_due, v.v_at], v.mm⟩
def c__law_is_1 (rec : List D → PR) : MF := (fLc (iRg1M (aCons (eCB cLen (aCons (eV 1) aNil)) aNil)) (gN 2) tYesM (eCall rec (aCons (eOp fIx (eV 0) (eV 2)) (aCons (eOp fIx (eV 1) (eV 2)) aNil))) [2])
def s__law_is_2 : MS := (sIf (tBl (eOp fIs (eV 1) (eC .non))) (sRet (eOp fIs (eV 0) (eC .non))) sNil)
def s__law_is_3 : MS := (sIf (tTruN (eIsi "bool" (eV 1))) (sRet (eAndV (eIsi "bool" (eV 0)) (eOp fEq (eV 0) (eV 1)))) sNil)
def s__law_is_4 : MS := (sIf (tTruN (eIsi "int" (eV 1))) (sRet (eAndV (eCall f__law_is_integer (aCons (eV 0) aNil)) (eOp fEq (eV 0) (eV 1)))) sNil)
def s__law_is_5 : MS := (sIf (tTruN (eIsi "str" (eV 1))) (sRet (eAndV (eIsi "str" (eV 0)) (eOp fEq (eV 0) (eV 1)))) sNil)
def s__law_is_6 : MS := (sIf (tOrM (tNotM (tTruN (eIsi "tuple" (eV 0)))) (tBl (eOp fNe (eCB cLen (aCons (eV 0) aNil)) (eCB cLen (aCons (eV 1) aNil))))) (sRet (eC (.bl false))) sNil)
def s__law_is_7 (rec : List D → PR) : MS := (sRet (eCB (c1 (gAllL allB)) (aCons (eFrz (c__law_is_1 rec)) aNil)))
def m__law_is (rec : List D → PR) : MS :=
  (sSeq s__law_is_2
  (sSeq s__law_is_3
  (sSeq s__law_is_4
  (sSeq s__law_is_5
  (sSeq s__law_is_6
  (s__law_is_7 rec))))))
def f__law_is : Nat → List D → PR
  | 0 => fun _ => .no
  | n + 1 => pureOf 3 2 (m__law_is (f__law_is n))
/-! _law_things -/
abbrev st__law_things : Stmt := top 18
abbrev N__law_things : List Str := ["draws", "count", "letters", "found", "at", "name", "tried", "turn", "one"]
abbrev P__law_things : List Str := ["draws", "count"]
structure L__law_things where
  v_draws : Option D := none
  v_count : Option D := none
  v_letters : Option D := none
  v_found : Option D := none
  v_at : Option D := none
  v_name : Option D := none
  v_tried : Option D := none
  v_turn : Option D := none
  v_one : Option D := none
  mm : List Ob := []
def L__law_things.S (v : L__law_things) : S := ⟨[v.v_draws, v.v_count, v.v_letters, v.v_found, v.v_at, v.v_name, v.v_tried, v.v_turn, v.v_one], v.mm⟩
def c__law_things_1 : MF := (fLc (iRg1M (aCons (eC (.int 40)) aNil)) (gN 7) tYesM (eOp fAdd (eOp fAdd (eCut (eV 5) oNone (oSome (eC (.int 10)))) (eOp fIx (eV 2) (eOp fMod (eV 7) (eC (.int 26))))) (eOp fIx (eV 2) (eOp fDiv (eV 7) (eC (.int 26))))) [7])
def c__law_things_2 : MF := (fLc (iSeqM (eV 6)) (gN 8) (tBl (eOp fNotIn (eV 8) (eV 3))) (eV 8) [8])
def s__law_things_3 : MS := (sAsg (eCall f__law_name (aCons (eOp fIx (eV 0) (eOp fMul (eC (.int 2)) (eV 4))) (aCons (eOp fIx (eV 0) (eOp fAdd (eOp fMul (eC (.int 2)) (eV 4)) (eC (.int 1)))) aNil))) (gN 5))
def s__law_things_4 : MS := (sAsg (eOp fAdd (eFrz (fLst (aCons (eV 5) aNil))) (eFrz c__law_things_1)) (gN 6))
def s__law_things_5 : MS := (sDrop (eLM lmApp (eV 3) (aCons (eOp fIx (eFrz c__law_things_2) (eC (.int 0))) aNil)))
def b__law_things_6 : MS := (sSeq s__law_things_3
  (sSeq s__law_things_4
  s__law_things_5))
def s__law_things_7 : MS := (sAsg (eC (.str [97, 98, 99, 100, 101, 102, 103, 104, 105, 106, 107, 108, 109, 110, 111, 112, 113, 114, 115, 116, 117, 118, 119, 120, 121, 122])) (gN 2))
def s__law_things_8 : MS := (sAsg (eOwn (fLst aNil)) (gN 3))
def s__law_things_9 : MS := (sFor (iRg1M (aCons (eV 1) aNil)) (gN 4) b__law_things_6)
def s__law_things_10 : MS := (sRet (eTake 3))
def m__law_things : MS :=
  (sSeq s__law_things_7
  (sSeq s__law_things_8
  (sSeq s__law_things_9
  s__law_things_10)))
def f__law_things : List D → PR := pureOf 9 2 m__law_things
/-! _law_room -/
abbrev st__law_room : Stmt := top 19
abbrev N__law_room : List Str := ["draws", "names", "found", "at", "back", "kind", "holder"]
abbrev P__law_room : List Str := ["draws", "names"]
structure L__law_room where
  v_draws : Option D := none
  v_names : Option D := none
  v_found : Option D := none
  v_at : Option D := none
  v_back : Option D := none
  v_kind : Option D := none
  v_holder : Option D := none
  mm : List Ob := []
def L__law_room.S (v : L__law_room) : S := ⟨[v.v_draws, v.v_names, v.v_found, v.v_at, v.v_back, v.v_kind, v.v_holder], v.mm⟩
def s__law_room_1 : MS := (sAsg (eOp fDiv (eCB (c1 gInt) (aCons (eOp fIx (eV 0) (eV 3)) aNil)) (eC (.int 7))) (gN 4))
def s__law_room_2 : MS := (sAsg (eOp fMod (eCB (c1 gInt) (aCons (eOp fIx (eV 0) (eV 3)) aNil)) (eC (.int 7))) (gN 5))
def s__law_room_3 : MS := (sAsg (eIf (tOrM (tBl (eOp fEq (eV 3) (eC (.int 0)))) (tBl (eOp fEq (eV 5) (eC (.int 0))))) (eC (.str [])) (eIf (tBl (eOp fLt (eV 5) (eC (.int 4)))) (eOp fIx (eV 1) (eOp fSub (eV 3) (eC (.int 1)))) (eOp fIx (eV 1) (eOp fMod (eV 4) (eV 3))))) (gN 6))
def s__law_room_4 : MS := (sDrop (eLM lmApp (eV 2) (aCons (eTup (aCons (eOp fIx (eV 1) (eV 3)) (aCons (eV 6) aNil))) aNil)))
def b__law_room_5 : MS := (sSeq s__law_room_1
  (sSeq s__law_room_2
  (sSeq s__law_room_3
  s__law_room_4)))
def s__law_room_6 : MS := (sAsg (eOwn (fLst aNil)) (gN 2))
def s__law_room_7 : MS := (sFor (iRg1M (aCons (eCB cLen (aCons (eV 1) aNil)) aNil)) (gN 3) b__law_room_5)
def s__law_room_8 : MS := (sRet (eCB (c1 gTuple) (aCons (eFrz (fCB gSorted (aCons (eV 2) aNil))) aNil)))
def m__law_room : MS :=
  (sSeq s__law_room_6
  (sSeq s__law_room_7
  s__law_room_8))
def f__law_room : List D → PR := pureOf 7 2 m__law_room
/-! _law_holders -/
abbrev st__law_holders : Stmt := top 20
abbrev N__law_holders : List Str := ["room", "thing", "holder", "one", "other", "found", "here", "turn"]
abbrev P__law_holders : List Str := ["room", "thing"]
structure L__law_holders where
  v_room : Option D := none
  v_thing : Option D := none
  v_holder : Option D := none
  v_one : Option D := none
  v_other : Option D := none
  v_found : Option D := none
  v_here : Option D := none
  v_turn : Option D := none
  mm : List Ob := []
def L__law_holders.S (v : L__law_holders) : S := ⟨[v.v_room, v.v_thing, v.v_holder, v.v_one, v.v_other, v.v_found, v.v_here, v.v_turn], v.mm⟩
def b__law_holders_1 : MS := (sAsg (eV 4) (gSet (eV 2) (eV 3)))
def s__law_holders_2 : MS := (sIf (tBl (eOp fEq (eV 6) (eC (.str [])))) sBk sNil)
def s__law_holders_3 : MS := (sDrop (eLM lmApp (eV 5) (aCons (eV 6) aNil)))
def s__law_holders_4 : MS := (sAsg (eOp fIx (eV 2) (eV 6)) (gN 6))
def b__law_holders_5 : MS := (sSeq s__law_holders_2
  (sSeq s__law_holders_3
  s__law_holders_4))
def s__law_holders_6 : MS := (sAsg (eOwn fDctN) (gN 2))
def s__law_holders_7 : MS := (sFor (iSeqM (eV 0)) (gTupM (gsCons (gN 3) (gsCons (gN 4) gsNil))) b__law_holders_1)
def s__law_holders_8 : MS := (sAsg (eOwn (fLst aNil)) (gN 5))
def s__law_holders_9 : MS := (sAsg (eOp fIx (eV 2) (eV 1)) (gN 6))
def s__law_holders_10 : MS := (sFor (iRg1M (aCons (eCB cLen (aCons (eV 0) aNil)) aNil)) (gN 7) b__law_holders_5)
def s__law_holders_11 : MS := (sRet (eCB (c1 gTuple) (aCons (eV 5) aNil)))
def m__law_holders : MS :=
  (sSeq s__law_holders_6
  (sSeq s__law_holders_7
  (sSeq s__law_holders_8
  (sSeq s__law_holders_9
  (sSeq s__law_holders_10
  s__law_holders_11)))))
def f__law_holders : List D → PR := pureOf 8 2 m__law_holders
/-! _law_held -/
abbrev st__law_held : Stmt := top 21
abbrev N__law_held : List Str := ["room", "thing", "one", "other"]
abbrev P__law_held : List Str := ["room", "thing"]
structure L__law_held where
  v_room : Option D := none
  v_thing : Option D := none
  v_one : Option D := none
  v_other : Option D := none
  mm : List Ob := []
def L__law_held.S (v : L__law_held) : S := ⟨[v.v_room, v.v_thing, v.v_one, v.v_other], v.mm⟩
def c__law_held_1 : MF := (fLc (iSeqM (eV 0)) (gTupM (gsCons (gN 2) (gsCons (gN 3) gsNil))) (tBl (eOp fIn (eV 1) (eCall f__law_holders (aCons (eV 0) (aCons (eV 2) aNil))))) (eV 2) [2, 3])
def m__law_held : MS :=
  (sRet (eCB (c1 gTuple) (aCons (eFrz (fCB gSorted (aCons (eFrz c__law_held_1) aNil))) aNil)))
def f__law_held : List D → PR := pureOf 4 2 m__law_held
/-! _law_looks -/
abbrev st__law_looks : Stmt := top 22
abbrev N__law_looks : List Str := ["room", "things", "longest", "thing", "holder"]
abbrev P__law_looks : List Str := ["room", "things"]
structure L__law_looks where
  v_room : Option D := none
  v_things : Option D := none
  v_longest : Option D := none
  v_thing : Option D := none
  v_holder : Option D := none
  mm : List Ob := []
def L__law_looks.S (v : L__law_looks) : S := ⟨[v.v_room, v.v_things, v.v_longest, v.v_thing, v.v_holder], v.mm⟩
def b__law_looks_1 : MS := (sAsg (eCB (c2 gMax2) (aCons (eV 2) (aCons (eCB cLen (aCons (eCall f__law_holders (aCons (eV 0) (aCons (eV 3) aNil))) aNil)) aNil))) (gN 2))
def s__law_looks_2 : MS := (sIf (tNotM (tTruN (eCall (f__law_is 6) (aCons (eCall f_way (aCons (eV 0) (aCons (eV 3) aNil))) (aCons (eCall f__law_holders (aCons (eV 0) (aCons (eV 3) aNil))) aNil))))) (sRet (eC (.bl false))) sNil)
def s__law_looks_3 : MS := (sIf (tNotM (tTruN (eCall (f__law_is 6) (aCons (eCall f_held (aCons (eV 0) (aCons (eV 3) aNil))) (aCons (eCall f__law_held (aCons (eV 0) (aCons (eV 3) aNil))) aNil))))) (sRet (eC (.bl false))) sNil)
def b__law_looks_4 : MS := (sSeq s__law_looks_2
  s__law_looks_3)
def s__law_looks_5 : MS := (sAsg (eC (.int 0)) (gN 2))
def s__law_looks_6 : MS := (sFor (iSeqM (eV 0)) (gTupM (gsCons (gN 3) (gsCons (gN 4) gsNil))) b__law_looks_1)
def s__law_looks_7 : MS := (sIf (tNotM (tTruN (eCall (f__law_is 6) (aCons (eCall f_depth (aCons (eV 0) aNil)) (aCons (eV 2) aNil))))) (sRet (eC (.bl false))) sNil)
def s__law_looks_8 : MS := (sFor (iSeqM (eV 1)) (gN 3) b__law_looks_4)
def s__law_looks_9 : MS := (sRet (eC (.bl true)))
def m__law_looks : MS :=
  (sSeq s__law_looks_5
  (sSeq s__law_looks_6
  (sSeq s__law_looks_7
  (sSeq s__law_looks_8
  s__law_looks_9))))
def f__law_looks : List D → PR := pureOf 5 2 m__law_looks
/-! _law_tried -/
abbrev st__law_tried : Stmt := top 23
abbrev N__law_tried : List Str := ["room", "thing", "holder", "e", "fine"]
abbrev P__law_tried : List Str := ["room", "thing", "holder"]
structure L__law_tried where
  v_room : Option D := none
  v_thing : Option D := none
  v_holder : Option D := none
  v_e : Option D := none
  v_fine : Option D := none
  mm : List Ob := []
def L__law_tried.S (v : L__law_tried) : S := ⟨[v.v_room, v.v_thing, v.v_holder, v.v_e, v.v_fine], v.mm⟩
def m__law_tried : MS :=
  (sTryAs 3 "BadMove" (sRet (eTup (aCons (eC (.bl false)) (aCons (eCall f_moved (aCons (eV 0) (aCons (eV 1) (aCons (eV 2) aNil)))) aNil)))) fun a d => (sSeq (sAsg (eAndV (eIsE 3 true a d) (eAndV (eIsE 3 true a d) (eNotV (eIsE 3 false a d)))) (gN 4))
  (sRet (eTup (aCons (eC (.bl true)) (aCons (eIf (tAndM (tTruN (eV 4)) (tAndM (tNotM (tTruN (eIsE 3 false a d))) (tNotM (tTruN (eIsE 3 false a d))))) (eC .non) (eC (.int 0))) aNil))))))
def f__law_tried : List D → PR := pureOf 5 3 m__law_tried
/-! _law_due -/
abbrev st__law_due : Stmt := top 24
abbrev N__law_due : List Str := ["room", "thing", "holder", "one", "other"]
abbrev P__law_due : List Str := ["room", "thing", "holder"]
structure L__law_due where
  v_room : Option D := none
  v_thing : Option D := none
  v_holder : Option D := none
  v_one : Option D := none
  v_other : Option D := none
  mm : List Ob := []
def L__law_due.S (v : L__law_due) : S := ⟨[v.v_room, v.v_thing, v.v_holder, v.v_one, v.v_other], v.mm⟩
def c__law_due_1 : MF := (fLc (iSeqM (eV 0)) (gTupM (gsCons (gN 3) (gsCons (gN 4) gsNil))) tYesM (eTup (aCons (eV 3) (aCons (eIf (tBl (eOp fEq (eV 3) (eV 1))) (eV 2) (eV 4)) aNil))) [3, 4])
def s__law_due_2 : MS := (sIf (tOrM (tBl (eOp fEq (eV 2) (eV 1))) (tBl (eOp fIn (eV 2) (eCall f__law_held (aCons (eV 0) (aCons (eV 1) aNil)))))) (sRet (eC .non)) sNil)
def s__law_due_3 : MS := (sRet (eCB (c1 gTuple) (aCons (eFrz c__law_due_1) aNil)))
def m__law_due : MS :=
  (sSeq s__law_due_2
  s__law_due_3)
def f__law_due : List D → PR := pureOf 5 3 m__law_due
/-! _law_moves -/
abbrev st__law_moves : Stmt := top 25
abbrev N__law_moves : List Str := ["room", "thing", "holders", "holder", "due", "raised", "told"]
abbrev P__law_moves : List Str := ["room", "thing", "holders"]
structure L__law_moves where
  v_room : Option D := none
  v_thing : Option D := none
  v_holders : Option D := none
  v_holder : Option D := none
  v_due : Option D := none
  v_raised : Option D := none
  v_told : Option D := none
  mm : List Ob := []
def L__law_moves.S (v : L__law_moves) : S := ⟨[v.v_room, v.v_thing, v.v_holders, v.v_holder, v.v_due, v.v_raised, v.v_told], v.mm⟩
def s__law_moves_1 : MS := (sAsg (eCall f__law_due (aCons (eV 0) (aCons (eV 1) (aCons (eV 3) aNil)))) (gN 4))
def s__law_moves_2 : MS := (sAsg (eCall f__law_tried (aCons (eV 0) (aCons (eV 1) (aCons (eV 3) aNil)))) (gTupM (gsCons (gN 5) (gsCons (gN 6) gsNil))))
def s__law_moves_3 : MS := (sIf (tOrM (tBl (eOp fNe (eV 5) (eOp fIs (eV 4) (eC .non)))) (tNotM (tTruN (eCall (f__law_is 6) (aCons (eV 6) (aCons (eV 4) aNil)))))) (sRet (eC (.bl false))) sNil)
def b__law_moves_4 : MS := (sSeq s__law_moves_1
  (sSeq s__law_moves_2
  s__law_moves_3))
def s__law_moves_5 : MS := (sFor (iSeqM (eV 2)) (gN 3) b__law_moves_4)
def s__law_moves_6 : MS := (sRet (eC (.bl true)))
def m__law_moves : MS :=
  (sSeq s__law_moves_5
  s__law_moves_6)
def f__law_moves : List D → PR := pureOf 7 3 m__law_moves
/-! law -/
abbrev st_law : Stmt := top 26
abbrev N_law : List Str := ["script", "draws", "count", "names", "room", "begun", "k", "thing", "other", "below", "holders", "after"]
abbrev P_law : List Str := ["script"]
structure L_law where
  v_script : Option D := none
  v_draws : Option D := none
  v_count : Option D := none
  v_names : Option D := none
  v_room : Option D := none
  v_begun : Option D := none
  v_k : Option D := none
  v_thing : Option D := none
  v_other : Option D := none
  v_below : Option D := none
  v_holders : Option D := none
  v_after : Option D := none
  mm : List Ob := []
def L_law.S (v : L_law) : S := ⟨[v.v_script, v.v_draws, v.v_count, v.v_names, v.v_room, v.v_begun, v.v_k, v.v_thing, v.v_other, v.v_below, v.v_holders, v.v_after], v.mm⟩
def s_law_1 : MS := (sAsg (eOp fIx (eV 3) (eOp fMod (eCB (c1 gInt) (aCons (eOp fIx (eV 1) (eOp fAdd (eC (.int 1)) (eOp fMul (eC (.int 2)) (eV 6)))) aNil)) (eV 2))) (gN 7))
def s_law_2 : MS := (sAsg (eOp fIx (eV 3) (eOp fMod (eCB (c1 gInt) (aCons (eOp fIx (eV 1) (eOp fAdd (eC (.int 2)) (eOp fMul (eC (.int 2)) (eV 6)))) aNil)) (eV 2))) (gN 8))
def s_law_3 : MS := (sAsg (eCall f__law_held (aCons (eV 4) (aCons (eV 7) aNil))) (gN 9))
def s_law_4 : MS := (sAsg (eOp fAdd (eOp fAdd (eOp fAdd (eTup (aCons (eV 8) (aCons (eC (.str [])) (aCons (eV 7) aNil)))) (eCut (eV 9) oNone (oSome (eC (.int 1))))) (eCut (eV 9) (oSome (eOp fSub (eCB cLen (aCons (eV 9) aNil)) (eC (.int 1)))) oNone)) (eCut (eCall f__law_holders (aCons (eV 4) (aCons (eV 7) aNil))) oNone (oSome (eC (.int 1))))) (gN 10))
def s_law_5 : MS := (sIf (tNotM (tTruN (eCall f__law_moves (aCons (eV 4) (aCons (eV 7) (aCons (eV 10) aNil)))))) (sRet (eC (.bl false))) sNil)
def s_law_6 : MS := (sAsg (eCall f__law_due (aCons (eV 4) (aCons (eV 7) (aCons (eV 8) aNil)))) (gN 11))
def s_law_7 : MS := (sIf (tBl (eOp fIsn (eV 11) (eC .non))) (sAsg (eV 11) (gN 4)) sNil)
def s_law_8 : MS := (sIf (tNotM (tTruN (eCall f__law_looks (aCons (eV 4) (aCons (eFrz (fLst (aCons (eV 7) (aCons (eV 8) aNil)))) aNil))))) (sRet (eC (.bl false))) sNil)
def b_law_9 : MS := (sSeq s_law_1
  (sSeq s_law_2
  (sSeq s_law_3
  (sSeq s_law_4
  (sSeq s_law_5
  (sSeq s_law_6
  (sSeq s_law_7
  s_law_8)))))))
def s_law_10 : MS := (sAsg (eCall f__law_draws (aCons (eCall f__law_cell (aCons (eV 0) (aCons (eC (.int 0)) aNil))) (aCons (eC (.int 16)) aNil))) (gN 1))
def s_law_11 : MS := (sAsg (eOp fIx (eTup (aCons (eC (.int 4)) (aCons (eC (.int 3)) (aCons (eC (.int 6)) (aCons (eC (.int 2)) (aCons (eC (.int 8)) (aCons (eC (.int 1)) (aCons (eC (.int 5)) (aCons (eC (.int 7)) (aCons (eC (.int 4)) (aCons (eC (.int 30)) aNil))))))))))) (eOp fMod (eCB (c1 gInt) (aCons (eOp fIx (eV 1) (eC (.int 0))) aNil)) (eC (.int 10)))) (gN 2))
def s_law_12 : MS := (sAsg (eCall f__law_things (aCons (eCall f__law_draws (aCons (eCall f__law_cell (aCons (eV 0) (aCons (eC (.int 1)) aNil))) (aCons (eOp fMul (eC (.int 2)) (eV 2)) aNil))) (aCons (eV 2) aNil))) (gN 3))
def s_law_13 : MS := (sAsg (eCall f__law_room (aCons (eCall f__law_draws (aCons (eCall f__law_cell (aCons (eV 0) (aCons (eC (.int 2)) aNil))) (aCons (eV 2) aNil))) (aCons (eV 3) aNil))) (gN 4))
def s_law_14 : MS := (sIf (tOrM (tNotM (tTruN (eCall f__law_looks (aCons (eV 4) (aCons (eV 3) aNil))))) (tNotM (tTruN (eCall f__law_looks (aCons (eTup aNil) (aCons (eFrz (fLst aNil)) aNil)))))) (sRet (eC (.bl false))) sNil)
def s_law_15 : MS := (sAsg (eV 4) (gN 5))
def s_law_16 : MS := (sFor (iRg1M (aCons (eC (.int 5)) aNil)) (gN 6) b_law_9)
def s_law_17 : MS := (sRet (eAndV (eCall f__law_looks (aCons (eV 5) (aCons (eCut (eV 3) oNone (oSome (eC (.int 4)))) aNil))) (eAndV (eCall f__law_moves (aCons (eV 5) (aCons (eOp fIx (eV 3) (eC (.int 0))) (aCons (eCB (c1 gTuple) (aCons (eCut (eV 3) oNone (oSome (eC (.int 6)))) aNil)) aNil)))) (eCall f__law_looks (aCons (eV 4) (aCons (eV 3) aNil))))))
def m_law : MS :=
  (sSeq s_law_10
  (sSeq s_law_11
  (sSeq s_law_12
  (sSeq s_law_13
  (sSeq s_law_14
  (sSeq s_law_15
  (sSeq s_law_16
  s_law_17)))))))
def f_law : List D → PR := pureOf 12 1 m_law
end
end K77
namespace K77
open PySem PySem.Spec PyProof.Rows L2 VL
section
variable {P : Program} {w : World} {K : PySem.W.Frag} {mg : Str → Option Value} {base : Heap} {B : Bs} {f : Addr} {fd : FuncData}
structure XF (P : Program) (w : World) (K : PySem.W.Frag) (mg : Str → Option Value) (B : Bs) : Prop where
  n_BadMove : mg "BadMove" = some (.ref (B.cl "BadMove"))
  n_BadRoom : mg "BadRoom" = some (.ref (B.cl "BadRoom"))
  n_MailwaysError : mg "MailwaysError" = some (.ref (B.cl "MailwaysError"))
  n_NoLane : mg "NoLane" = some (.ref (B.cl "NoLane"))
  n_NothingToUndo : mg "NothingToUndo" = some (.ref (B.cl "NothingToUndo"))
  x_BadMove : ExcMk P w K mg "BadMove" (B.cl "BadMove") []
  t_BadMove : PySem.W.exmOne K (.ref (B.cl "BadMove")) (.ref (B.cl "BadMove")) = some true
  e_BadMove : ExcC K (B.cl "BadMove")
  k_BadMove_BadRoom : PySem.W.kitOne K (.ref (B.cl "BadMove")) (.ref (B.cl "BadRoom")) = some false
  k_BadMove_MailwaysError : PySem.W.kitOne K (.ref (B.cl "BadMove")) (.ref (B.cl "MailwaysError")) = some true
  k_BadMove_NoLane : PySem.W.kitOne K (.ref (B.cl "BadMove")) (.ref (B.cl "NoLane")) = some false
  k_BadMove_NothingToUndo : PySem.W.kitOne K (.ref (B.cl "BadMove")) (.ref (B.cl "NothingToUndo")) = some false
  k_BadMove_ValueError : PySem.W.kitOne K (.ref (B.cl "BadMove")) (.type "ValueError") = some true
theorem sc_way : FnScope N_way P_way (defScope st_way) := ⟨rfl, rfl, rfl, by decide +kernel, rfl, by decide +kernel, by decide +kernel⟩
theorem ok_way (F : FnD K "way" st_way f fd) (f_dict : mg "dict" = none) (f_tuple : mg "tuple" = none) (g_FLOOR : ∃ t, mg "FLOOR" = some (.str "" t)) : FnP P w K mg base B 1 f fd P_way f_way := by
  refine def_pure (k := 0) (N := N_way) (m := m_way) F sc_way fun cdv A outer s H E hc hr => ?_
  apply Exists.intro
  exact (vss_cons (vs_set 2 sc_way.nd (ve_frz (vf_ct (call_dictT rfl) semC_dict f_dict vb_dict (va_cons (ve_v 0) va_nil))))
      (vss_cons (vs_set 3 sc_way.nd (ve_own (vf_lst va_nil)))
      (vss_cons (vs_set 4 sc_way.nd (ve_ix (hu 1 hr) (ve_v 2) (ve_v 1)))
      (vss_cons (vs_while 1000000 PassesOwn.leaving (vt_cmp (op_neA (hu 64 hr)) semR_ne (ve_v 4) (ve_gstr (l := []) (by rfl) g_FLOOR) (nomark _)) (vss_cons (vs_expr (ve_append (ve_v 3) (va_cons (ve_v 4) va_nil)))
      (vss_one (vs_set 4 sc_way.nd (ve_ix (hu 1 hr) (ve_v 2) (ve_v 4))))))
      (vss_one (vs_ret (ve_ct call_tupleF semC_tuple f_tuple vb_tuple (va_cons (ve_v 3) va_nil))))))))
theorem sc_held : FnScope N_held P_held (defScope st_held) := ⟨rfl, rfl, rfl, by decide +kernel, rfl, by decide +kernel, by decide +kernel⟩
theorem ok_held (F : FnD K "held" st_held f fd) (f_tuple : mg "tuple" = none) (c_way : CallOk P w K mg base B "way" 1 P_way f_way) : FnP P w K mg base B 2 f fd P_held f_held := by
  refine def_pure (k := 1) (N := N_held) (m := m_held) F sc_held fun cdv A outer s H E hc hr => ?_
  apply Exists.intro
  exact (vss_one (vs_ret (ve_ct call_tupleF semC_tuple f_tuple vb_tuple (va_cons (ve_frz (vf_lc (own := [("other", 2), ("_", 3)]) rfl sc_held.nd (vi_seq (ve_v 0)) (blk_ok (N := N_held) (sc := defScope st_held) rfl ⟨by decide +kernel, by decide +kernel, by decide +kernel, by decide +kernel⟩) (fun _ _ _ _ _ => (vg_tup rfl (vgs_cons (vg_name 2 sc_held.nd) (vgs_cons (vg_name 3 sc_held.nd) vgs_nil gN_ok) gN_ok) (len_cons gN_ok (len_cons gN_ok len_nil)))) (gin_tup (gin_cons gin_name (gin_cons gin_name gin_nil gmono_name gmono_nil) gmono_name (gmono_cons gmono_name gmono_nil))) (gmono_tup (gmono_cons gmono_name (gmono_cons gmono_name gmono_nil))) (fun _ _ _ _ _ => (vts_c (K := K) (vts_one (vt_cmp (op_inA (hu 65 hr)) semR_in (ve_v 1) (ve_own_call c_way hr (by decide) (by rfl) takes0 (va_cons (ve_v 0) (va_cons (ve_v 2) va_nil))) (by rfl))))) (fun _ _ _ _ _ => (ve_c (K := K) (ve_v 2))) s)) va_nil))))
theorem sc_depth : FnScope N_depth P_depth (defScope st_depth) := ⟨rfl, rfl, rfl, by decide +kernel, rfl, by decide +kernel, by decide +kernel⟩
theorem ok_depth (F : FnD K "depth" st_depth f fd) (f_len : mg "len" = none) (f_max : mg "max" = none) (c_way : CallOk P w K mg base B "way" 1 P_way f_way) : FnP P w K mg base B 2 f fd P_depth f_depth := by
  refine def_pure (k := 1) (N := N_depth) (m := m_depth) F sc_depth fun cdv A outer s H E hc hr => ?_
  apply Exists.intro
  exact (vss_one (vs_ret (ve_if (vt_tru (ve_v 0)) (ve_cb (cr_max rfl) semC_maxL f_max vb_max (va_cons (ve_frz (vf_lc (own := [("thing", 1), ("_", 2)]) rfl sc_depth.nd (vi_seq (ve_v 0)) (blk_ok (N := N_depth) (sc := defScope st_depth) rfl ⟨by decide +kernel, by decide +kernel, by decide +kernel, by decide +kernel⟩) (fun _ _ _ _ _ => (vg_tup rfl (vgs_cons (vg_name 1 sc_depth.nd) (vgs_cons (vg_name 2 sc_depth.nd) vgs_nil gN_ok) gN_ok) (len_cons gN_ok (len_cons gN_ok len_nil)))) (gin_tup (gin_cons gin_name (gin_cons gin_name gin_nil gmono_name gmono_nil) gmono_name (gmono_cons gmono_name gmono_nil))) (gmono_tup (gmono_cons gmono_name (gmono_cons gmono_name gmono_nil))) (fun _ _ _ _ _ => vts_nil) (fun _ _ _ _ _ => (ve_c (K := K) (ve_cb call_lenA semC_len f_len vb_len (va_cons (ve_own_call c_way hr (by decide) (by rfl) takes0 (va_cons (ve_v 0) (va_cons (ve_v 1) va_nil))) va_nil)))) s)) va_nil)) ve_int)))
theorem sc_moved : FnScope N_moved P_moved (defScope st_moved) := ⟨rfl, rfl, rfl, by decide +kernel, rfl, by decide +kernel, by decide +kernel⟩
theorem ok_moved (F : FnD K "moved" st_moved f fd) (f_dict : mg "dict" = none) (f_sorted : mg "sorted" = none) (f_tuple : mg "tuple" = none) (g_FLOOR : ∃ t, mg "FLOOR" = some (.str "" t)) (c_way : CallOk P w K mg base B "way" 1 P_way f_way) (xf : XF P w K mg B) : FnP P w K mg base B 2 f fd P_moved f_moved := by
  refine def_pure (k := 1) (N := N_moved) (m := m_moved) F sc_moved fun cdv A outer s H E hc hr => ?_
  apply Exists.intro
  exact (vss_cons (vs_if (vt_w (vw_or (vt_cmp (op_eqA (hu 64 hr)) semR_eq (ve_v 2) (ve_v 1) (nomark _)) (vw_or1 (vt_w (vw_and (vt_cmp (op_neA (hu 64 hr)) semR_ne (ve_v 2) (ve_gstr (l := []) (by rfl) g_FLOOR) (nomark _)) (vw_and1 (vt_cmp (op_inA (hu 65 hr)) semR_in (ve_v 1) (ve_own_call c_way hr (by decide) (by rfl) tk_of (va_cons (ve_v 0) (va_cons (ve_v 2) va_nil))) (by rfl)))))))) (vss_one (vs_raise0 rfl tk_of xf.x_BadMove hr)) vss_nil)
      (vss_cons (vs_set 3 sc_moved.nd (ve_own (vf_ct (call_dictT rfl) semC_dict f_dict vb_dict (va_cons (ve_v 0) va_nil))))
      (vss_cons (vs_asg (ve_v 2) (vg_set (hu 1 hr) (ve_v 3) (ve_v 1)) gset_ok)
      (vss_one (vs_ret (ve_ct call_tupleF semC_tuple f_tuple vb_tuple (va_cons (ve_frz (vf_sortItems rfl (hu 67 hr) f_sorted (ve_v 3))) va_nil)))))))
theorem sc__law_cell : FnScope N__law_cell P__law_cell (defScope st__law_cell) := ⟨rfl, rfl, rfl, by decide +kernel, rfl, by decide +kernel, by decide +kernel⟩
theorem ok__law_cell (F : FnD K "_law_cell" st__law_cell f fd) (f_len : mg "len" = none) : FnP P w K mg base B 1 f fd P__law_cell f__law_cell := by
  refine def_pure (k := 0) (N := N__law_cell) (m := m__law_cell) F sc__law_cell fun cdv A outer s H E hc hr => ?_
  apply Exists.intro
  exact (vss_cons (vs_if (vt_cmp op_ltA semR_cmp (ve_v 1) (ve_cb call_lenA semC_len f_len vb_len (va_cons (ve_v 0) va_nil)) (nomark _)) (vss_one (vs_ret (ve_ix (hu 1 hr) (ve_v 0) (ve_v 1)))) vss_nil)
      (vss_one (vs_ret (ve_add (ve_mul ve_int (ve_v 1)) ve_int))))
theorem sc__law_draws : FnScope N__law_draws P__law_draws (defScope st__law_draws) := ⟨rfl, rfl, rfl, by decide +kernel, rfl, by decide +kernel, by decide +kernel⟩
theorem ok__law_draws (F : FnD K "_law_draws" st__law_draws f fd) (f_abs : mg "abs" = none) (f_int : mg "int" = none) (f_range : mg "range" = none) : FnP P w K mg base B 1 f fd P__law_draws f__law_draws := by
  refine def_pure (k := 0) (N := N__law_draws) (m := m__law_draws) F sc__law_draws fun cdv A outer s H E hc hr => ?_
  apply Exists.intro
  exact (vss_cons (vs_set 2 sc__law_draws.nd (ve_cb call_abs semC_abs f_abs vb_abs (va_cons (ve_ct call_int1 semC_int f_int vb_int (va_cons (ve_v 0) va_nil)) va_nil)))
      (vss_cons (vs_set 3 sc__law_draws.nd (ve_cmp op_geA semR_cmp (ve_v 2) (ve_pow ve_int ve_int) (nomark _)))
      (vss_cons (vs_set 4 sc__law_draws.nd (ve_v 2))
      (vss_cons (vs_set 5 sc__law_draws.nd (ve_own (vf_lst va_nil)))
      (vss_cons (vs_for PassesOwn.leaving rfl (vi_range1 (by rfl) f_range (va_cons (ve_v 1) va_nil)) (vg_name 6 sc__law_draws.nd) gN_ok (vss_one (vs_if (vt_w (vw_and (vt_tru (ve_v 3)) (vw_and1 (vt_cmp op_gtA semR_cmp (ve_v 2) ve_int (nomark _))))) (vss_cons (vs_expr (ve_append (ve_v 5) (va_cons (ve_mod (ve_ct call_int1 semC_int f_int vb_int (va_cons (ve_v 2) va_nil)) ve_int) va_nil)))
      (vss_one (vs_set 2 sc__law_draws.nd (ve_div (ve_v 2) ve_int)))) (vss_cons (vs_set 7 sc__law_draws.nd (ve_mod (ve_ct call_int1 semC_int f_int vb_int (va_cons (ve_add (ve_add (ve_mul (ve_v 4) ve_int) (ve_mul (ve_add (ve_v 6) ve_int) ve_int)) ve_int) va_nil)) ve_int))
      (vss_cons (vs_set 7 sc__law_draws.nd (ve_mod (ve_ct call_int1 semC_int f_int vb_int (va_cons (ve_add (ve_mul (ve_v 7) (ve_v 7)) (ve_mul ve_int (ve_add (ve_v 6) ve_int))) va_nil)) ve_int))
      (vss_one (vs_expr (ve_append (ve_v 5) (va_cons (ve_mod (ve_ct call_int1 semC_int f_int vb_int (va_cons (ve_div (ve_v 7) ve_int) va_nil)) ve_int) va_nil)))))))))
      (vss_one (vs_ret (ve_take 5))))))))
theorem sc__law_is_integer : FnScope N__law_is_integer P__law_is_integer (defScope st__law_is_integer) := ⟨rfl, rfl, rfl, by decide +kernel, rfl, by decide +kernel, by decide +kernel⟩
theorem ok__law_is_integer (F : FnD K "_law_is_integer" st__law_is_integer f fd) (f_bool : mg "bool" = none) (f_int : mg "int" = none) (f_isinstance : mg "isinstance" = none) : FnP P w K mg base B 1 f fd P__law_is_integer f__law_is_integer := by
  refine def_pure (k := 0) (N := N__law_is_integer) (m := m__law_is_integer) F sc__law_is_integer fun cdv A outer s H E hc hr => ?_
  apply Exists.intro
  exact (vss_one (vs_ret (ve_and (ve_isi (ve_v 0) f_isinstance f_int vb_int) (ve_one (ve_not (ve_isi (ve_v 0) f_isinstance f_bool vb_bool))))))
theorem sc__law_name : FnScope N__law_name P__law_name (defScope st__law_name) := ⟨rfl, rfl, rfl, by decide +kernel, rfl, by decide +kernel, by decide +kernel⟩
theorem ok__law_name (F : FnD K "_law_name" st__law_name f fd) (f_int : mg "int" = none) (f_range : mg "range" = none) : FnP P w K mg base B 1 f fd P__law_name f__law_name := by
  refine def_pure (k := 0) (N := N__law_name) (m := m__law_name) F sc__law_name fun cdv A outer s H E hc hr => ?_
  apply Exists.intro
  exact (vss_cons (vs_set 2 sc__law_name.nd (ve_str (l := [97, 98, 99, 100, 101, 102, 103, 104, 105, 106, 107, 108, 109, 110, 111, 112, 113, 114, 115, 116, 117, 118, 119, 120, 121, 122])))
      (vss_cons (vs_set 3 sc__law_name.nd (ve_ix (hu 1 hr) (ve_tup (va_cons ve_int (va_cons ve_int (va_cons ve_int (va_cons ve_int (va_cons ve_int (va_cons ve_int va_nil))))))) (ve_mod (ve_ct call_int1 semC_int f_int vb_int (va_cons (ve_v 0) va_nil)) ve_int)))
      (vss_cons (vs_set 4 sc__law_name.nd (ve_div (ve_ct call_int1 semC_int f_int vb_int (va_cons (ve_v 0) va_nil)) ve_int))
      (vss_cons (vs_set 5 sc__law_name.nd (ve_ix (hu 1 hr) (ve_v 2) (ve_mod (ve_ct call_int1 semC_int f_int vb_int (va_cons (ve_v 1) va_nil)) ve_int)))
      (vss_cons (vs_set 6 sc__law_name.nd (ve_div (ve_ct call_int1 semC_int f_int vb_int (va_cons (ve_v 1) va_nil)) ve_int))
      (vss_cons (vs_for PassesOwn.leaving rfl (vi_range1 (by rfl) f_range (va_cons (ve_sub (ve_v 3) ve_int) va_nil)) (vg_name 7 sc__law_name.nd) gN_ok (vss_cons (vs_set 5 sc__law_name.nd (ve_add (ve_v 5) (ve_ix (hu 1 hr) (ve_v 2) (ve_mod (ve_ct call_int1 semC_int f_int vb_int (va_cons (ve_add (ve_v 4) (ve_mul ve_int (ve_v 7))) va_nil)) ve_int))))
      (vss_one (vs_set 4 sc__law_name.nd (ve_add (ve_div (ve_v 4) ve_int) (ve_mul (ve_v 6) (ve_add (ve_v 7) ve_int)))))))
      (vss_one (vs_ret (ve_v 5)))))))))
theorem sc__law_is : FnScope N__law_is P__law_is (defScope st__law_is) := ⟨rfl, rfl, rfl, by decide +kernel, rfl, by decide +kernel, by decide +kernel⟩
theorem ok__law_is (F : FnD K "_law_is" st__law_is f fd) (f_all : mg "all" = none) (f_bool : mg "bool" = none) (f_int : mg "int" = none) (f_isinstance : mg "isinstance" = none) (f_len : mg "len" = none) (f_range : mg "range" = none) (f_str : mg "str" = none) (f_tuple : mg "tuple" = none) (c__law_is_integer : CallOk P w K mg base B "_law_is_integer" 1 P__law_is_integer f__law_is_integer) (hm : mg "_law_is" = some (.ref f)) (hb : Binds K fd P__law_is []) : FnP P w K mg base B 7 f fd P__law_is (f__law_is 6) := by
  refine fn_rec (k := 1) (F := f__law_is) rfl hm F.kp hb (fun n c__law_is => ?_) 6
  refine def_pure (k := 1 + n) (N := N__law_is) (m := m__law_is (f__law_is n)) F sc__law_is fun cdv A outer s H E hc hr => ?_
  apply Exists.intro
  exact (vss_cons (vs_if (vt_cmp op_isN semR_is (ve_v 1) ve_non (nomark _)) (vss_one (vs_ret (ve_cmp op_isN semR_is (ve_v 0) ve_non (nomark _)))) vss_nil)
      (vss_cons (vs_if (vt_tru (ve_isi (ve_v 1) f_isinstance f_bool vb_bool)) (vss_one (vs_ret (ve_and (ve_isi (ve_v 0) f_isinstance f_bool vb_bool) (ve_one (ve_cmp (op_eqA (hu 64 hr)) semR_eq (ve_v 0) (ve_v 1) (nomark _)))))) vss_nil)
      (vss_cons (vs_if (vt_tru (ve_isi (ve_v 1) f_isinstance f_int vb_int)) (vss_one (vs_ret (ve_and (ve_own_call c__law_is_integer hr (by omega) (by rfl) tk_of (va_cons (ve_v 0) va_nil)) (ve_one (ve_cmp (op_eqA (hu 64 hr)) semR_eq (ve_v 0) (ve_v 1) (nomark _)))))) vss_nil)
      (vss_cons (vs_if (vt_tru (ve_isi (ve_v 1) f_isinstance f_str vb_str)) (vss_one (vs_ret (ve_and (ve_isi (ve_v 0) f_isinstance f_str vb_str) (ve_one (ve_cmp (op_eqA (hu 64 hr)) semR_eq (ve_v 0) (ve_v 1) (nomark _)))))) vss_nil)
      (vss_cons (vs_if (vt_w (vw_or (vt_not (vt_tru (ve_isi (ve_v 0) f_isinstance f_tuple vb_tuple))) (vw_or1 (vt_cmp (op_neA (hu 64 hr)) semR_ne (ve_cb call_lenA semC_len f_len vb_len (va_cons (ve_v 0) va_nil)) (ve_cb call_lenA semC_len f_len vb_len (va_cons (ve_v 1) va_nil)) (nomark _))))) (vss_one (vs_ret ve_bl)) vss_nil)
      (vss_one (vs_ret (ve_cb (cr_all rfl) semC_all f_all vb_all (va_cons (ve_frz (vf_lc (own := [("at", 2)]) rfl sc__law_is.nd (vi_range1 (by rfl) f_range (va_cons (ve_cb call_lenA semC_len f_len vb_len (va_cons (ve_v 1) va_nil)) va_nil)) (blk_ok (N := N__law_is) (sc := defScope st__law_is) rfl ⟨by decide +kernel, by decide +kernel, by decide +kernel, by decide +kernel⟩) (fun _ _ _ _ _ => (vg_name 2 sc__law_is.nd)) gin_name gmono_name (fun _ _ _ _ _ => vts_nil) (fun _ _ _ _ _ => (ve_c (K := K) (ve_own_call c__law_is hr (by omega) (by rfl) takes0 (va_cons (ve_ix (hu 1 hr) (ve_v 0) (ve_v 2)) (va_cons (ve_ix (hu 1 hr) (ve_v 1) (ve_v 2)) va_nil))))) s)) va_nil)))))))))
theorem sc__law_things : FnScope N__law_things P__law_things (defScope st__law_things) := ⟨rfl, rfl, rfl, by decide +kernel, rfl, by decide +kernel, by decide +kernel⟩
theorem ok__law_things (F : FnD K "_law_things" st__law_things f fd) (f_range : mg "range" = none) (c__law_name : CallOk P w K mg base B "_law_name" 1 P__law_name f__law_name) : FnP P w K mg base B 2 f fd P__law_things f__law_things := by
  refine def_pure (k := 1) (N := N__law_things) (m := m__law_things) F sc__law_things fun cdv A outer s H E hc hr => ?_
  apply Exists.intro
  exact (vss_cons (vs_set 2 sc__law_things.nd (ve_str (l := [97, 98, 99, 100, 101, 102, 103, 104, 105, 106, 107, 108, 109, 110, 111, 112, 113, 114, 115, 116, 117, 118, 119, 120, 121, 122])))
      (vss_cons (vs_set 3 sc__law_things.nd (ve_own (vf_lst va_nil)))
      (vss_cons (vs_for PassesOwn.leaving rfl (vi_range1 (by rfl) f_range (va_cons (ve_v 1) va_nil)) (vg_name 4 sc__law_things.nd) gN_ok (vss_cons (vs_set 5 sc__law_things.nd (ve_own_call c__law_name hr (by decide) (by rfl) tk_of (va_cons (ve_ix (hu 1 hr) (ve_v 0) (ve_mul ve_int (ve_v 4))) (va_cons (ve_ix (hu 1 hr) (ve_v 0) (ve_add (ve_mul ve_int (ve_v 4)) ve_int)) va_nil))))
      (vss_cons (vs_set 6 sc__law_things.nd (ve_add (ve_frz (vf_lst (va_cons (ve_v 5) va_nil))) (ve_frz (vf_lc (own := [("turn", 7)]) rfl sc__law_things.nd (vi_range1 (by rfl) f_range (va_cons ve_int va_nil)) (blk_ok (N := N__law_things) (sc := defScope st__law_things) rfl ⟨by decide +kernel, by decide +kernel, by decide +kernel, by decide +kernel⟩) (fun _ _ _ _ _ => (vg_name 7 sc__law_things.nd)) gin_name gmono_name (fun _ _ _ _ _ => vts_nil) (fun _ _ _ _ _ => (ve_c (K := K) (ve_add (ve_add (ve_cut (ve_v 5) vo_none (vo_some ve_int)) (ve_ix (hu 1 hr) (ve_v 2) (ve_mod (ve_v 7) ve_int))) (ve_ix (hu 1 hr) (ve_v 2) (ve_div (ve_v 7) ve_int))))) s))))
      (vss_one (vs_expr (ve_append (ve_v 3) (va_cons (ve_ix (hu 1 hr) (ve_frz (vf_lc (own := [("one", 8)]) rfl sc__law_things.nd (vi_seq (ve_v 6)) (blk_ok (N := N__law_things) (sc := defScope st__law_things) rfl ⟨by decide +kernel, by decide +kernel, by decide +kernel, by decide +kernel⟩) (fun _ _ _ _ _ => (vg_name 8 sc__law_things.nd)) gin_name gmono_name (fun _ _ _ _ _ => (vts_c (K := K) (vts_one (vt_cmp (op_notInA (hu 65 hr)) semR_notin (ve_v 8) (ve_v 3) (by rfl))))) (fun _ _ _ _ _ => (ve_c (K := K) (ve_v 8))) s)) ve_int) va_nil)))))))
      (vss_one (vs_ret (ve_take 3))))))
theorem sc__law_room : FnScope N__law_room P__law_room (defScope st__law_room) := ⟨rfl, rfl, rfl, by decide +kernel, rfl, by decide +kernel, by decide +kernel⟩
theorem ok__law_room (F : FnD K "_law_room" st__law_room f fd) (f_int : mg "int" = none) (f_len : mg "len" = none) (f_range : mg "range" = none) (f_sorted : mg "sorted" = none) (f_tuple : mg "tuple" = none) : FnP P w K mg base B 1 f fd P__law_room f__law_room := by
  refine def_pure (k := 0) (N := N__law_room) (m := m__law_room) F sc__law_room fun cdv A outer s H E hc hr => ?_
  apply Exists.intro
  exact (vss_cons (vs_set 2 sc__law_room.nd (ve_own (vf_lst va_nil)))
      (vss_cons (vs_for PassesOwn.leaving rfl (vi_range1 (by rfl) f_range (va_cons (ve_cb call_lenA semC_len f_len vb_len (va_cons (ve_v 1) va_nil)) va_nil)) (vg_name 3 sc__law_room.nd) gN_ok (vss_cons (vs_set 4 sc__law_room.nd (ve_div (ve_ct call_int1 semC_int f_int vb_int (va_cons (ve_ix (hu 1 hr) (ve_v 0) (ve_v 3)) va_nil)) ve_int))
      (vss_cons (vs_set 5 sc__law_room.nd (ve_mod (ve_ct call_int1 semC_int f_int vb_int (va_cons (ve_ix (hu 1 hr) (ve_v 0) (ve_v 3)) va_nil)) ve_int))
      (vss_cons (vs_set 6 sc__law_room.nd (ve_if (vt_w (vw_or (vt_cmp (op_eqA (hu 64 hr)) semR_eq (ve_v 3) ve_int (nomark _)) (vw_or1 (vt_cmp (op_eqA (hu 64 hr)) semR_eq (ve_v 5) ve_int (nomark _))))) (ve_str (l := [])) (ve_if (vt_cmp op_ltA semR_cmp (ve_v 5) ve_int (nomark _)) (ve_ix (hu 1 hr) (ve_v 1) (ve_sub (ve_v 3) ve_int)) (ve_ix (hu 1 hr) (ve_v 1) (ve_mod (ve_v 4) (ve_v 3))))))
      (vss_one (vs_expr (ve_append (ve_v 2) (va_cons (ve_tup (va_cons (ve_ix (hu 1 hr) (ve_v 1) (ve_v 3)) (va_cons (ve_v 6) va_nil))) va_nil))))))))
      (vss_one (vs_ret (ve_ct call_tupleF semC_tuple f_tuple vb_tuple (va_cons (ve_frz (vf_cb (SD.cr_SD (hu 67 hr)) semC_sorted f_sorted vb_sorted (va_cons (ve_v 2) va_nil))) va_nil))))))
theorem sc__law_holders : FnScope N__law_holders P__law_holders (defScope st__law_holders) := ⟨rfl, rfl, rfl, by decide +kernel, rfl, by decide +kernel, by decide +kernel⟩
theorem ok__law_holders (F : FnD K "_law_holders" st__law_holders f fd) (f_len : mg "len" = none) (f_range : mg "range" = none) (f_tuple : mg "tuple" = none) : FnP P w K mg base B 1 f fd P__law_holders f__law_holders := by
  refine def_pure (k := 0) (N := N__law_holders) (m := m__law_holders) F sc__law_holders fun cdv A outer s H E hc hr => ?_
  apply Exists.intro
  exact (vss_cons (vs_set 2 sc__law_holders.nd (ve_own vf_dctN))
      (vss_cons (vs_for PassesOwn.leaving rfl (vi_seq (ve_v 0)) (vg_tup rfl (vgs_cons (vg_name 3 sc__law_holders.nd) (vgs_cons (vg_name 4 sc__law_holders.nd) vgs_nil gN_ok) gN_ok) (len_cons gN_ok (len_cons gN_ok len_nil))) (gTupM_ok (gsCons_ok gN_ok (gsCons_ok gN_ok gsNil_ok))) (vss_one (vs_asg (ve_v 4) (vg_set (hu 1 hr) (ve_v 2) (ve_v 3)) gset_ok)))
      (vss_cons (vs_set 5 sc__law_holders.nd (ve_own (vf_lst va_nil)))
      (vss_cons (vs_set 6 sc__law_holders.nd (ve_ix (hu 1 hr) (ve_v 2) (ve_v 1)))
      (vss_cons (vs_for PassesOwn.leaving rfl (vi_range1 (by rfl) f_range (va_cons (ve_cb call_lenA semC_len f_len vb_len (va_cons (ve_v 0) va_nil)) va_nil)) (vg_name 7 sc__law_holders.nd) gN_ok (vss_cons (vs_if (vt_cmp (op_eqA (hu 64 hr)) semR_eq (ve_v 6) (ve_str (l := [])) (nomark _)) (vss_one vs_break) vss_nil)
      (vss_cons (vs_expr (ve_append (ve_v 5) (va_cons (ve_v 6) va_nil)))
      (vss_one (vs_set 6 sc__law_holders.nd (ve_ix (hu 1 hr) (ve_v 2) (ve_v 6)))))))
      (vss_one (vs_ret (ve_ct call_tupleF semC_tuple f_tuple vb_tuple (va_cons (ve_v 5) va_nil)))))))))
theorem sc__law_held : FnScope N__law_held P__law_held (defScope st__law_held) := ⟨rfl, rfl, rfl, by decide +kernel, rfl, by decide +kernel, by decide +kernel⟩
theorem ok__law_held (F : FnD K "_law_held" st__law_held f fd) (f_sorted : mg "sorted" = none) (f_tuple : mg "tuple" = none) (c__law_holders : CallOk P w K mg base B "_law_holders" 1 P__law_holders f__law_holders) : FnP P w K mg base B 2 f fd P__law_held f__law_held := by
  refine def_pure (k := 1) (N := N__law_held) (m := m__law_held) F sc__law_held fun cdv A outer s H E hc hr => ?_
  apply Exists.intro
  exact (vss_one (vs_ret (ve_ct call_tupleF semC_tuple f_tuple vb_tuple (va_cons (ve_frz (vf_cb (SD.cr_SD (hu 67 hr)) semC_sorted f_sorted vb_sorted (va_cons (ve_frz (vf_lc (own := [("one", 2), ("other", 3)]) rfl sc__law_held.nd (vi_seq (ve_v 0)) (blk_ok (N := N__law_held) (sc := defScope st__law_held) rfl ⟨by decide +kernel, by decide +kernel, by decide +kernel, by decide +kernel⟩) (fun _ _ _ _ _ => (vg_tup rfl (vgs_cons (vg_name 2 sc__law_held.nd) (vgs_cons (vg_name 3 sc__law_held.nd) vgs_nil gN_ok) gN_ok) (len_cons gN_ok (len_cons gN_ok len_nil)))) (gin_tup (gin_cons gin_name (gin_cons gin_name gin_nil gmono_name gmono_nil) gmono_name (gmono_cons gmono_name gmono_nil))) (gmono_tup (gmono_cons gmono_name (gmono_cons gmono_name gmono_nil))) (fun _ _ _ _ _ => (vts_c (K := K) (vts_one (vt_cmp (op_inA (hu 65 hr)) semR_in (ve_v 1) (ve_own_call c__law_holders hr (by decide) (by rfl) takes0 (va_cons (ve_v 0) (va_cons (ve_v 2) va_nil))) (by rfl))))) (fun _ _ _ _ _ => (ve_c (K := K) (ve_v 2))) s)) va_nil))) va_nil))))
theorem sc__law_looks : FnScope N__law_looks P__law_looks (defScope st__law_looks) := ⟨rfl, rfl, rfl, by decide +kernel, rfl, by decide +kernel, by decide +kernel⟩
theorem ok__law_looks (F : FnD K "_law_looks" st__law_looks f fd) (f_len : mg "len" = none) (f_max : mg "max" = none) (c__law_held : CallOk P w K mg base B "_law_held" 2 P__law_held f__law_held) (c__law_holders : CallOk P w K mg base B "_law_holders" 1 P__law_holders f__law_holders) (c__law_is : CallOk P w K mg base B "_law_is" 7 P__law_is (f__law_is 6)) (c_depth : CallOk P w K mg base B "depth" 2 P_depth f_depth) (c_held : CallOk P w K mg base B "held" 2 P_held f_held) (c_way : CallOk P w K mg base B "way" 1 P_way f_way) : FnP P w K mg base B 8 f fd P__law_looks f__law_looks := by
  refine def_pure (k := 7) (N := N__law_looks) (m := m__law_looks) F sc__law_looks fun cdv A outer s H E hc hr => ?_
  apply Exists.intro
  exact (vss_cons (vs_set 2 sc__law_looks.nd ve_int)
      (vss_cons (vs_for PassesOwn.leaving rfl (vi_seq (ve_v 0)) (vg_tup rfl (vgs_cons (vg_name 3 sc__law_looks.nd) (vgs_cons (vg_name 4 sc__law_looks.nd) vgs_nil gN_ok) gN_ok) (len_cons gN_ok (len_cons gN_ok len_nil))) (gTupM_ok (gsCons_ok gN_ok (gsCons_ok gN_ok gsNil_ok))) (vss_one (vs_set 2 sc__law_looks.nd (ve_cb (call_max2 rfl) semC_max2 f_max vb_max (va_cons (ve_v 2) (va_cons (ve_cb call_lenA semC_len f_len vb_len (va_cons (ve_own_call c__law_holders hr (by decide) (by rfl) tk_of (va_cons (ve_v 0) (va_cons (ve_v 3) va_nil))) va_nil)) va_nil))))))
      (vss_cons (vs_if (vt_not (vt_tru (ve_own_call c__law_is hr (by decide) (by rfl) tk_of (va_cons (ve_own_call c_depth hr (by decide) (by rfl) tk_of (va_cons (ve_v 0) va_nil)) (va_cons (ve_v 2) va_nil))))) (vss_one (vs_ret ve_bl)) vss_nil)
      (vss_cons (vs_for PassesOwn.leaving rfl (vi_seq (ve_v 1)) (vg_name 3 sc__law_looks.nd) gN_ok (vss_cons (vs_if (vt_not (vt_tru (ve_own_call c__law_is hr (by decide) (by rfl) tk_of (va_cons (ve_own_call c_way hr (by decide) (by rfl) tk_of (va_cons (ve_v 0) (va_cons (ve_v 3) va_nil))) (va_cons (ve_own_call c__law_holders hr (by decide) (by rfl) tk_of (va_cons (ve_v 0) (va_cons (ve_v 3) va_nil))) va_nil))))) (vss_one (vs_ret ve_bl)) vss_nil)
      (vss_one (vs_if (vt_not (vt_tru (ve_own_call c__law_is hr (by decide) (by rfl) tk_of (va_cons (ve_own_call c_held hr (by decide) (by rfl) tk_of (va_cons (ve_v 0) (va_cons (ve_v 3) va_nil))) (va_cons (ve_own_call c__law_held hr (by decide) (by rfl) tk_of (va_cons (ve_v 0) (va_cons (ve_v 3) va_nil))) va_nil))))) (vss_one (vs_ret ve_bl)) vss_nil))))
      (vss_one (vs_ret ve_bl))))))
theorem sc__law_tried : FnScope N__law_tried P__law_tried (defScope st__law_tried) := ⟨rfl, rfl, rfl, by decide +kernel, rfl, by decide +kernel, by decide +kernel⟩
theorem ok__law_tried (F : FnD K "_law_tried" st__law_tried f fd) (f_ValueError : mg "ValueError" = none) (f_isinstance : mg "isinstance" = none) (c_moved : CallOk P w K mg base B "moved" 2 P_moved f_moved) (xf : XF P w K mg B) : FnP P w K mg base B 3 f fd P__law_tried f__law_tried := by
  refine def_pure (k := 2) (N := N__law_tried) (m := m__law_tried) F sc__law_tried fun cdv A outer s H E hc hr => ?_
  apply Exists.intro
  exact (vss_one (vs_tryAs (i := 3) rfl rfl sc__law_tried.nd ⟨by rfl, by decide, .inl xf.n_BadMove⟩ tk_of xf.t_BadMove (fun W pn xe tk po => ⟨_, (vss_one (vs_ret (ve_tup (va_cons ve_bl (va_cons (ve_own_call c_moved hr (by decide) (by rfl) tk (va_cons (ve_v 0) (va_cons (ve_v 1) (va_cons (ve_v 2) va_nil)))) va_nil)))))⟩) (fun a oe d pn hz hf => ⟨_, (vss_cons (vs_set 4 sc__law_tried.nd (ve_and (ve_isG 3 xf.e_BadMove hz hf f_isinstance xf.n_MailwaysError xf.k_BadMove_MailwaysError) (ve_and (ve_isT 3 xf.e_BadMove hz hf f_isinstance f_ValueError vb_ValueError xf.k_BadMove_ValueError) (ve_one (ve_not (ve_isG 3 xf.e_BadMove hz hf f_isinstance xf.n_BadRoom xf.k_BadMove_BadRoom))))))
      (vss_one (vs_ret (ve_tup (va_cons ve_bl (va_cons (ve_if (vt_w (vw_and (vt_tru (ve_v 4)) (vw_and (vt_not (vt_tru (ve_isG 3 xf.e_BadMove hz hf f_isinstance xf.n_NoLane xf.k_BadMove_NoLane))) (vw_and1 (vt_not (vt_tru (ve_isG 3 xf.e_BadMove hz hf f_isinstance xf.n_NothingToUndo xf.k_BadMove_NothingToUndo))))))) ve_non ve_int) va_nil))))))⟩)))
theorem sc__law_due : FnScope N__law_due P__law_due (defScope st__law_due) := ⟨rfl, rfl, rfl, by decide +kernel, rfl, by decide +kernel, by decide +kernel⟩
theorem ok__law_due (F : FnD K "_law_due" st__law_due f fd) (f_tuple : mg "tuple" = none) (c__law_held : CallOk P w K mg base B "_law_held" 2 P__law_held f__law_held) : FnP P w K mg base B 3 f fd P__law_due f__law_due := by
  refine def_pure (k := 2) (N := N__law_due) (m := m__law_due) F sc__law_due fun cdv A outer s H E hc hr => ?_
  apply Exists.intro
  exact (vss_cons (vs_if (vt_w (vw_or (vt_cmp (op_eqA (hu 64 hr)) semR_eq (ve_v 2) (ve_v 1) (nomark _)) (vw_or1 (vt_cmp (op_inA (hu 65 hr)) semR_in (ve_v 2) (ve_own_call c__law_held hr (by decide) (by rfl) tk_of (va_cons (ve_v 0) (va_cons (ve_v 1) va_nil))) (by rfl))))) (vss_one (vs_ret ve_non)) vss_nil)
      (vss_one (vs_ret (ve_ct call_tupleF semC_tuple f_tuple vb_tuple (va_cons (ve_frz (vf_lc (own := [("one", 3), ("other", 4)]) rfl sc__law_due.nd (vi_seq (ve_v 0)) (blk_ok (N := N__law_due) (sc := defScope st__law_due) rfl ⟨by decide +kernel, by decide +kernel, by decide +kernel, by decide +kernel⟩) (fun _ _ _ _ _ => (vg_tup rfl (vgs_cons (vg_name 3 sc__law_due.nd) (vgs_cons (vg_name 4 sc__law_due.nd) vgs_nil gN_ok) gN_ok) (len_cons gN_ok (len_cons gN_ok len_nil)))) (gin_tup (gin_cons gin_name (gin_cons gin_name gin_nil gmono_name gmono_nil) gmono_name (gmono_cons gmono_name gmono_nil))) (gmono_tup (gmono_cons gmono_name (gmono_cons gmono_name gmono_nil))) (fun _ _ _ _ _ => vts_nil) (fun _ _ _ _ _ => (ve_c (K := K) (ve_tup (va_cons (ve_v 3) (va_cons (ve_if (vt_cmp (op_eqA (hu 64 hr)) semR_eq (ve_v 3) (ve_v 1) (nomark _)) (ve_v 2) (ve_v 4)) va_nil))))) s)) va_nil)))))
theorem sc__law_moves : FnScope N__law_moves P__law_moves (defScope st__law_moves) := ⟨rfl, rfl, rfl, by decide +kernel, rfl, by decide +kernel, by decide +kernel⟩
theorem ok__law_moves (F : FnD K "_law_moves" st__law_moves f fd) (c__law_due : CallOk P w K mg base B "_law_due" 3 P__law_due f__law_due) (c__law_is : CallOk P w K mg base B "_law_is" 7 P__law_is (f__law_is 6)) (c__law_tried : CallOk P w K mg base B "_law_tried" 3 P__law_tried f__law_tried) : FnP P w K mg base B 8 f fd P__law_moves f__law_moves := by
  refine def_pure (k := 7) (N := N__law_moves) (m := m__law_moves) F sc__law_moves fun cdv A outer s H E hc hr => ?_
  apply Exists.intro
  exact (vss_cons (vs_for PassesOwn.leaving rfl (vi_seq (ve_v 2)) (vg_name 3 sc__law_moves.nd) gN_ok (vss_cons (vs_set 4 sc__law_moves.nd (ve_own_call c__law_due hr (by decide) (by rfl) tk_of (va_cons (ve_v 0) (va_cons (ve_v 1) (va_cons (ve_v 3) va_nil)))))
      (vss_cons (vs_asg (ve_own_call c__law_tried hr (by decide) (by rfl) tk_of (va_cons (ve_v 0) (va_cons (ve_v 1) (va_cons (ve_v 3) va_nil)))) (vg_tup rfl (vgs_cons (vg_name 5 sc__law_moves.nd) (vgs_cons (vg_name 6 sc__law_moves.nd) vgs_nil gN_ok) gN_ok) (len_cons gN_ok (len_cons gN_ok len_nil))) (gTupM_ok (gsCons_ok gN_ok (gsCons_ok gN_ok gsNil_ok))))
      (vss_one (vs_if (vt_w (vw_or (vt_cmp (op_neA (hu 64 hr)) semR_ne (ve_v 5) (ve_cmp op_isN semR_is (ve_v 4) ve_non (nomark _)) (nomark _)) (vw_or1 (vt_not (vt_tru (ve_own_call c__law_is hr (by decide) (by rfl) tk_of (va_cons (ve_v 6) (va_cons (ve_v 4) va_nil)))))))) (vss_one (vs_ret ve_bl)) vss_nil)))))
      (vss_one (vs_ret ve_bl)))
theorem sc_law : FnScope N_law P_law (defScope st_law) := ⟨rfl, rfl, rfl, by decide +kernel, rfl, by decide +kernel, by decide +kernel⟩
theorem ok_law (F : FnD K "law" st_law f fd) (f_int : mg "int" = none) (f_len : mg "len" = none) (f_range : mg "range" = none) (f_tuple : mg "tuple" = none) (c__law_cell : CallOk P w K mg base B "_law_cell" 1 P__law_cell f__law_cell) (c__law_draws : CallOk P w K mg base B "_law_draws" 1 P__law_draws f__law_draws) (c__law_due : CallOk P w K mg base B "_law_due" 3 P__law_due f__law_due) (c__law_held : CallOk P w K mg base B "_law_held" 2 P__law_held f__law_held) (c__law_holders : CallOk P w K mg base B "_law_holders" 1 P__law_holders f__law_holders) (c__law_looks : CallOk P w K mg base B "_law_looks" 8 P__law_looks f__law_looks) (c__law_moves : CallOk P w K mg base B "_law_moves" 8 P__law_moves f__law_moves) (c__law_room : CallOk P w K mg base B "_law_room" 1 P__law_room f__law_room) (c__law_things : CallOk P w K mg base B "_law_things" 2 P__law_things f__law_things) : FnP P w K mg base B 9 f fd P_law f_law := by
  refine def_pure (k := 8) (N := N_law) (m := m_law) F sc_law fun cdv A outer s H E hc hr => ?_
  apply Exists.intro
  exact (vss_cons (vs_set 1 sc_law.nd (ve_own_call c__law_draws hr (by decide) (by rfl) tk_of (va_cons (ve_own_call c__law_cell hr (by decide) (by rfl) tk_of (va_cons (ve_v 0) (va_cons ve_int va_nil))) (va_cons ve_int va_nil))))
      (vss_cons (vs_set 2 sc_law.nd (ve_ix (hu 1 hr) (ve_tup (va_cons ve_int (va_cons ve_int (va_cons ve_int (va_cons ve_int (va_cons ve_int (va_cons ve_int (va_cons ve_int (va_cons ve_int (va_cons ve_int (va_cons ve_int va_nil))))))))))) (ve_mod (ve_ct call_int1 semC_int f_int vb_int (va_cons (ve_ix (hu 1 hr) (ve_v 1) ve_int) va_nil)) ve_int)))
      (vss_cons (vs_set 3 sc_law.nd (ve_own_call c__law_things hr (by decide) (by rfl) tk_of (va_cons (ve_own_call c__law_draws hr (by decide) (by rfl) tk_of (va_cons (ve_own_call c__law_cell hr (by decide) (by rfl) tk_of (va_cons (ve_v 0) (va_cons ve_int va_nil))) (va_cons (ve_mul ve_int (ve_v 2)) va_nil))) (va_cons (ve_v 2) va_nil))))
      (vss_cons (vs_set 4 sc_law.nd (ve_own_call c__law_room hr (by decide) (by rfl) tk_of (va_cons (ve_own_call c__law_draws hr (by decide) (by rfl) tk_of (va_cons (ve_own_call c__law_cell hr (by decide) (by rfl) tk_of (va_cons (ve_v 0) (va_cons ve_int va_nil))) (va_cons (ve_v 2) va_nil))) (va_cons (ve_v 3) va_nil))))
      (vss_cons (vs_if (vt_w (vw_or (vt_not (vt_tru (ve_own_call c__law_looks hr (by decide) (by rfl) tk_of (va_cons (ve_v 4) (va_cons (ve_v 3) va_nil))))) (vw_or1 (vt_not (vt_tru (ve_own_call c__law_looks hr (by decide) (by rfl) tk_of (va_cons (ve_tup va_nil) (va_cons (ve_frz (vf_lst va_nil)) va_nil)))))))) (vss_one (vs_ret ve_bl)) vss_nil)
      (vss_cons (vs_set 5 sc_law.nd (ve_v 4))
      (vss_cons (vs_for PassesOwn.leaving rfl (vi_range1 (by rfl) f_range (va_cons ve_int va_nil)) (vg_name 6 sc_law.nd) gN_ok (vss_cons (vs_set 7 sc_law.nd (ve_ix (hu 1 hr) (ve_v 3) (ve_mod (ve_ct call_int1 semC_int f_int vb_int (va_cons (ve_ix (hu 1 hr) (ve_v 1) (ve_add ve_int (ve_mul ve_int (ve_v 6)))) va_nil)) (ve_v 2))))
      (vss_cons (vs_set 8 sc_law.nd (ve_ix (hu 1 hr) (ve_v 3) (ve_mod (ve_ct call_int1 semC_int f_int vb_int (va_cons (ve_ix (hu 1 hr) (ve_v 1) (ve_add ve_int (ve_mul ve_int (ve_v 6)))) va_nil)) (ve_v 2))))
      (vss_cons (vs_set 9 sc_law.nd (ve_own_call c__law_held hr (by decide) (by rfl) tk_of (va_cons (ve_v 4) (va_cons (ve_v 7) va_nil))))
      (vss_cons (vs_set 10 sc_law.nd (ve_add (ve_add (ve_add (ve_tup (va_cons (ve_v 8) (va_cons (ve_str (l := [])) (va_cons (ve_v 7) va_nil)))) (ve_cut (ve_v 9) vo_none (vo_some ve_int))) (ve_cut (ve_v 9) (vo_some (ve_sub (ve_cb call_lenA semC_len f_len vb_len (va_cons (ve_v 9) va_nil)) ve_int)) vo_none)) (ve_cut (ve_own_call c__law_holders hr (by decide) (by rfl) tk_of (va_cons (ve_v 4) (va_cons (ve_v 7) va_nil))) vo_none (vo_some ve_int))))
      (vss_cons (vs_if (vt_not (vt_tru (ve_own_call c__law_moves hr (by decide) (by rfl) tk_of (va_cons (ve_v 4) (va_cons (ve_v 7) (va_cons (ve_v 10) va_nil)))))) (vss_one (vs_ret ve_bl)) vss_nil)
      (vss_cons (vs_set 11 sc_law.nd (ve_own_call c__law_due hr (by decide) (by rfl) tk_of (va_cons (ve_v 4) (va_cons (ve_v 7) (va_cons (ve_v 8) va_nil)))))
      (vss_cons (vs_if (vt_cmp op_notN semR_isn (ve_v 11) ve_non (nomark _)) (vss_one (vs_set 4 sc_law.nd (ve_v 11))) vss_nil)
      (vss_one (vs_if (vt_not (vt_tru (ve_own_call c__law_looks hr (by decide) (by rfl) tk_of (va_cons (ve_v 4) (va_cons (ve_frz (vf_lst (va_cons (ve_v 7) (va_cons (ve_v 8) va_nil)))) va_nil))))) (vss_one (vs_ret ve_bl)) vss_nil))))))))))
      (vss_one (vs_ret (ve_and (ve_own_call c__law_looks hr (by decide) (by rfl) tk_of (va_cons (ve_v 5) (va_cons (ve_cut (ve_v 3) vo_none (vo_some ve_int)) va_nil))) (ve_and (ve_own_call c__law_moves hr (by decide) (by rfl) tk_of (va_cons (ve_v 5) (va_cons (ve_ix (hu 1 hr) (ve_v 3) ve_int) (va_cons (ve_ct call_tupleF semC_tuple f_tuple vb_tuple (va_cons (ve_cut (ve_v 3) vo_none (vo_some ve_int)) va_nil)) va_nil)))) (ve_one (ve_own_call c__law_looks hr (by decide) (by rfl) tk_of (va_cons (ve_v 4) (va_cons (ve_v 3) va_nil)))))))))))))))
end
end K77
/-! running the mirrors by simp; loops; data of ints -/
namespace VL
open PySem L2

section
variable {s : S} {r : List (Option D)} {m : List Ob} {d x y : D} {f : D → D → S → R (D × S)} {a b c e : ME} {A : MA} {t u : MT} {g : MG} {p q : MS} {i j : Nat}
@[simp] theorem x_eV : eV i s = (match s.r[i]? with | some (some d) => .ok (d, s) | _ => .no) := id rfl
@[simp] theorem x_eC : eC d s = .ok (d, s) := id rfl
@[simp] theorem x_eOp : eOp f a b s = (a s).bind fun x s => (b s).bind fun y s => f x y s := id rfl
@[simp] theorem x_aNil : aNil s = .ok ([], s) := id rfl
@[simp] theorem x_aCons : aCons a A s = (a s).bind fun x s => (A s).bind fun l s => .ok (x :: l, s) := id rfl
@[simp] theorem x_eCB {F : List D → S → R (D × S)} : eCB F A s = (A s).bind fun l s => F l s := id rfl
@[simp] theorem x_fCB {F : List D → S → R (Ob × S)} : fCB F A s = (A s).bind fun l s => F l s := id rfl
@[simp] theorem x_eCall {F : List D → PR} : eCall F A s = (A s).bind fun ds s => if noLocs ds = true then (match F ds with | .ok d => .ok (d, s) | .ex e => .ex e s | .no => .no) else .no := id rfl
@[simp] theorem x_eTup : eTup A s = (A s).bind fun l s => if l.length ≤ SZ then .ok (.tup l, s) else .no := id rfl
@[simp] theorem x_fLst : fLst A s = (A s).bind fun l s => if l.length ≤ SZ then .ok (.lst l, s) else .no := id rfl
@[simp] theorem x_eFrz {F : MF} : eFrz F s = (F s).bind fun o s => (match o with | .lst l => .ok (.lst l, s) | .dct l => .ok (.dct (l.map (·.1)) (l.map (·.2)), s) | _ => .no) := id rfl
@[simp] theorem x_eOwn {F : MF} : eOwn F s = (F s).bind fun o s => .ok (.loc s.m.length, { s with m := s.m ++ [o] }) := id rfl
@[simp] theorem x_eIf : eIf t a b s = (t s).bind fun x s => if x = true then a s else b s := id rfl
@[simp] theorem x_eAndV : eAndV a b s = (a s).bind fun x s => (match x with | .bl true => b s | .bl false => .ok (.bl false, s) | _ => .no) := id rfl
@[simp] theorem x_eOrV : eOrV a b s = (a s).bind fun x s => (match x with | .bl true => .ok (.bl true, s) | .bl false => b s | _ => .no) := id rfl
@[simp] theorem x_eNotV : eNotV a s = (a s).bind fun x s => (match x with | .bl b => .ok (.bl (!b), s) | _ => .no) := id rfl
@[simp] theorem x_tBl : tBl a s = (a s).bind fun d s => (match d with | .bl b => .ok (b, s) | _ => .no) := id rfl
@[simp] theorem x_tTruN : tTruN a s = (a s).bind fun d s => (match d with | .dct _ _ => .no | d => match truD s d with | some b => .ok (b, s) | none => .no) := id rfl
@[simp] theorem x_tAndM : tAndM t u s = (t s).bind fun x s => if x = true then u s else .ok (false, s) := id rfl
@[simp] theorem x_tOrM : tOrM t u s = (t s).bind fun x s => if x = true then .ok (true, s) else u s := id rfl
@[simp] theorem x_tNotM : tNotM t s = (t s).bind fun x s => .ok (!x, s) := id rfl
@[simp] theorem x_tYesM : tYesM s = .ok (true, s) := id rfl
@[simp] theorem x_eChain {F G : D → D → S → R (D × S)} : eChain F G a b c s = (a s).bind fun x s => (b s).bind fun y s => (F x y s).bind fun z s => (match z with | .bl true => (c s).bind fun w s => G y w s | .bl false => .ok (.bl false, s) | _ => .no) := id rfl
@[simp] theorem x_eCut {lo hi : S → R (Option Int × S)} : eCut a lo hi s = (a s).bind fun x s => (lo s).bind fun i s => (hi s).bind fun j s => fCut x i j s := id rfl
@[simp] theorem x_oNone : oNone s = .ok (none, s) := id rfl
@[simp] theorem x_oSome : oSome a s = (a s).bind fun d s => (match d with | .int i => .ok (some i, s) | _ => .no) := id rfl
@[simp] theorem x_sSeq : sSeq p q s = (p s).seq q := id rfl
@[simp] theorem x_sNil : sNil s = .nx s := id rfl
@[simp] theorem x_sRet : sRet a s = (a s).to fun d s => .rt d s := id rfl
@[simp] theorem x_sRetN : sRetN s = .rt .non s := id rfl
@[simp] theorem x_sBk : sBk s = .bk s := id rfl
@[simp] theorem x_sCt : sCt s = .ct s := id rfl
@[simp] theorem x_sDrop : sDrop a s = (a s).to fun _ s => .nx s := id rfl
@[simp] theorem x_sIf : sIf t p q s = (t s).to fun x s => if x = true then p s else q s := id rfl
@[simp] theorem x_gN : gN i d s = .nx { s with r := s.r.set i (some d) } := id rfl
@[simp] theorem x_sAsg : sAsg a g s = (a s).to fun d s => g d s := id rfl
@[simp] theorem x_gTupM {G : List D → S → C} {l : List D} : gTupM G (.tup l) s = G l s := id rfl
@[simp] theorem x_gsNil : gsNil [] s = .nx s := id rfl
@[simp] theorem x_gsCons {G : List D → S → C} {l : List D} : gsCons g G (d :: l) s = (g d s).seq fun s => G l s := id rfl
@[simp] theorem x_sFor {it : MA} : sFor it g p s = (it s).to fun l s => forL g p l s := id rfl
@[simp] theorem x_sForD {w : List Key → List D → List D} : sForD w i g p s = (eTake i s).to fun d s => (match d with | .dct ks l => forL g p (w ks l) s | _ => .no) := id rfl
@[simp] theorem x_iSeqM : iSeqM a s = (a s).bind fun d s => (match itD d with | some l => .ok (l, s) | none => .no) := id rfl
@[simp] theorem x_iRg1M : iRg1M A s = (A s).bind fun l s => (match l with | [.int j] => if okR j then .ok (rng 0 j.toNat, s) else .no | _ => .no) := id rfl
@[simp] theorem x_iRg2M : iRg2M A s = (A s).bind fun l s => (match l with | [.int i, .int j] => if okR i && okR j then .ok (rng i (j - i).toNat, s) else .no | _ => .no) := id rfl
@[simp] theorem x_iZipM : iZipM A s = (A s).bind fun l s => (match l with
  | [x, y] => match x, y with
    | .tup l, .tup m => if l.any isPr && m.any isPr then .no else .ok (pairs l m, s)
    | .lst l, .lst m => if l.any isPr && m.any isPr then .no else .ok (pairs l m, s)
    | _, _ => .no
  | _ => .no) := id rfl
@[simp] theorem x_fLc {it : MA} {vs : List Nat} : fLc it g t e vs s = (it s).bind fun l s => (lcL g t e vs s.r l [] s).bind fun acc s => .ok (.lst acc, s) := id rfl
@[simp] theorem x_eGet2 : eGet2 a b c s = (a s).bind fun d s => if isDct s d = true then (b s).bind fun k s => (c s).bind fun x s => fGet2 d k x s else .no := id rfl
@[simp] theorem x_gSet : gSet a b d s = (match a s with | .ok (o, s) => (match b s with | .ok (i, s) => fSet o i d s | _ => .no) | _ => .no) := id rfl
@[simp] theorem x_eLM {F : List D → List D → Option (D × List D)} : eLM F a A s = (a s).bind fun d s => (match d with
  | .loc n => match s.m[n]? with
    | some (.lst _) => (A s).bind fun as s => match s.m[n]? with
      | some (.lst l) => match F l as with
        | some (y, l') => .ok (y, { s with m := s.m.set n (.lst l') })
        | none => .no
      | _ => .no
    | _ => .no
  | _ => .no) := id rfl
@[simp] theorem x_eTake : eTake i s = (match s.r[i]? with
  | some (some (.loc n)) => match s.m[n]? with
    | some (.lst l) => .ok (.lst l, { r := s.r.set i (some (.lst l)), m := s.m.set n .dead })
    | some (.dct l) => .ok (.dct (l.map (·.1)) (l.map (·.2)), { r := s.r.set i (some (.dct (l.map (·.1)) (l.map (·.2)))), m := s.m.set n .dead })
    | _ => .no
  | some (some d) => .ok (d, s)
  | _ => .no) := id rfl
@[simp] theorem x_fP {G : D → D → Option D} : fP G x y s = (match G x y with | some d => .ok (d, s) | none => .no) := id rfl
@[simp] theorem x_gI {C : Int → Int → Bool} {G : Int → Int → D} {i j : Int} : gI C G (.int i) (.int j) = if C i j then some (G i j) else none := id rfl
@[simp] theorem x_gCmp {P : Int → Int → Bool} {Q : List Nat → List Nat → Bool} {i j : Int} : gCmp P Q (.int i) (.int j) = some (.bl (P i j)) := id rfl
@[simp] theorem x_fAddI {i j : Int} : fAdd (.int i) (.int j) s = .ok (.int (i + j), s) := id rfl
@[simp] theorem x_fAddT {l k : List D} : fAdd (.tup l) (.tup k) s = if l.length + k.length ≤ SZ then .ok (.tup (l ++ k), s) else .no := id rfl
@[simp] theorem x_fAddL {l k : List D} : fAdd (.lst l) (.lst k) s = if l.length + k.length ≤ SZ then .ok (.lst (l ++ k), s) else .no := id rfl
@[simp] theorem x_c1 {G : S → D → Option D} : c1 G [d] s = (match G s d with | some z => .ok (z, s) | none => .no) := id rfl
@[simp] theorem x_cLen : cLen [d] s = (match lenD s d with | some n => .ok (.int n, s) | none => .no) := id rfl
@[simp] theorem x_lenT {l : List D} : lenD s (.tup l) = some l.length := id rfl
@[simp] theorem x_lenL {l : List D} : lenD s (.lst l) = some l.length := id rfl
@[simp] theorem x_lenS {l : List Int} : lenD s (.scr l) = some l.length := by show some (l.map D.int).length = _; simp
@[simp] theorem x_seqT {l : List D} : seqOf s (.tup l) = some l := id rfl
@[simp] theorem x_seqL {l : List D} : seqOf s (.lst l) = some l := id rfl
@[simp] theorem x_seqS {l : List Int} : seqOf s (.scr l) = some (l.map D.int) := id rfl
@[simp] theorem x_lstL {l : List D} : lstOf s (.lst l) = some l := id rfl
@[simp] theorem x_itL {l : List D} : itD (.lst l) = some l := id rfl
@[simp] theorem x_itT {l : List D} : itD (.tup l) = some l := id rfl
@[simp] theorem x_gAbs {i : Int} : gAbs s (.int i) = some (.int (if i < 0 then -i else i)) := id rfl
@[simp] theorem x_gInt {i : Int} : gInt s (.int i) = some (.int i) := id rfl
@[simp] theorem x_gTupleT {l : List D} : gTuple s (.tup l) = some (.tup l) := id rfl
@[simp] theorem x_gTupleL {l : List D} : gTuple s (.lst l) = some (.tup l) := id rfl
@[simp] theorem x_gListT {l : List D} : gList [.tup l] s = .ok (.lst l, s) := id rfl
@[simp] theorem x_gListL {l : List D} : gList [.lst l] s = .ok (.lst l, s) := id rfl
@[simp] theorem x_truB {b : Bool} : truD s (.bl b) = some b := id rfl
@[simp] theorem x_truI {i : Int} : truD s (.int i) = some (i != 0) := id rfl
@[simp] theorem x_fIs : fIs x .non s = .ok (.bl (isNon x), s) := id rfl
@[simp] theorem x_fIsn : fIsn x .non s = .ok (.bl (!isNon x), s) := id rfl
@[simp] theorem x_lmApp {l : List D} : lmApp l [y] = if l.length < SZ then some (.non, l ++ [y]) else none := id rfl
@[simp] theorem x_noLocs0 : noLocs [] = true := id rfl
@[simp] theorem x_noLocs {l : List D} : noLocs (d :: l) = (noLoc d && noLocs l) := id rfl
@[simp] theorem x_noLocI {i : Int} : noLoc (.int i) = true := id rfl
@[simp] theorem x_noLocB {b : Bool} : noLoc (.bl b) = true := id rfl
@[simp] theorem x_noLocN : noLoc .non = true := id rfl
@[simp] theorem x_noLocX {z : List Nat} : noLoc (.str z) = true := id rfl
@[simp] theorem x_noLocS {l : List Int} : noLoc (.scr l) = true := id rfl
@[simp] theorem x_noLocT {l : List D} : noLoc (.tup l) = noLocs l := id rfl
@[simp] theorem x_noLocL {l : List D} : noLoc (.lst l) = noLocs l := id rfl
@[simp] theorem x_okR {i : Int} : okR i = decide (-(2 ^ 62) ≤ i ∧ i < 2 ^ 62) := id rfl
theorem x_mulOk {i j : Int} : mulOk i j = (decide (-18446744073709551616 < i ∧ i < 18446744073709551616) || decide (-18446744073709551616 < j ∧ j < 18446744073709551616)) := rfl
@[simp] theorem mulOk_r {i j : Int} (h1 : -18446744073709551616 < j) (h2 : j < 18446744073709551616) : mulOk i j = true := by
  simp only [x_mulOk, Bool.or_eq_true, decide_eq_true_eq]; exact .inr ⟨h1, h2⟩
@[simp] theorem mulOk_l {i j : Int} (h1 : -18446744073709551616 < i) (h2 : i < 18446744073709551616) : mulOk i j = true := by
  simp only [x_mulOk, Bool.or_eq_true, decide_eq_true_eq]; exact .inl ⟨h1, h2⟩
@[simp] theorem x_isNonN : isNon .non = true := id rfl
@[simp] theorem x_isNonT {l : List D} : isNon (.tup l) = false := id rfl
@[simp] theorem x_isNonI {i : Int} : isNon (.int i) = false := id rfl
end
@[simp] theorem x_startD {n : Nat} {ds : List D} : startD n ds = ds.map some ++ List.replicate (n - ds.length) none := id rfl
@[simp] theorem x_pureOf {n np : Nat} {m : MS} {ds : List D} : pureOf n np m ds = if ds.length = np then (match m ⟨startD n ds, []⟩ with
    | .rt d _ => if noLoc d = true then .ok d else .no
    | .nx _ => .ok .non
    | .ex e _ => if noLocs (e.fs.map (·.2)) = true then .ex e else .no
    | _ => .no)
  else .no := id rfl
theorem pure_rt {n np : Nat} {m : MS} {ds : List D} {d : D} (h : ds.length = np) (hm : ∃ s, m ⟨startD n ds, []⟩ = .rt d s) (hn : noLoc d = true) : pureOf n np m ds = .ok d := by
  obtain ⟨s, hm⟩ := hm
  rw [x_pureOf, if_pos h, hm]
  exact if_pos hn
theorem pure_nx {n np : Nat} {m : MS} {ds : List D} (h : ds.length = np) (hm : ∃ s, m ⟨startD n ds, []⟩ = .nx s) : pureOf n np m ds = .ok .non := by
  obtain ⟨s, hm⟩ := hm
  rw [x_pureOf, if_pos h, hm]
@[simp] theorem x_fDctN {s : S} : fDctN s = .ok (.dct [], s) := id rfl
@[simp] theorem x_fDct1 {k v : ME} {s : S} : fDct1 k v s = (k s).bind fun x s => (v s).bind fun y s => (match keyOf x with | some k => .ok (.dct [(k, y)], s) | none => .no) := id rfl
@[simp] theorem x_keyI {i : Int} : keyOf (.int i) = some (.inl i) := id rfl
@[simp] theorem x_fGet2 {s : S} {d k x : D} : fGet2 d k x s = (match dctOf s d, keyOf k with | some l, some k => .ok ((valD l k).getD x, s) | _, _ => .no) := id rfl
@[simp] theorem x_isDct {s : S} {d : D} : isDct s d = (dctOf s d).isSome := id rfl
theorem SZv : SZ = 16777216 := rfl

/-! ### data of ints -/
def iL (l : List Int) : List D := l.map D.int
@[simp] theorem iL_nil : iL [] = [] := rfl
@[simp] theorem iL_cons (a : Int) (l : List Int) : iL (a :: l) = .int a :: iL l := rfl
theorem iL_app (l k : List Int) : iL (l ++ k) = iL l ++ iL k := List.map_append
@[simp] theorem iL_snoc (l : List Int) (a : Int) : iL l ++ [.int a] = iL (l ++ [a]) := by rw [iL_app]; rfl
@[simp] theorem iL_iL (l k : List Int) : iL l ++ iL k = iL (l ++ k) := (iL_app l k).symm
@[simp] theorem iL_len (l : List Int) : (iL l).length = l.length := by simp [iL]
@[simp] theorem any_isPr_iL (l : List Int) : (iL l).any isPr = false := by
  simp only [iL, List.any_map]
  exact List.any_eq_false.mpr fun x _ => by simp [isPr]
theorem iL_get {l : List Int} {k : Nat} (h : k < (iL l).length) : (iL l)[k] = .int (l[k]'(by simpa using h)) := by simp [iL]
theorem iL_take (l : List Int) (k : Nat) : (iL l).take k = iL (l.take k) := by simp [iL, List.map_take]
theorem iL_drop (l : List Int) (k : Nat) : (iL l).drop k = iL (l.drop k) := by simp [iL, List.map_drop]
theorem iL_inj : ∀ {l k : List Int}, iL l = iL k → l = k
  | [], [], _ => rfl
  | [], _ :: _, h => by cases h
  | _ :: _, [], h => by cases h
  | a :: l, b :: k, h => by
    simp only [iL_cons, List.cons.injEq, D.int.injEq] at h
    rw [h.1, iL_inj h.2]
@[simp] theorem noLocs_iL (l : List Int) : noLocs (iL l) = true := by induction l with | nil => rfl | cons a l ih => simpa using ih
theorem noLocs_all {l : List D} (h : ∀ d ∈ l, noLoc d = true) : noLocs l = true := by
  induction l with
  | nil => rfl
  | cons a l ih =>
    rw [x_noLocs, h a (by simp), ih fun d hd => h d (by simp [hd])]; rfl
theorem noLocs_app (l k : List D) : noLocs (l ++ k) = (noLocs l && noLocs k) := by
  induction l with
  | nil => rfl
  | cons a l ih => simp [ih, Bool.and_assoc]
@[simp] theorem intsD_iL (l : List Int) : intsD (iL l) = some l := by
  induction l with
  | nil => rfl
  | cons a l ih => simp [intsD, ih]
@[simp] theorem gSum_iL {s : S} (l : List Int) : gSum s (.lst (iL l)) = some (.int l.sum) := by simp [gSum]
@[simp] theorem okDs_iL (n : Nat) (l : List Int) : okDs n (iL l) = true := by
  induction l with
  | nil => simp [okDs]
  | cons a l ih => simp only [iL_cons, okDs, okD, Bool.true_and]; exact ih
@[simp] theorem eqDs_iL : ∀ (l k : List Int), eqDs (iL l) (iL k) = decide (l = k)
  | [], [] => rfl
  | [], _ :: _ => rfl
  | _ :: _, [] => rfl
  | a :: l, b :: k => by
    have ih := eqDs_iL l k
    simp only [iL_cons, eqDs, eqD, ih]
    by_cases h : a = b <;> simp [h]
@[simp] theorem fEqI {s : S} {i j : Int} : fEq (.int i) (.int j) s = .ok (.bl (decide (i = j)), s) := rfl
@[simp] theorem fNeI {s : S} {i j : Int} : fNe (.int i) (.int j) s = .ok (.bl (!decide (i = j)), s) := rfl
@[simp] theorem fNeB {s : S} {i j : Bool} : fNe (.bl i) (.bl j) s = .ok (.bl (!(i == j)), s) := rfl
@[simp] theorem fEqB {s : S} {i j : Bool} : fEq (.bl i) (.bl j) s = .ok (.bl (i == j), s) := rfl
@[simp] theorem fEqT {s : S} {l k : List Int} : fEq (.tup (iL l)) (.tup (iL k)) s = .ok (.bl (decide (l = k)), s) := by simp [fEq, qEq, peek, okD, eqD]
@[simp] theorem fNeT {s : S} {l k : List Int} : fNe (.tup (iL l)) (.tup (iL k)) s = .ok (.bl (!decide (l = k)), s) := by simp [fNe, qEq, peek, okD, eqD]
@[simp] theorem fEqL {s : S} {l k : List Int} : fEq (.lst (iL l)) (.lst (iL k)) s = .ok (.bl (decide (l = k)), s) := by simp [fEq, qEq, peek, okD, eqD]
@[simp] theorem fNeL {s : S} {l k : List Int} : fNe (.lst (iL l)) (.lst (iL k)) s = .ok (.bl (!decide (l = k)), s) := by simp [fNe, qEq, peek, okD, eqD]
@[simp] theorem x_fMul {s : S} {i j : Int} : fMul (.int i) (.int j) s = if mulOk i j then .ok (.int (i * j), s) else .no := by
  simp only [fMul, x_fP, x_gI]
  split <;> simp_all
theorem rng_iL (lo : Int) (n : Nat) : rng lo n = iL ((List.range n).map fun i => lo + (i : Nat)) := by simp [rng, iL, Function.comp_def]
theorem scr_iL (l : List Int) : l.map D.int = iL l := rfl
theorem ixN_nat {n k : Nat} (h : k < n) : ixN n (k : Int) = some k := by
  unfold ixN
  rw [if_pos (by omega), if_pos (by omega)]
  simp
theorem atI_nat {α : Type} {l : List α} {k : Nat} (h : k < l.length) : L2.atI l (k : Int) = some l[k] := by
  unfold L2.atI
  rw [ixN_nat h]
  simp [h]
theorem fIx_seq {s : S} {x : D} {l : List D} {k : Nat} (hx : seqOf s x = some l) (h : k < l.length) : fIx x (.int (k : Int)) s = .ok (l[k], s) := by
  have hs : ∀ z, x ≠ .str z := fun z e => by rw [e] at hx; cases hx
  unfold fIx
  split
  · exact absurd rfl (hs _)
  · rw [hx]
    dsimp only
    rw [atI_nat h]
theorem fIxT {s : S} {l : List D} {k : Nat} (h : k < l.length) : fIx (.tup l) (.int (k : Int)) s = .ok (l[k], s) := fIx_seq rfl h
theorem fIxL {s : S} {l : List D} {k : Nat} (h : k < l.length) : fIx (.lst l) (.int (k : Int)) s = .ok (l[k], s) := fIx_seq rfl h
theorem cut_take {α : Type} (l : List α) (k : Nat) : cut l none (some (k : Int)) = l.take k := by
  unfold cut
  rw [HT.sIx_none, HT.sIx_nat]
  simp [List.take_eq_take_iff]
theorem cut_drop {α : Type} (l : List α) (k : Nat) : cut l (some (k : Int)) none = l.drop k := by
  unfold cut
  rw [HT.sIx_none, HT.sIx_nat]
  by_cases h : k ≤ l.length
  · rw [Nat.min_eq_left h]
    apply List.take_of_length_le
    simp
  · rw [List.drop_of_length_le (by omega), List.drop_of_length_le (by omega)]; simp

@[simp] theorem x_eQ {s : S} {f : List Bool → Bool} {pb : S → D → Option Bool} {it : ME} : eQ f pb it s = (it s).bind fun d s => (match seqOf s d with
  | some l => match testL pb s l with
    | some bs => .ok (.bl (f bs), s)
    | none => .no
  | none => .no) := id rfl
@[simp] theorem testL_range {s : S} {i j : Int} : ∀ l : List Int, testL (pbRange i j) s (iL l) = some (l.map fun z => decide (i ≤ z) && decide (z < j))
  | [] => rfl
  | a :: l => by simp only [iL_cons, testL, pbRange, testL_range l]; rfl
@[simp] theorem x_eIsi {s : S} {T : String} {a : ME} : eIsi T a s = (a s).bind fun d s => (match tyD d with
  | some t => match kitB t T with
    | some b => .ok (.bl b, s)
    | none => .no
  | none => .no) := id rfl
@[simp] theorem x_tyI {i : Int} : tyD (.int i) = some "int" := id rfl
@[simp] theorem x_tyB {i : Bool} : tyD (.bl i) = some "bool" := id rfl
@[simp] theorem x_tyT {i : List D} : tyD (.tup i) = some "tuple" := id rfl
@[simp] theorem x_tyL {i : List D} : tyD (.lst i) = some "list" := id rfl
@[simp] theorem x_tyS {i : List Nat} : tyD (.str i) = some "str" := id rfl
@[simp] theorem x_tyN : tyD .non = some "NoneType" := id rfl
@[simp] theorem kit_ii : kitB "int" "int" = some true := by decide +kernel
@[simp] theorem kit_ib : kitB "int" "bool" = some false := by decide +kernel
@[simp] theorem kit_bb : kitB "bool" "bool" = some true := by decide +kernel
@[simp] theorem kit_bi : kitB "bool" "int" = some true := by decide +kernel
@[simp] theorem kit_tt : kitB "tuple" "tuple" = some true := by decide +kernel
@[simp] theorem kit_ti : kitB "tuple" "int" = some false := by decide +kernel
@[simp] theorem kit_tb : kitB "tuple" "bool" = some false := by decide +kernel
@[simp] theorem kit_ts : kitB "tuple" "str" = some false := by decide +kernel
@[simp] theorem kit_ss : kitB "str" "str" = some true := by decide +kernel
@[simp] theorem kit_si : kitB "str" "int" = some false := by decide +kernel
@[simp] theorem kit_sb : kitB "str" "bool" = some false := by decide +kernel
@[simp] theorem kit_st : kitB "str" "tuple" = some false := by decide +kernel
@[simp] theorem kit_is : kitB "int" "str" = some false := by decide +kernel
@[simp] theorem kit_it : kitB "int" "tuple" = some false := by decide +kernel
@[simp] theorem kit_bs : kitB "bool" "str" = some false := by decide +kernel
@[simp] theorem kit_bt : kitB "bool" "tuple" = some false := by decide +kernel
@[simp] theorem kit_nt : kitB "NoneType" "tuple" = some false := by decide +kernel
@[simp] theorem kit_ni : kitB "NoneType" "int" = some false := by decide +kernel
@[simp] theorem kit_ns : kitB "NoneType" "str" = some false := by decide +kernel
@[simp] theorem kit_nb : kitB "NoneType" "bool" = some false := by decide +kernel
@[simp] theorem x_gAllL {s : S} {f : List Bool → Bool} {l : List D} : gAllL f s (.lst l) = (match blsD l with | some bs => some (.bl (f bs)) | none => none) := id rfl
theorem blsD_map : ∀ (bs : List Bool), blsD (bs.map D.bl) = some bs
  | [] => rfl
  | b :: bs => by simp [blsD, blsD_map bs]

/-! ### loops -/
theorem forL_cons {g : MG} {b : MS} {d : D} {l : List D} {s : S} : forL g b (d :: l) s = (g d s).seq fun s => (b s).loop fun s => forL g b l s := id rfl
theorem forL_nil {g : MG} {b : MS} {s : S} : forL g b [] s = .nx s := id rfl
theorem forL_inv {g : MG} {b : MS} (I : Nat → S → Prop) : ∀ (l : List D) (n : Nat) (s : S), I n s → (∀ i d s, l[i]? = some d → I (n + i) s → ∃ s1, g d s = .nx s1 ∧ ∃ s', (b s1 = .nx s' ∨ b s1 = .ct s') ∧ I (n + i + 1) s') → ∃ s', forL g b l s = .nx s' ∧ I (n + l.length) s'
  | [], n, s, h, _ => ⟨s, rfl, h⟩
  | d :: l, n, s, h, st => by
    obtain ⟨s1, e1, s', e, h'⟩ := st 0 d s rfl h
    obtain ⟨s2, e2, h2⟩ := forL_inv I l (n + 1) s' h' fun i d s hd hi => by
      have := st (i + 1) d s (by simpa using hd) (by rw [show n + (i + 1) = n + 1 + i by omega]; exact hi)
      rw [show n + (i + 1) + 1 = n + 1 + i + 1 by omega] at this
      exact this
    refine ⟨s2, ?_, by rw [List.length_cons, show n + (l.length + 1) = n + 1 + l.length by omega]; exact h2⟩
    rw [← e2]
    simp only [forL, e1, C.seq_nx]
    rcases e with e | e <;> rw [e] <;> rfl
theorem lcL_pure {g : MG} {t : MT} {e : ME} {vs : List Nat} {r0 : List (Option D)} {m : List Ob} (p : D → Bool) (F : D → D) : ∀ (l acc : List D), acc.length + l.length ≤ SZ →
    (∀ d ∈ l, ∃ s1, g d ⟨wipeD r0 vs, m⟩ = .nx s1 ∧ ∃ s2, t s1 = .ok (p d, s2) ∧ (p d = true → ∃ r3, e s2 = .ok (F d, ⟨r3, m⟩)) ∧ s2.m = m) → lcL g t e vs r0 l acc ⟨r0, m⟩ = .ok (acc ++ (l.filter p).map F, ⟨r0, m⟩)
  | [], acc, _, _ => by simp [lcL]
  | d :: l, acc, hz, h => by
    obtain ⟨s1, h1, s2, h2, h3, h4⟩ := h d (by simp)
    have hz' : acc.length + (l.length + 1) ≤ SZ := by simpa using hz
    simp only [lcL, h1, h2]
    cases hp : p d with
    | true =>
      obtain ⟨r3, h5⟩ := h3 hp
      simp only [if_true, h5]
      rw [if_pos (by omega), lcL_pure p F l (acc ++ [F d]) (by simp; omega) fun d' hd' => h d' (by simp [hd'])]
      simp [hp]
    | false =>
      obtain ⟨r2, m2⟩ := s2
      have h4 : m2 = m := h4
      subst h4
      simp only [Bool.false_eq_true, if_false]
      rw [lcL_pure p F l acc (by omega) fun d' hd' => h d' (by simp [hd'])]
      simp [hp]
end VL
/-! the laws' common helpers: cells, draws -/
namespace VL
open PySem L2
def bDraws : MS :=
  (sIf (tAndM (tTruN (eV 3)) (tBl (eOp fGt (eV 2) (eC (.int 0))))) (sSeq (sDrop (eLM lmApp (eV 5) (aCons (eOp fMod (eCB (c1 gInt) (aCons (eV 2) aNil)) (eC (.int 5040))) aNil)))
  (sAsg (eOp fDiv (eV 2) (eC (.int 5040))) (gN 2))) (sSeq (sAsg (eOp fMod (eCB (c1 gInt) (aCons (eOp fAdd (eOp fAdd (eOp fMul (eV 4) (eC (.int 48271))) (eOp fMul (eOp fAdd (eV 6) (eC (.int 1))) (eC (.int 69621)))) (eC (.int 11))) aNil)) (eC (.int 2147483647))) (gN 7))
  (sSeq (sAsg (eOp fMod (eCB (c1 gInt) (aCons (eOp fAdd (eOp fMul (eV 7) (eV 7)) (eOp fMul (eC (.int 40692)) (eOp fAdd (eV 6) (eC (.int 3))))) aNil)) (eC (.int 2147483399))) (gN 7))
  (sDrop (eLM lmApp (eV 5) (aCons (eOp fMod (eCB (c1 gInt) (aCons (eOp fDiv (eV 7) (eC (.int 64))) aNil)) (eC (.int 5040))) aNil))))))
def mDraws : MS :=
  (sSeq (sAsg (eCB (c1 gAbs) (aCons (eCB (c1 gInt) (aCons (eV 0) aNil)) aNil)) (gN 2))
  (sSeq (sAsg (eOp fGe (eV 2) (eOp fPow (eC (.int 10)) (eC (.int 18)))) (gN 3))
  (sSeq (sAsg (eV 2) (gN 4))
  (sSeq (sAsg (eOwn (fLst aNil)) (gN 5))
  (sSeq (sFor (iRg1M (aCons (eV 1) aNil)) (gN 6) bDraws)
  (sRet (eTake 5)))))))
def mCell : MS :=
  (sSeq (sIf (tBl (eOp fLt (eV 1) (eCB cLen (aCons (eV 0) aNil)))) (sRet (eOp fIx (eV 0) (eV 1))) sNil)
  (sRet (eOp fAdd (eOp fMul (eC (.int 5)) (eV 1)) (eC (.int 3)))))

theorem cell_ok (ns : List Int) (k : Nat) (hl : ns.length ≤ 63) (hk : k ≤ 1000) : ∃ c : Int, pureOf 2 2 mCell [.scr ns, .int k] = .ok (.int c) := by
  by_cases h : k < ns.length
  · have e : fIx (.scr ns) (.int (k : Int)) ⟨[some (.scr ns), some (.int k)], []⟩ = .ok (.int ns[k], ⟨[some (.scr ns), some (.int k)], []⟩) := by
      have := fIx_seq (s := ⟨[some (.scr ns), some (.int k)], []⟩) (x := .scr ns) (l := ns.map D.int) rfl (k := k) (by simpa using h)
      rw [this]; simp
    refine ⟨ns[k], ?_⟩
    have h' : ((k : Int) < (ns.length : Int)) := by omega
    simp [mCell, h', e]
  · have h' : ¬ ((k : Int) < (ns.length : Int)) := by omega
    have hm : mulOk 5 (k : Int) = true := by simp only [x_mulOk, Bool.or_eq_true, decide_eq_true_eq]; left; omega
    refine ⟨5 * (k : Int) + 3, ?_⟩
    simp [mCell, h', hm]
def DrawsI (c n : Int) (dg : Bool) (sd : Int) (i : Nat) (s : S) : Prop := ∃ (rest : Int) (ds : List Int) (k mx : Option D), s = ⟨[some (.int c), some (.int n), some (.int rest), some (.bl dg), some (.int sd), some (.loc 0), k, mx], [.lst (iL ds)]⟩ ∧ ds.length = i ∧ ∀ x ∈ ds, 0 ≤ x ∧ x < 5040
abbrev dS (c n rest : Int) (dg : Bool) (sd : Int) (k mx : Option D) (ds : List Int) : S := ⟨[some (.int c), some (.int n), some (.int rest), some (.bl dg), some (.int sd), some (.loc 0), k, mx], [.lst (iL ds)]⟩
theorem draws_a {c n rest sd i : Int} {mx : Option D} {ds : List Int} (h0 : 0 < rest) (hz : ds.length < SZ) : bDraws (dS c n rest true sd (some (.int i)) mx ds) = .nx (dS c n (rest / 5040) true sd (some (.int i)) mx (ds ++ [rest % 5040])) := by
  simp [bDraws, h0, hz]
theorem draws_b {c n rest sd i : Int} {dg : Bool} {mx : Option D} {ds : List Int} (hc : ¬ (dg = true ∧ 0 < rest)) (hi : 0 ≤ i ∧ i < 1000000) (hz : ds.length < SZ) (m1 m2 : Int) (h1 : m1 = (sd * 48271 + (i + 1) * 69621 + 11) % 2147483647) (h2 : m2 = (m1 * m1 + 40692 * (i + 3)) % 2147483399) :
    bDraws (dS c n rest dg sd (some (.int i)) mx ds) = .nx (dS c n rest dg sd (some (.int i)) (some (.int m2)) (ds ++ [m2 / 64 % 5040])) := by
  have e4 : mulOk m1 m1 = true := mulOk_r (by omega) (by omega)
  have e3 : mulOk 40692 (i + 3) = true := mulOk_r (by omega) (by omega)
  cases dg with
  | false => simp [bDraws, hz, e3, e4, ← h1, ← h2]
  | true =>
    have h0 : ¬ 0 < rest := fun z => hc ⟨rfl, z⟩
    simp [bDraws, hz, h0, e3, e4, ← h1, ← h2]
theorem draws_loop (c : Int) (n : Nat) (dg : Bool) (sd : Int) (hn : n ≤ 1000000) : ∃ s', forL (gN 6) bDraws (rng 0 n) (dS c n sd dg sd none none []) = .nx s' ∧ DrawsI c n dg sd (0 + (rng 0 n).length) s' := by
  refine forL_inv (DrawsI c n dg sd) (rng 0 n) 0 _ ⟨_, [], _, _, rfl, rfl, by simp⟩ ?_
  rintro i d s hd ⟨rest, ds, k, mx, rfl, hl, hb⟩
  have hi : i < n := by
    have := (List.getElem?_eq_some_iff.mp hd).1
    simpa [rng] using this
  simp [rng, hi] at hd
  subst hd
  have hz : ds.length < SZ := by rw [SZv]; omega
  refine ⟨dS c n rest dg sd (some (.int i)) mx ds, rfl, ?_⟩
  by_cases hc : dg = true ∧ 0 < rest
  · obtain ⟨rfl, h0⟩ := hc
    refine ⟨_, .inl (draws_a h0 hz), rest / 5040, ds ++ [rest % 5040], some (.int i), mx, rfl, by simp [hl], ?_⟩
    intro x hx
    rcases List.mem_append.mp hx with h | h
    · exact hb x h
    · simp at h; subst h; omega
  · obtain ⟨m1, h1⟩ : ∃ q, q = (sd * 48271 + ((i : Int) + 1) * 69621 + 11) % 2147483647 := ⟨_, rfl⟩
    obtain ⟨m2, h2⟩ : ∃ q, q = (m1 * m1 + 40692 * ((i : Int) + 3)) % 2147483399 := ⟨_, rfl⟩
    refine ⟨_, .inl (draws_b hc (by omega) hz m1 m2 h1 h2), rest, ds ++ [m2 / 64 % 5040], some (.int i), some (.int m2), rfl, by simp [hl], ?_⟩
    intro x hx
    rcases List.mem_append.mp hx with h | h
    · exact hb x h
    · simp at h; subst h; omega
theorem draws_ok (c : Int) (n : Nat) (hn : n ≤ 1000000) : ∃ ds : List Int, ds.length = n ∧ (∀ x ∈ ds, 0 ≤ x ∧ x < 5040) ∧ pureOf 8 2 mDraws [.int c, .int n] = .ok (.lst (iL ds)) := by
  obtain ⟨s', e, rest, ds, k, mx, rfl, hl, hb⟩ := draws_loop c n (decide (1000000000000000000 ≤ (if c < 0 then -c else c))) (if c < 0 then -c else c) hn
  refine ⟨ds, by simpa [rng] using hl, hb, ?_⟩
  have h1 : (n : Int) < 4611686018427387904 := by omega
  simp only [dS, iL_nil] at e
  refine pure_rt rfl ?_ (by simp)
  unfold mDraws
  simp [powOk, h1, e]
end VL
/-! loops that return, loops that gather, comprehensions: laws of the mirrors -/
namespace VL
open PySem L2

theorem seq_assoc (x : C) (k l : S → C) : (x.seq k).seq l = x.seq fun s => (k s).seq l := by cases x <;> rfl
theorem forL_find {g : MG} {b : MS} (I : S → Prop) (q : D → Option D) : ∀ (l : List D) (s : S), I s →
    (∀ d ∈ l, ∀ s, I s → ∃ s1, g d s = .nx s1 ∧ match q d with
      | none => ∃ s', (b s1 = .nx s' ∨ b s1 = .ct s') ∧ I s'
      | some z => ∃ s', b s1 = .rt z s') →
    match l.findSome? q with
      | none => ∃ s', forL g b l s = .nx s' ∧ I s'
      | some z => ∃ s', forL g b l s = .rt z s'
  | [], s, h, _ => ⟨s, rfl, h⟩
  | d :: l, s, h, st => by
    obtain ⟨s1, e1, h1⟩ := st d (by simp) s h
    rw [List.findSome?_cons]
    cases hq : q d with
    | none =>
      rw [hq] at h1
      obtain ⟨s', e, h'⟩ := h1
      have ih := forL_find I q l s' h' fun d hd => st d (by simp [hd])
      have e0 : forL g b (d :: l) s = forL g b l s' := by
        rw [forL_cons, e1, VL.C.seq_nx]
        rcases e with e | e <;> rw [e] <;> rfl
      rw [e0]
      exact ih
    | some z =>
      rw [hq] at h1
      obtain ⟨s', e⟩ := h1
      exact ⟨s', by rw [forL_cons, e1, VL.C.seq_nx, e]; rfl⟩
theorem forL_fold {α : Type} {g : MG} {b : MS} (I : α → S → Prop) (f : α → D → α) : ∀ (l : List D) (a : α) (s : S), I a s →
    (∀ l1 d l2, l = l1 ++ d :: l2 → ∀ s, I (l1.foldl f a) s → ∃ s1, g d s = .nx s1 ∧ ∃ s', (b s1 = .nx s' ∨ b s1 = .ct s') ∧ I (f (l1.foldl f a) d) s') →
    ∃ s', forL g b l s = .nx s' ∧ I (l.foldl f a) s'
  | [], a, s, h, _ => ⟨s, rfl, h⟩
  | d :: l, a, s, h, st => by
    obtain ⟨s1, e1, s', e, h'⟩ := st [] d l rfl s h
    obtain ⟨s2, e2, h2⟩ := forL_fold I f l (f a d) s' h' fun l1 x l2 hl => st (d :: l1) x l2 (by rw [hl]; rfl)
    refine ⟨s2, ?_, h2⟩
    rw [forL_cons, e1, VL.C.seq_nx, ← e2]
    rcases e with e | e <;> rw [e] <;> rfl
/-- what each turn adds -/
theorem forL_acc {β : Type} {g : MG} {b : MS} (I : List β → S → Prop) (F : D → List β) (z : Nat) : ∀ (l : List D) (a : List β) (s : S), I a s → a.length + (l.flatMap F).length ≤ z →
    (∀ d ∈ l, ∀ a s, I a s → a.length + (F d).length ≤ z → ∃ s1, g d s = .nx s1 ∧ ∃ s', (b s1 = .nx s' ∨ b s1 = .ct s') ∧ I (a ++ F d) s') →
    ∃ s', forL g b l s = .nx s' ∧ I (a ++ l.flatMap F) s'
  | [], a, s, h, _, _ => ⟨s, rfl, by simpa using h⟩
  | d :: l, a, s, h, hz, st => by
    rw [List.flatMap_cons, List.length_append] at hz
    obtain ⟨s1, e1, s', e, h'⟩ := st d (by simp) a s h (by omega)
    obtain ⟨s2, e2, h2⟩ := forL_acc I F z l (a ++ F d) s' h' (by rw [List.length_append]; omega) fun d hd => st d (by simp [hd])
    refine ⟨s2, ?_, by rw [List.flatMap_cons, ← List.append_assoc]; exact h2⟩
    rw [forL_cons, e1, VL.C.seq_nx, ← e2]
    rcases e with e | e <;> rw [e] <;> rfl
theorem wipe1 {r : List (Option D)} {i : Nat} {d : D} : (wipeD r [i]).set i (some d) = r.set i (some d) := by
  simp [wipeD]
/-- [e for x in it if t] -/
theorem lc1_if {it : MA} {i : Nat} {t : MT} {e : ME} {s : S} {l : List D} (p : D → Bool) (F : D → D) (hit : it s = .ok (l, s)) (hz : l.length ≤ SZ)
    (h : ∀ d ∈ l, t { s with r := s.r.set i (some d) } = .ok (p d, { s with r := s.r.set i (some d) }) ∧ (p d = true → e { s with r := s.r.set i (some d) } = .ok (F d, { s with r := s.r.set i (some d) }))) :
    fLc it (gN i) t e [i] s = .ok (.lst ((l.filter p).map F), s) := by
  obtain ⟨r, m⟩ := s
  rw [x_fLc, hit, VL.R.bind_ok, lcL_pure p F l [] (by simpa using hz) (fun d hd => by
    obtain ⟨h1, h2⟩ := h d hd
    exact ⟨_, rfl, _, by rw [wipe1]; exact h1, fun hp => ⟨_, h2 hp⟩, rfl⟩)]
  simp
theorem lc1_run {it : MA} {i : Nat} {e : ME} {s : S} {l : List D} (F : D → D) (hit : it s = .ok (l, s)) (hz : l.length ≤ SZ)
    (h : ∀ d ∈ l, e { s with r := s.r.set i (some d) } = .ok (F d, { s with r := s.r.set i (some d) })) :
    fLc it (gN i) tYesM e [i] s = .ok (.lst (l.map F), s) := by
  rw [lc1_if (fun _ => true) F hit hz fun d hd => ⟨rfl, fun _ => h d hd⟩]
  rw [List.filter_eq_self.mpr fun _ _ => rfl]
theorem rng_len {lo : Int} {n : Nat} : (rng lo n).length = n := by simp [rng]
theorem rng_mem {n : Nat} {d : D} (h : d ∈ rng 0 n) : ∃ i : Nat, i < n ∧ d = .int i := by
  simp only [rng, List.mem_map, List.mem_range] at h
  obtain ⟨i, hi, rfl⟩ := h
  exact ⟨i, hi, by simp⟩
theorem rng_mem2 {lo : Int} {n : Nat} {d : D} (h : d ∈ rng lo n) : ∃ i : Nat, i < n ∧ d = .int (lo + i) := by
  simp only [rng, List.mem_map, List.mem_range] at h
  obtain ⟨i, hi, rfl⟩ := h
  exact ⟨i, hi, rfl⟩
theorem rng_map {n : Nat} {α : Type} {F : D → α} : (rng 0 n).map F = (List.range n).map fun i : Nat => F (.int (i : Int)) := by
  simp [rng, Function.comp_def]
theorem rng_get {lo : Int} {n i : Nat} {d : D} (h : (rng lo n)[i]? = some d) : i < n ∧ d = .int (lo + (i : Int)) := by
  have hi : i < n := by
    have := (List.getElem?_eq_some_iff.mp h).1
    simpa [rng] using this
  simp [rng, hi] at h
  exact ⟨hi, h.symm⟩
/-- the loop over range(n), by its turns -/
theorem forL_rng {g : MG} {b : MS} (I : Nat → S → Prop) {n : Nat} {s : S} (h : I 0 s) (st : ∀ i s, i < n → I i s → ∃ s1, g (.int (i : Int)) s = .nx s1 ∧ ∃ s', (b s1 = .nx s' ∨ b s1 = .ct s') ∧ I (i + 1) s') :
    ∃ s', forL g b (rng 0 n) s = .nx s' ∧ I n s' := by
  obtain ⟨s', e, h'⟩ := forL_inv I (rng 0 n) 0 s h fun i d s hd hi => by
    obtain ⟨h1, rfl⟩ := rng_get hd
    rw [Nat.zero_add] at hi ⊢
    rw [Int.zero_add]
    exact st i s h1 hi
  rw [rng_len, Nat.zero_add] at h'
  exact ⟨s', e, h'⟩
@[simp] theorem x_sPar2 {i j : Nat} {A : MA} {s : S} : sPar2 i j A s = (A s).to fun l s => (match l with
  | [d, e] => .nx { s with r := (s.r.set i (some d)).set j (some e) }
  | _ => .no) := id rfl
@[simp] theorem x_sPar3 {i j k : Nat} {A : MA} {s : S} : sPar3 i j k A s = (A s).to fun l s => (match l with
  | [d, e, f] => .nx { s with r := ((s.r.set i (some d)).set j (some e)).set k (some f) }
  | _ => .no) := id rfl
@[simp] theorem x_eBackT {a : ME} {s s' : S} {l : List D} (h : a s = .ok (.tup l, s')) : eBack a s = .ok (.tup l.reverse, s') := by
  unfold eBack; rw [h]; rfl
@[simp] theorem x_eBackL {a : ME} {s s' : S} {l : List D} (h : a s = .ok (.lst l, s')) : eBack a s = .ok (.lst l.reverse, s') := by
  unfold eBack; rw [h]; rfl
@[simp] theorem x_iEnumM {A : MA} {s : S} : iEnumM A s = (A s).bind fun l s => (match l with
  | [.tup l] => .ok (enumL l, s)
  | [.lst l] => .ok (enumL l, s)
  | _ => .no) := id rfl
@[simp] theorem x_lstLoc {n : Nat} {s : S} : lstOf s (.loc n) = (match s.m[n]? with | some (.lst l) => some l | _ => none) := id rfl
@[simp] theorem x_gSorted {d : D} {s : S} : gSorted [d] s = (match lstOf s d with | some l => if srtOk l = true then .ok (.lst (sortD l), s) else .no | none => .no) := id rfl
theorem sortD_perm (l : List D) : (sortD l).Perm l := List.mergeSort_perm _ _
theorem sortD_len (l : List D) : (sortD l).length = l.length := (sortD_perm l).length_eq
theorem sortD_mem {l : List D} {d : D} : d ∈ sortD l ↔ d ∈ l := (sortD_perm l).mem_iff
/-- [e for x in range(n)], ints -/
theorem lcI {it : MA} {i : Nat} {e : ME} {s : S} {n : Nat} (f : Nat → Int) (hit : it s = .ok (rng 0 n, s)) (hz : n ≤ SZ)
    (h : ∀ j : Nat, j < n → e { s with r := s.r.set i (some (.int (j : Int))) } = .ok (.int (f j), { s with r := s.r.set i (some (.int (j : Int))) })) :
    fLc it (gN i) tYesM e [i] s = .ok (.lst (iL ((List.range n).map f)), s) := by
  rw [lc1_run (fun d => match d with | .int a => .int (f a.toNat) | _ => .non) hit (by rw [rng_len]; exact hz) fun d hd => by
    obtain ⟨j, hj, rfl⟩ := rng_mem hd
    exact h j hj]
  rw [rng_map]
  simp [iL, Function.comp_def]
/-- an item by its place -/
def datI (l : List Int) (i : Int) : Int := (l[i.toNat]?).getD 0
theorem fIx_L {s : S} {l : List Int} {i : Int} (h0 : 0 ≤ i) (h1 : i < (l.length : Int)) : fIx (.lst (iL l)) (.int i) s = .ok (.int (datI l i), s) := by
  obtain ⟨k, rfl⟩ : ∃ k : Nat, i = k := ⟨i.toNat, by omega⟩
  have hk : k < l.length := by omega
  rw [fIxL (by simpa using hk)]
  simp [iL_get, datI, hk]
theorem fIx_T {s : S} {l : List Int} {i : Int} (h0 : 0 ≤ i) (h1 : i < (l.length : Int)) : fIx (.tup (iL l)) (.int i) s = .ok (.int (datI l i), s) := by
  obtain ⟨k, rfl⟩ : ∃ k : Nat, i = k := ⟨i.toNat, by omega⟩
  have hk : k < l.length := by omega
  rw [fIxT (by simpa using hk)]
  simp [iL_get, datI, hk]
theorem datI_mem {l : List Int} {i : Int} (h0 : 0 ≤ i) (h1 : i < (l.length : Int)) : datI l i ∈ l := by
  obtain ⟨k, rfl⟩ : ∃ k : Nat, i = k := ⟨i.toNat, by omega⟩
  have hk : k < l.length := by omega
  simp [datI, hk]
@[simp] theorem app_get {α : Type} {l k : List α} {x : α} : (l ++ x :: k)[l.length]? = some x := by simp
@[simp] theorem app_set {α : Type} {l k : List α} {x y : α} : (l ++ x :: k).set l.length y = l ++ y :: k := by simp
theorem gs_assoc (x : C) (k l : MS) : x.seq (sSeq k l) = (x.seq k).seq l := (seq_assoc x k l).symm
/-! ### rows of ints -/
def rowsD (L : List (List Int)) : List D := L.map fun r => .tup (iL r)
theorem toPs_iL : ∀ l : List Int, toPs (iL l) = l.map .int
  | [] => rfl
  | a :: l => by rw [iL_cons, toPs, toPs_iL l]; rfl
theorem okDs_rows : ∀ (L : List (List Int)) (n : Nat), okDs (n + 1) (rowsD L) = true
  | [], _ => rfl
  | r :: L, n => by
    show (okD (n + 1) (.tup (iL r)) && okDs (n + 1) (rowsD L)) = true
    rw [okDs_rows L n, Bool.and_true]
    exact okDs_iL n r
theorem srtOk_rows {L : List (List Int)} (h : ∀ r ∈ L, r ≠ []) : srtOk (rowsD L) = true := by
  unfold srtOk
  rw [okDs_rows, Bool.true_and, Bool.and_eq_true]
  constructor
  · refine List.all_eq_true.mpr fun d hd => List.all_eq_true.mpr fun e he => ?_
    obtain ⟨r, _, rfl⟩ := List.mem_map.mp hd
    obtain ⟨q, _, rfl⟩ := List.mem_map.mp he
    simp only [toP, toPs_iL, PySem.W.alike]
    exact PySem.W.alike_ints r q
  · unfold srtKind
    rw [Bool.or_eq_true]
    refine .inl (List.all_eq_true.mpr fun d hd => ?_)
    obtain ⟨r, hr, rfl⟩ := List.mem_map.mp hd
    cases r with
    | nil => exact absurd rfl (h _ hr)
    | cons a r => rfl
theorem srtOk_ints (l : List Int) : srtOk (iL l) = true := by
  unfold srtOk
  rw [okDs_iL, Bool.true_and, Bool.and_eq_true]
  constructor
  · refine List.all_eq_true.mpr fun d hd => List.all_eq_true.mpr fun e he => ?_
    obtain ⟨r, _, rfl⟩ := List.mem_map.mp hd
    obtain ⟨q, _, rfl⟩ := List.mem_map.mp he
    rfl
  · unfold srtKind
    rw [Bool.or_eq_true]
    refine .inr (List.all_eq_true.mpr fun d hd => ?_)
    obtain ⟨r, hr, rfl⟩ := List.mem_map.mp hd
    rfl
end VL
/-! texts, exceptions, the helpers that more laws share: alphabet, _law_is -/
namespace VL
open PySem L2
section
variable {s : S} {a b c e : ME} {A : MA}
@[simp] theorem fEqS {x y : List Nat} : fEq (.str x) (.str y) s = .ok (.bl (decide (x = y)), s) := rfl
@[simp] theorem fNeS {x y : List Nat} : fNe (.str x) (.str y) s = .ok (.bl (!decide (x = y)), s) := rfl
@[simp] theorem x_lenX {z : List Nat} : lenD s (.str z) = if z.length ≤ SZ then some z.length else none := id rfl
@[simp] theorem x_fAddS {x y : List Nat} : fAdd (.str x) (.str y) s = if x.length + y.length ≤ SZ then .ok (.str (x ++ y), s) else .no := id rfl
@[simp] theorem x_gCmpS {p : Int → Int → Bool} {q : List Nat → List Nat → Bool} {x y : List Nat} : gCmp p q (.str x) (.str y) = some (.bl (q x y)) := id rfl
@[simp] theorem x_gListS {z : List Nat} : gListS [.str z] s = if z.length ≤ 1000000 then .ok (.lst (z.map fun c => .str [c]), s) else .no := id rfl
@[simp] theorem x_fMulAI {i j : Int} : fMulA (.int i) (.int j) s = if mulOk i j = true then .ok (.int (i * j), s) else .no := id rfl
@[simp] theorem x_fMulAS {z : List Nat} {n : Int} : fMulA (.str z) (.int n) s = if 0 ≤ n ∧ n ≤ 1000000 ∧ z.length * n.toNat ≤ 1000000 then .ok (.str (List.replicate n.toNat z).flatten, s) else .no := id rfl
@[simp] theorem x_eJoin {o m : ME} : eJoin o m s = (o s).bind fun a s => (match a with
  | .str a => (m s).bind fun x s => match seqOf s x with
    | some l => match strsD l with
      | some ys => if joinLen a ys ≤ 1000000 then .ok (.str (TL.joinL a ys), s) else .no
      | none => .no
    | none => .no
  | _ => .no) := id rfl
@[simp] theorem x_sRaise {c : Str} {ks : List Str} {m : MA} : sRaise c ks m s = (m s).to fun ds s => if ds.length = ks.length ∧ ds.all shortD = true then .ex ⟨c, ks.zip ds⟩ s else .no := id rfl
@[simp] theorem x_isNonS {z : List Nat} : isNon (.str z) = false := id rfl
@[simp] theorem x_isNonB {z : Bool} : isNon (.bl z) = false := id rfl
@[simp] theorem kit_nt2 : kitB "tuple" "NoneType" = some false := by decide +kernel
end
theorem tryAs_ex {i : Nat} {c : Str} {body : MS} {h : Addr → Option Addr → MS} {s s1 : S} {x : Exn} {r : C} (e : body s = .ex x s1) (hc : x.c = c) (hr : ∀ a d, cutC i (h a d (hotS i a d x s1)) = r) : sTryAs i c body h s = r := by
  unfold sTryAs
  rw [e]
  dsimp only
  rw [if_pos hc]
  exact allC_eq hr
theorem tryAs_rt {i : Nat} {c : Str} {body : MS} {h : Addr → Option Addr → MS} {s s1 : S} {d : D} (e : body s = .rt d s1) : sTryAs i c body h s = .rt d s1 := by
  unfold sTryAs
  rw [e]
theorem pure_ex {n np : Nat} {m : MS} {ds : List D} {e : Exn} (h : ds.length = np) (hm : ∃ s, m ⟨startD n ds, []⟩ = .ex e s) (hn : noLocs (e.fs.map (·.2)) = true) : pureOf n np m ds = .ex e := by
  obtain ⟨s, hm⟩ := hm
  rw [x_pureOf, if_pos h, hm]
  exact if_pos hn
theorem shortD_int {i : Int} (h : -18446744073709551616 < i) (h2 : i < 18446744073709551616) : shortD (.int i) = true := by simp only [shortD, decide_eq_true_eq]; exact ⟨h, h2⟩
theorem shortD_str {z : List Nat} (h : z.length ≤ 1000000) : shortD (.str z) = true := by simp only [shortD, decide_eq_true_eq]; exact h
/-- what the laws' except clauses do with a faulty place -/
def hA (j : Nat) (a : Addr) (d : Option Addr) : MS := (sSeq (sIf (tOrM (tNotM (tTruN (eIsE j true a d))) (tNotM (tTruN (eIsE j true a d)))) (sRet (eTup (aCons (eC (.bl true)) (aCons (eC .non) aNil)))) sNil)
  (sSeq (sIf (tOrM (tTruN (eIsE j false a d)) (tOrM (tTruN (eIsE j false a d)) (tOrM (tTruN (eIsE j false a d)) (tTruN (eIsE j false a d))))) (sRet (eTup (aCons (eC (.bl true)) (aCons (eC .non) aNil)))) sNil)
  (sRet (eTup (aCons (eC (.bl true)) (aCons (eTup (aCons (eFld j "place" a d) (aCons (eFld j "fault" a d) aNil))) aNil))))))
theorem tryA_ex {j : Nat} {c : Str} {body : MS} {s s1 : S} {p f : D} (e : body s = .ex ⟨c, [("place", p), ("fault", f)]⟩ s1) (hj : j < s1.r.length) : sTryAs j c body (hA j) s = .rt (.tup [.bl true, .tup [p, f]]) (VL.cutS j s1) := by
  refine tryAs_ex e rfl fun a d => ?_
  obtain ⟨h, hh⟩ : ∃ h, h = hotS j a d ⟨c, [("place", p), ("fault", f)]⟩ s1 := ⟨_, rfl⟩
  have hr : h.r[j]? = some (some (.exn a d ["place", "fault"] [p, f])) := by rw [hh]; simp [hotS, hj]
  have e1 : ∀ b, eIsE j b a d h = .ok (.bl b, h) := fun b => by simp [eIsE, hr]
  have e2 : eFld j "place" a d h = .ok (p, h) := by simp [eFld, hr, List.lookup]
  have e3 : eFld j "fault" a d h = .ok (f, h) := by
    have : (("fault" : Str) == ("place" : Str)) = false := by decide
    simp [eFld, hr, List.lookup, this]
  rw [← hh]
  have e4 : hA j a d h = .rt (.tup [.bl true, .tup [p, f]]) h := by
    simp [hA, e1, e2, e3, SZv]
  rw [e4, hh]
  simp [cutC, VL.cutS, hotS]
/-! ### _law_is -/
def mIsInt : MS := (sRet (eAndV (eIsi "int" (eV 0)) (eNotV (eIsi "bool" (eV 0)))))
def cIs (rec : List D → PR) : MF := (fLc (iRg1M (aCons (eCB cLen (aCons (eV 1) aNil)) aNil)) (gN 2) tYesM (eCall rec (aCons (eOp fIx (eV 0) (eV 2)) (aCons (eOp fIx (eV 1) (eV 2)) aNil))) [2])
def mIs (rec : List D → PR) : MS :=
  (sSeq (sIf (tBl (eOp fIs (eV 1) (eC .non))) (sRet (eOp fIs (eV 0) (eC .non))) sNil)
  (sSeq (sIf (tTruN (eIsi "bool" (eV 1))) (sRet (eAndV (eIsi "bool" (eV 0)) (eOp fEq (eV 0) (eV 1)))) sNil)
  (sSeq (sIf (tTruN (eIsi "int" (eV 1))) (sRet (eAndV (eCall (pureOf 1 1 mIsInt) (aCons (eV 0) aNil)) (eOp fEq (eV 0) (eV 1)))) sNil)
  (sSeq (sIf (tTruN (eIsi "str" (eV 1))) (sRet (eAndV (eIsi "str" (eV 0)) (eOp fEq (eV 0) (eV 1)))) sNil)
  (sSeq (sIf (tOrM (tNotM (tTruN (eIsi "tuple" (eV 0)))) (tBl (eOp fNe (eCB cLen (aCons (eV 0) aNil)) (eCB cLen (aCons (eV 1) aNil))))) (sRet (eC (.bl false))) sNil)
  (sRet (eCB (c1 (gAllL allB)) (aCons (eFrz (cIs rec)) aNil))))))))
def isF : Nat → List D → PR
  | 0 => fun _ => .no
  | n + 1 => pureOf 3 2 (mIs (isF n))
/-- data that _law_is compares to itself -/
def Good : Nat → D → Prop
  | 0, _ => False
  | n + 1, d => match d with
    | .non => True
    | .bl _ => True
    | .int _ => True
    | .str _ => True
    | .tup l => l.length ≤ 1000000 ∧ ∀ e ∈ l, Good n e
    | _ => False
theorem Good.noLoc : ∀ {n : Nat} {d : D}, Good n d → noLoc d = true
  | 0, _, h => h.elim
  | n + 1, .non, _ => rfl
  | n + 1, .bl _, _ => rfl
  | n + 1, .int _, _ => rfl
  | n + 1, .str _, _ => rfl
  | n + 1, .tup l, h => by
    rw [x_noLocT]
    exact noLocs_all fun d hd => Good.noLoc (h.2 d hd)
  | n + 1, .lst _, h => h.elim
  | n + 1, .dct _ _, h => h.elim
  | n + 1, .scr _, h => h.elim
  | n + 1, .loc _, h => h.elim
  | n + 1, .obj _, h => h.elim
  | n + 1, .exn _ _ _ _, h => h.elim
theorem isF_refl : ∀ {n : Nat} {d : D}, Good n d → isF n [d, d] = .ok (.bl true)
  | 0, _, h => h.elim
  | n + 1, .non, _ => by simp [isF, mIs]
  | n + 1, .bl b, _ => by simp [isF, mIs]
  | n + 1, .int i, _ => by simp [isF, mIs, mIsInt]
  | n + 1, .str z, _ => by simp [isF, mIs]
  | n + 1, .lst _, h => h.elim
  | n + 1, .dct _ _, h => h.elim
  | n + 1, .scr _, h => h.elim
  | n + 1, .loc _, h => h.elim
  | n + 1, .obj _, h => h.elim
  | n + 1, .exn _ _ _ _, h => h.elim
  | n + 1, .tup l, h => by
    have hl : ((l.length : Nat) : Int) < 4611686018427387904 := by have := h.1; omega
    have hc : cIs (isF n) ⟨[some (.tup l), some (.tup l), none], []⟩ = .ok (.lst ((rng 0 l.length).map fun _ => .bl true), ⟨[some (.tup l), some (.tup l), none], []⟩) := by
      refine lc1_run (fun _ => .bl true) (by simp [hl]) (by rw [rng_len, SZv]; have := h.1; omega) fun d hd => ?_
      obtain ⟨i, hi, rfl⟩ := rng_mem hd
      have hg := h.2 l[i] (List.getElem_mem hi)
      simp [fIxT hi, hg.noLoc, isF_refl hg]
    have hb : blsD ((rng 0 l.length).map fun _ => D.bl true) = some (List.replicate l.length true) := by
      have e1 : ((rng 0 l.length).map fun _ => D.bl true) = (List.replicate l.length true).map D.bl := by
        rw [List.map_replicate]
        exact List.eq_replicate_iff.mpr ⟨by simp [rng_len], fun b hb => by
          obtain ⟨_, _, rfl⟩ := List.mem_map.mp hb
          rfl⟩
      rw [e1, blsD_map]
    refine pure_rt rfl ⟨⟨[some (.tup l), some (.tup l), none], []⟩, ?_⟩ (by simp)
    simp [mIs, hc, hb, allB]
/-! ### _law_alphabet -/
def st1 (z : List Nat) : List D := z.map fun c => .str [c]
theorem lcL_inv {g : MG} {t : MT} {e : ME} {vs : List Nat} {r0 : List (Option D)} (N : Nat) (I : List D → List Ob → Prop) : ∀ (l acc : List D) (m : List Ob), acc.length + l.length ≤ N → N ≤ SZ → I acc m →
    (∀ d ∈ l, ∀ acc m, acc.length < N → I acc m → ∃ s1, g d ⟨wipeD r0 vs, m⟩ = .nx s1 ∧ t s1 = .ok (true, s1) ∧ ∃ y r3 m3, e s1 = .ok (y, ⟨r3, m3⟩) ∧ I (acc ++ [y]) m3) →
    ∃ acc' m', lcL g t e vs r0 l acc ⟨r0, m⟩ = .ok (acc', ⟨r0, m'⟩) ∧ acc'.length = acc.length + l.length ∧ I acc' m'
  | [], acc, m, _, _, h, _ => ⟨acc, m, rfl, rfl, h⟩
  | d :: l, acc, m, hz, hN, h, st => by
    rw [List.length_cons] at hz
    obtain ⟨s1, e1, e2, y, r3, m3, e3, h3⟩ := st d (by simp) acc m (by omega) h
    obtain ⟨acc', m', q1, q2, q3⟩ := lcL_inv N I l (acc ++ [y]) m3 (by simp; omega) hN h3 fun d hd => st d (by simp [hd])
    refine ⟨acc', m', ?_, by rw [q2]; simp; omega, q3⟩
    simp only [lcL, e1, e2, if_true, e3]
    rw [if_pos (by omega)]
    exact q1
def cAlpha : MF := (fLc (iRg1M (aCons (eV 1) aNil)) (gN 4) tYesM (eLM lmPopAt (eV 2) (aCons (eOp fMod (eCB (c1 gInt) (aCons (eOp fIx (eV 0) (eV 4)) aNil)) (eCB cLen (aCons (eV 2) aNil))) aNil)) [4])
def abc : List Nat := [97, 98, 99, 100, 101, 102, 103, 104, 105, 106, 107, 108, 109, 110, 111, 112, 113, 114, 115, 116, 117, 118, 119, 120, 121, 122]
def mAlpha : MS :=
  (sSeq (sAsg (eOwn (fCB gListS (aCons (eC (.str [97, 98, 99, 100, 101, 102, 103, 104, 105, 106, 107, 108, 109, 110, 111, 112, 113, 114, 115, 116, 117, 118, 119, 120, 121, 122])) aNil))) (gN 2))
  (sSeq (sAsg (eFrz cAlpha) (gN 3))
  (sRet (eJoin (eC (.str [])) (eFrz (fCB gSorted (aCons (eV 3) aNil)))))))
def Low (c : Nat) : Prop := 97 ≤ c ∧ c ≤ 122
theorem st1_of : ∀ {l : List D}, (∀ d ∈ l, ∃ c, Low c ∧ d = .str [c]) → ∃ z : List Nat, l = st1 z ∧ ∀ c ∈ z, Low c
  | [], _ => ⟨[], rfl, by simp⟩
  | d :: l, h => by
    obtain ⟨c, hc, rfl⟩ := h d (by simp)
    obtain ⟨z, rfl, hz⟩ := st1_of (l := l) fun d hd => h d (List.mem_cons_of_mem _ hd)
    exact ⟨c :: z, rfl, by simpa using ⟨hc, hz⟩⟩
theorem strsD_st1 : ∀ z : List Nat, strsD (st1 z) = some (z.map fun c => [c])
  | [] => rfl
  | c :: z => by show (strsD (st1 z)).map ([c] :: ·) = _; rw [strsD_st1 z]; rfl
theorem joinL_st1 : ∀ z : List Nat, TL.joinL [] (z.map fun c => [c]) = z
  | [] => rfl
  | [_] => rfl
  | c :: b :: z => by
    show [c] ++ ([] ++ TL.joinL [] ((b :: z).map fun c => [c])) = _
    rw [joinL_st1 (b :: z)]; rfl
theorem srt_st1 {z : List Nat} (h : ∀ c ∈ z, Low c) : srtOk (st1 z) = true := by
  unfold srtOk
  have h1 : ∀ (n : Nat) (z : List Nat), (∀ c ∈ z, Low c) → okDs n (st1 z) = true := by
    intro n z
    induction z with
    | nil => intro _; simp [st1, okDs]
    | cons c z ih =>
      intro h
      have hc := h c (by simp)
      simp only [st1, List.map_cons, okDs, okD, List.all_cons, List.all_nil, Bool.and_true, Bool.and_eq_true, decide_eq_true_eq]
      exact ⟨by unfold Low at hc; omega, ih fun c hc => h c (by simp [hc])⟩
  rw [h1 63 z h, Bool.true_and, Bool.and_eq_true]
  constructor
  · refine List.all_eq_true.mpr fun d hd => List.all_eq_true.mpr fun e he => ?_
    obtain ⟨r, _, rfl⟩ := List.mem_map.mp hd
    obtain ⟨q, _, rfl⟩ := List.mem_map.mp he
    rfl
  · unfold srtKind
    rw [Bool.or_eq_true]
    refine .inr (List.all_eq_true.mpr fun d hd => ?_)
    obtain ⟨r, hr, rfl⟩ := List.mem_map.mp hd
    rfl
theorem alpha_ok (ds : List Int) (n : Nat) (hb : ∀ x ∈ ds, 0 ≤ x) (hn : n ≤ ds.length) (h26 : n ≤ 26) : ∃ z : List Nat, z.length = n ∧ (∀ c ∈ z, Low c) ∧ pureOf 5 2 mAlpha [.lst (iL ds), .int n] = .ok (.str z) := by
  have hr : (n : Int) < 4611686018427387904 := by omega
  have habc : ∀ d ∈ st1 abc, ∃ c, Low c ∧ d = .str [c] := fun d hd => by
    obtain ⟨c, hc, rfl⟩ := List.mem_map.mp hd
    have : ∀ c ∈ abc, Low c := by unfold Low; decide
    exact ⟨c, this c hc, rfl⟩
  obtain ⟨acc, m', e1, e2, e5⟩ := lcL_inv (g := gN 4) (t := tYesM) (e := (eLM lmPopAt (eV 2) (aCons (eOp fMod (eCB (c1 gInt) (aCons (eOp fIx (eV 0) (eV 4)) aNil)) (eCB cLen (aCons (eV 2) aNil))) aNil))) (vs := [4]) (r0 := [some (.lst (iL ds)), some (.int n), some (.loc 0), none, none]) n
    (fun acc m => (∃ pool : List D, m = [.lst pool] ∧ acc.length + pool.length = 26 ∧ ∀ d ∈ pool, ∃ c, Low c ∧ d = .str [c]) ∧ ∀ d ∈ acc, ∃ c, Low c ∧ d = .str [c]) (rng 0 n) [] [.lst (st1 abc)] (by rw [rng_len]; simp) (by rw [SZv]; omega) ⟨⟨st1 abc, rfl, rfl, habc⟩, by simp⟩ (fun d hd acc m hacc ⟨⟨pool, em, h1, h2⟩, h3⟩ => by
      obtain ⟨i, hi, rfl⟩ := rng_mem hd
      subst em
      have hi2 : i < ds.length := by omega
      have hp : (0 : Int) < pool.length := by omega
      obtain ⟨q, hq⟩ : ∃ q, q = ds[i] % (pool.length : Int) := ⟨_, rfl⟩
      have q0 : 0 ≤ q := by rw [hq]; exact Int.emod_nonneg _ (by omega)
      have q1 : q < pool.length := by rw [hq]; exact Int.emod_lt_of_pos _ hp
      obtain ⟨k, rfl⟩ : ∃ k : Nat, q = k := ⟨q.toNat, by omega⟩
      have hk : k < pool.length := by omega
      have hpl : pool.length ≤ SZ := by rw [SZv]; omega
      refine ⟨_, rfl, rfl, pool[k], [some (.lst (iL ds)), some (.int n), some (.loc 0), none, some (.int i)], [.lst (pool.eraseIdx k)], ?_, ⟨pool.eraseIdx k, rfl, ?_, fun c hc => h2 c (List.mem_of_mem_eraseIdx hc)⟩, fun d hd => ?_⟩
      · have ix : fIx (.lst (iL ds)) (.int (i : Int)) ⟨[some (.lst (iL ds)), some (.int n), some (.loc 0), none, some (.int i)], [.lst pool]⟩ = .ok (.int ds[i], ⟨[some (.lst (iL ds)), some (.int n), some (.loc 0), none, some (.int i)], [.lst pool]⟩) := by
          rw [fIxL (by simpa using hi2), iL_get]
        have ln : cLen [.loc 0] ⟨[some (.lst (iL ds)), some (.int n), some (.loc 0), none, some (.int i)], [.lst pool]⟩ = .ok (.int pool.length, ⟨[some (.lst (iL ds)), some (.int n), some (.loc 0), none, some (.int i)], [.lst pool]⟩) := by
          simp [lenD, seqOf, lstOf]
        have pp : lmPopAt pool [.int (k : Int)] = some (pool[k], pool.eraseIdx k) := by
          simp only [lmPopAt, if_pos hpl, ixN_nat hk, List.getElem?_eq_getElem hk]
        have hp2 : 0 < pool.length := by omega
        simp [wipeD, ix, ln, fMod, hp, hp2, ← hq, pp, -x_cLen]
      · simp [List.length_eraseIdx, hk]; omega
      · rcases List.mem_append.mp hd with hd | hd
        · exact h3 d hd
        · simp at hd
          rw [hd]
          exact h2 _ (List.getElem_mem hk))
  obtain ⟨⟨pool, rfl, e3, e4⟩, e5⟩ := e5
  obtain ⟨z0, rfl, hz0⟩ := st1_of e5
  have el : z0.length = n := by simpa [st1, rng_len] using e2
  obtain ⟨z, ez, hz⟩ := st1_of (l := sortD (st1 z0)) fun d hd => e5 d (sortD_mem.mp hd)
  have hzl : z.length = n := by
    have := sortD_len (st1 z0)
    rw [ez] at this
    simpa [st1, el] using this
  refine ⟨z, hzl, hz, ?_⟩
  have hc : cAlpha ⟨[some (.lst (iL ds)), some (.int n), some (.loc 0), none, none], [.lst (st1 abc)]⟩ = .ok (.lst (st1 z0), ⟨[some (.lst (iL ds)), some (.int n), some (.loc 0), none, none], [.lst pool]⟩) := by
    simp [cAlpha, hr, e1]
  have hj : joinLen [] (z.map fun c => [c]) ≤ 1000000 := by
    unfold joinLen
    have : ((z.map fun c => [c]).map List.length) = List.replicate z.length 1 := by
      rw [List.map_map]
      exact List.eq_replicate_iff.mpr ⟨by simp, fun b hb => by
        obtain ⟨_, _, rfl⟩ := List.mem_map.mp hb
        rfl⟩
    rw [this, List.sum_replicate_nat]
    simp
    omega
  refine pure_rt rfl ⟨⟨[some (.lst (iL ds)), some (.int n), some (.loc 0), some (.lst (st1 z0)), none], [.lst pool]⟩, ?_⟩ (by simp)
  have h1 : (sAsg (eOwn (fCB gListS (aCons (eC (.str [97, 98, 99, 100, 101, 102, 103, 104, 105, 106, 107, 108, 109, 110, 111, 112, 113, 114, 115, 116, 117, 118, 119, 120, 121, 122])) aNil))) (gN 2)) ⟨startD 5 [.lst (iL ds), .int n], []⟩ = .nx ⟨[some (.lst (iL ds)), some (.int n), some (.loc 0), none, none], [.lst (st1 abc)]⟩ := by
    simp [st1, abc]
  simp only [mAlpha, x_sSeq, h1, VL.C.seq_nx]
  simp [hc, srt_st1 hz0, ez, strsD_st1, joinL_st1, hj]
/-- for at in range(len(..)): the place decides -/
theorem find_rng {g : MG} {b : MS} (I : S → Prop) (q : Nat → Option D) {n : Nat} : ∀ {m k : Nat} {s : S}, k + m = n → I s →
    (∀ i s, i < n → I s → ∃ s1, g (.int (i : Int)) s = .nx s1 ∧ match q i with
      | none => ∃ s', (b s1 = .nx s' ∨ b s1 = .ct s') ∧ I s'
      | some z => ∃ s', b s1 = .rt z s') →
    match (List.range' k m).findSome? q with
      | none => ∃ s', forL g b (rng k m) s = .nx s' ∧ I s'
      | some z => ∃ s', forL g b (rng k m) s = .rt z s'
  | 0, k, s, _, h, _ => ⟨s, rfl, h⟩
  | m + 1, k, s, hk, h, st => by
    obtain ⟨s1, e1, h1⟩ := st k s (by omega) h
    have er : rng (k : Int) (m + 1) = .int (k : Int) :: rng ((k + 1 : Nat) : Int) m := by
      unfold rng
      rw [List.range_succ_eq_map, List.map_cons, List.map_map]
      congr 1
      simp
      intro a _
      omega
    rw [er, List.range'_succ, List.findSome?_cons]
    cases hq : q k with
    | none =>
      rw [hq] at h1
      obtain ⟨s', e, h'⟩ := h1
      have ih := find_rng I q (m := m) (k := k + 1) (s := s') (by omega) h' st
      have e0 : forL g b (.int (k : Int) :: rng ((k + 1 : Nat) : Int) m) s = forL g b (rng ((k + 1 : Nat) : Int) m) s' := by
        rw [forL_cons, e1, VL.C.seq_nx]
        rcases e with e | e <;> rw [e] <;> rfl
      rw [e0]
      exact ih
    | some z =>
      rw [hq] at h1
      obtain ⟨s', e⟩ := h1
      exact ⟨s', by rw [forL_cons, e1, VL.C.seq_nx, e]; rfl⟩
/-- find_rng, a turn that ends by any end that a loop hands on -/
theorem find_rngC {β : Type} {g : MG} {b : MS} (I : S → Prop) (q : Nat → Option β) (c : β → S → C) (hc : ∀ z s f, (c z s).loop f = c z s) {n : Nat} : ∀ {m k : Nat} {s : S}, k + m = n → I s →
    (∀ i s, i < n → I s → ∃ s1, g (.int (i : Int)) s = .nx s1 ∧ match q i with
      | none => ∃ s', (b s1 = .nx s' ∨ b s1 = .ct s') ∧ I s'
      | some z => ∃ s', b s1 = c z s') →
    match (List.range' k m).findSome? q with
      | none => ∃ s', forL g b (rng k m) s = .nx s' ∧ I s'
      | some z => ∃ s', forL g b (rng k m) s = c z s'
  | 0, k, s, _, h, _ => ⟨s, rfl, h⟩
  | m + 1, k, s, hk, h, st => by
    obtain ⟨s1, e1, h1⟩ := st k s (by omega) h
    have er : rng (k : Int) (m + 1) = .int (k : Int) :: rng ((k + 1 : Nat) : Int) m := by
      unfold rng
      rw [List.range_succ_eq_map, List.map_cons, List.map_map]
      congr 1
      simp
      intro a _
      omega
    rw [er, List.range'_succ, List.findSome?_cons]
    cases hq : q k with
    | none =>
      rw [hq] at h1
      obtain ⟨s', e, h'⟩ := h1
      have ih := find_rngC I q c hc (m := m) (k := k + 1) (s := s') (by omega) h' st
      have e0 : forL g b (.int (k : Int) :: rng ((k + 1 : Nat) : Int) m) s = forL g b (rng ((k + 1 : Nat) : Int) m) s' := by
        rw [forL_cons, e1, VL.C.seq_nx]
        rcases e with e | e <;> rw [e] <;> rfl
      rw [e0]
      exact ih
    | some z =>
      rw [hq] at h1
      obtain ⟨s', e⟩ := h1
      exact ⟨s', by rw [forL_cons, e1, VL.C.seq_nx, e, hc]⟩
/-- two readings of a place that are the same as long as no earlier place told anything -/
theorem fs_congr {β : Type} {p q : Nat → Option β} : ∀ {m k : Nat}, (∀ i, k ≤ i → i < k + m → (∀ j, k ≤ j → j < i → p j = none) → p i = q i) → (List.range' k m).findSome? p = (List.range' k m).findSome? q
  | 0, _, _ => rfl
  | m + 1, k, h => by
    rw [List.range'_succ, List.findSome?_cons, List.findSome?_cons, ← h k (Nat.le_refl _) (by omega) (fun j h1 h2 => by omega)]
    cases hp : p k with
    | some z => rfl
    | none =>
      exact fs_congr (m := m) (k := k + 1) fun i h1 h2 h3 => h i (by omega) (by omega) fun j h4 h5 => by
        rcases Nat.eq_or_lt_of_le h4 with rfl | h6
        · exact hp
        · exact h3 j h6 h5
/-! ### cuts, places, least and greatest -/
@[simp] theorem x_fCutL {l : List D} {lo hi : Option Int} {s : S} : fCut (.lst l) lo hi s = .ok (.lst (cut l lo hi), s) := id rfl
@[simp] theorem x_fCutT {l : List D} {lo hi : Option Int} {s : S} : fCut (.tup l) lo hi s = .ok (.tup (cut l lo hi), s) := id rfl
@[simp] theorem x_c2 {g : S → D → D → Option D} {d e : D} {s : S} : c2 g [d, e] s = (match g s d e with | some z => .ok (z, s) | none => .no) := id rfl
@[simp] theorem x_gMin2 {i j : Int} {s : S} : gMin2 s (.int i) (.int j) = some (.int (if j < i then j else i)) := id rfl
@[simp] theorem x_gMax2 {i j : Int} {s : S} : gMax2 s (.int i) (.int j) = some (.int (if j > i then j else i)) := id rfl
theorem cut_mid {α : Type} (l : List α) (a b : Nat) (h : b ≤ l.length) (hab : a ≤ b) : cut l (some (a : Int)) (some (b : Int)) = (l.drop a).take (b - a) := by
  unfold cut
  rw [HT.sIx_nat, HT.sIx_nat, Nat.min_eq_left h, Nat.min_eq_left (by omega)]
theorem cut_iL {ds : List Int} {a n : Nat} (h : a + n ≤ ds.length) : cut (iL ds) (some (a : Int)) (some ((a : Int) + (n : Int))) = iL ((List.range n).map fun j => datI ds ((a + j : Nat) : Int)) := by
  have e : ((a : Int) + (n : Int)) = ((a + n : Nat) : Int) := by omega
  rw [e, cut_mid _ _ _ (by simpa using h) (by omega)]
  unfold iL
  rw [← List.map_drop, ← List.map_take]
  congr 1
  apply List.ext_getElem
  · simp; omega
  · intro i h1 h2
    simp at h1 h2
    have h3 : a + i < ds.length := by omega
    have h4 : ((a : Int) + (i : Int)).toNat = a + i := by omega
    simp [datI, h3, h4]
theorem fIx_S {s : S} {z : List Nat} {i : Int} (hz : z.length ≤ 1000000) (h0 : 0 ≤ i) (h1 : i < (z.length : Int)) : ∃ c, c ∈ z ∧ fIx (.str z) (.int i) s = .ok (.str [c], s) := by
  obtain ⟨k, rfl⟩ : ∃ k : Nat, i = k := ⟨i.toNat, by omega⟩
  have hk : k < z.length := by omega
  refine ⟨z[k], List.getElem_mem hk, ?_⟩
  have hs : z.length ≤ SZ := by rw [SZv]; omega
  unfold fIx
  simp only [if_pos hs, atI_nat hk]
theorem fMod_p {s : S} {i j : Int} (h : 0 < j) : fMod (.int i) (.int j) s = .ok (.int (i % j), s) := by
  have h2 : ¬ j = 0 := by omega
  simp [fMod, h, h2]
theorem datI_in {l : List Int} {P : Int → Prop} (h : ∀ x ∈ l, P x) {i : Int} (h0 : 0 ≤ i) (h1 : i < (l.length : Int)) : P (datI l i) := h _ (datI_mem h0 h1)
end VL
/-! plain helpers: comprehensions over an own list -/
namespace VL
open PySem L2
theorem lcLO_pure {n : Nat} {L : List D} {g : MG} {t : MT} {e : ME} {vs : List Nat} {r0 : List (Option D)} {m : List Ob} (hm : m[n]? = some (.lst L)) (p : D → Bool) (F : D → D) : ∀ (l acc : List D), acc.length + l.length ≤ SZ →
    (∀ d ∈ l, ∃ s1, g d ⟨wipeD r0 vs, m⟩ = .nx s1 ∧ ∃ r2, t s1 = .ok (p d, ⟨r2, m⟩) ∧ (p d = true → ∃ r3, e ⟨r2, m⟩ = .ok (F d, ⟨r3, m⟩))) → lcLO n L g t e vs r0 l acc ⟨r0, m⟩ = .ok (acc ++ (l.filter p).map F, ⟨r0, m⟩)
  | [], acc, _, _ => by simp [lcLO]
  | d :: l, acc, hz, h => by
    obtain ⟨s1, h1, r2, h2, h3⟩ := h d (by simp)
    have hz' : acc.length + (l.length + 1) ≤ SZ := by simpa using hz
    simp only [lcLO, h1, h2]
    cases hp : p d with
    | true =>
      obtain ⟨r3, h5⟩ := h3 hp
      simp only [if_true, h5]
      rw [if_pos ⟨by omega, hm⟩, lcLO_pure hm p F l (acc ++ [F d]) (by simp; omega) fun d' hd' => h d' (by simp [hd'])]
      simp [hp]
    | false =>
      simp only [Bool.false_eq_true, if_false]
      rw [if_pos hm, lcLO_pure hm p F l acc (by omega) fun d' hd' => h d' (by simp [hd'])]
      simp [hp]
theorem lcO1_if {i j n : Nat} {t : MT} {e : ME} {s : S} {L : List D} (p : D → Bool) (F : D → D) (hi : s.r[i]? = some (some (.loc n))) (hm : s.m[n]? = some (.lst L)) (hz : L.length ≤ SZ)
    (h : ∀ d ∈ L, t { s with r := s.r.set j (some d) } = .ok (p d, { s with r := s.r.set j (some d) }) ∧ (p d = true → e { s with r := s.r.set j (some d) } = .ok (F d, { s with r := s.r.set j (some d) }))) :
    fLcO i (gN j) t e [j] s = .ok (.lst ((L.filter p).map F), s) := by
  obtain ⟨r, m⟩ := s
  unfold fLcO
  dsimp only at hi hm ⊢
  rw [hi]
  dsimp only
  rw [hm]
  dsimp only
  rw [lcLO_pure hm p F L [] (by simpa using hz) (fun d hd => by
    obtain ⟨h1, h2⟩ := h d hd
    exact ⟨_, rfl, _, by rw [wipe1]; exact h1, fun hp => ⟨_, h2 hp⟩⟩)]
  simp
end VL
/-! plain helpers: enumerate, generator expressions over texts and ranges, unlike signs -/
namespace VL
open PySem L2
section
variable {s : S} {m : ME}
@[simp] theorem x_eLenTx : eLenTx m s = (m s).bind fun d s => (match d with
  | .str z => if z.length < 4000 then .ok (.int (SX.cntA z z.length), s) else .no
  | _ => .no) := id rfl
@[simp] theorem x_eBackS : eBackS m s = (m s).bind fun d s => (match d with
  | .str z => if z.length ≤ 1000000 then .ok (.str z.reverse, s) else .no
  | _ => .no) := id rfl
end
theorem testL_map {pb : S → D → Option Bool} {s : S} {f : D → Bool} : ∀ {l : List D}, (∀ d ∈ l, pb s d = some (f d)) → testL pb s l = some (l.map f)
  | [], _ => rfl
  | d :: l, h => by
    have ih : testL pb s l = some (l.map f) := testL_map fun e he => h e (List.mem_cons_of_mem _ he)
    simp only [List.map_cons, testL, h d (by simp), ih]
theorem enumL_at {l : List D} {i : Nat} (h : i < l.length) : (enumL l)[i]? = some (.tup [.int (i : Nat), l[i]]) := by
  have h2 : i < (enumL l).length := by rw [enumL_length]; exact h
  obtain ⟨x, hx, e⟩ := enumL_get (List.getElem?_eq_getElem h2)
  rw [List.getElem?_eq_getElem h2, e]
  rw [List.getElem?_eq_getElem h] at hx
  rw [Option.some.inj hx]
/-- a walk by places that ends at the first place that tells something -/
theorem find_enum {β : Type} {g : MG} {b : MS} (I : S → Prop) (q : Nat → Option β) (c : β → S → C) (hc : ∀ z s f, (c z s).loop f = c z s) {es : List D} : ∀ {m k : Nat} {s : S}, k + m = es.length → I s →
    (∀ (i : Nat) (h : i < es.length) s, I s → ∃ s1, g es[i] s = .nx s1 ∧ match q i with
      | none => ∃ s', (b s1 = .nx s' ∨ b s1 = .ct s') ∧ I s'
      | some z => ∃ s', b s1 = c z s') →
    match (List.range' k m).findSome? q with
      | none => ∃ s', forL g b (es.drop k) s = .nx s' ∧ I s'
      | some z => ∃ s', forL g b (es.drop k) s = c z s'
  | 0, k, s, hk, h, _ => ⟨s, by rw [List.drop_of_length_le (by omega)]; rfl, h⟩
  | m + 1, k, s, hk, h, st => by
    have hlt : k < es.length := by omega
    obtain ⟨s1, e1, h1⟩ := st k hlt s h
    rw [List.drop_eq_getElem_cons hlt, List.range'_succ, List.findSome?_cons]
    cases hq : q k with
    | none =>
      rw [hq] at h1
      obtain ⟨s', e, h'⟩ := h1
      have ih := find_enum I q c hc (m := m) (k := k + 1) (s := s') (by omega) h' st
      have e0 : forL g b (es[k] :: es.drop (k + 1)) s = forL g b (es.drop (k + 1)) s' := by
        rw [forL_cons, e1, VL.C.seq_nx]
        rcases e with e | e <;> rw [e] <;> rfl
      rw [e0]
      exact ih
    | some z =>
      rw [hq] at h1
      obtain ⟨s', e⟩ := h1
      exact ⟨s', by rw [forL_cons, e1, VL.C.seq_nx, e, hc]⟩
/-! ### unlike signs -/
theorem nodup_of_cnt {z : List Nat} : ∀ {n : Nat}, n ≤ z.length → SX.cntA z n = n → (z.take n).Nodup
  | 0, _, _ => by simp
  | n + 1, hn, h => by
    have hlt : n < z.length := by omega
    have hle := SX.cntA_le z n
    unfold SX.cntA at h
    split at h
    · omega
    · rename_i hnot
      have ih := nodup_of_cnt (z := z) (n := n) (by omega) (by omega)
      rw [List.take_add_one, List.getElem?_eq_getElem hlt]
      refine List.nodup_append.mpr ⟨ih, by simp, fun a ha b hb e => hnot ?_⟩
      simp at hb
      subst hb
      subst e
      rw [List.any_eq_true]
      exact ⟨_, ha, decide_eq_true (List.getElem?_eq_getElem hlt)⟩
theorem nodup_sub_le : ∀ {t a : List Nat}, t.Nodup → (∀ c ∈ t, c ∈ a) → t.length ≤ a.length
  | [], _, _, _ => Nat.zero_le _
  | c :: t, a, h, hs => by
    obtain ⟨h1, h2⟩ := List.nodup_cons.mp h
    have hc := hs c (by simp)
    have ih := nodup_sub_le (t := t) (a := a.erase c) h2 fun d hd => (List.mem_erase_of_ne (fun e : d = c => h1 (by rw [← e]; exact hd))).mpr (hs d (by simp [hd]))
    rw [List.length_erase_of_mem hc] at ih
    have := List.length_pos_of_mem hc
    rw [List.length_cons]
    omega
/-! ### texts that rise -/
def asc (z : List Nat) : Bool := (List.range (z.length - 1)).all fun i => decide (z.getD i 0 < z.getD (i + 1) 0)
theorem atN {z : List Nat} {i : Nat} (h : i < z.length) : L2.atI z (i : Int) = some (z.getD i 0) := by
  rw [atI_nat h, List.getD_eq_getElem?_getD, List.getElem?_eq_getElem h]; rfl
theorem pbAsc_at {j : Nat} {s : S} {z : List Nat} (h0 : s.r[j]? = some (some (.str z))) (hz : z.length ≤ SZ) {i : Nat} (hi : i + 1 < z.length) : pbAsc j s (.int (i : Nat)) = some (decide (z.getD i 0 < z.getD (i + 1) 0)) := by
  unfold pbAsc
  rw [h0]
  have e1 : L2.atI z ((i : Int) + 1) = some (z.getD (i + 1) 0) := by
    rw [show ((i : Int) + 1) = ((i + 1 : Nat) : Int) by omega]; exact atN hi
  simp only [if_pos hz, atN (show i < z.length by omega), e1]
theorem rng_map0 {n : Nat} : rng 0 n = (List.range n).map fun i => D.int (i : Nat) := by
  simp [rng]
theorem allQr_asc {j : Nat} {s : S} {z : List Nat} {m : ME} (h0 : s.r[j]? = some (some (.str z))) (hz : z.length ≤ 100000) (hm : m s = .ok (.int ((z.length : Int) - 1), s)) : eQr allB (pbAsc j) m s = .ok (.bl (asc z), s) := by
  have hS : z.length ≤ SZ := by rw [SZv]; omega
  have en : ((z.length : Int) - 1).toNat = z.length - 1 := by omega
  have hr : (okR ((z.length : Int) - 1) && decide ((z.length : Int) - 1 ≤ 16777216)) = true := by
    simp only [okR, Bool.and_eq_true, decide_eq_true_eq]
    exact ⟨⟨by omega, by omega⟩, by omega⟩
  have ht : testL (pbAsc j) s (rng 0 (z.length - 1)) = some ((List.range (z.length - 1)).map fun i => decide (z.getD i 0 < z.getD (i + 1) 0)) := by
    rw [testL_map (f := fun d => match d with
      | .int k => decide (z.getD k.toNat 0 < z.getD (k.toNat + 1) 0)
      | _ => false) fun d hd => by
      obtain ⟨i, hi, rfl⟩ := rng_mem hd
      rw [pbAsc_at h0 hS (by omega)]
      rfl]
    rw [rng_map0, List.map_map]
    rfl
  unfold eQr
  rw [hm, VL.R.bind_ok]
  dsimp only
  rw [if_pos hr, en, ht]
  simp only [allB, List.all_map, asc]
  rfl
theorem pbTup_at {j : Nat} {s : S} {z : List Nat} {c : Nat} (h0 : s.r[j]? = some (some (.str z))) (hz : z.length ≤ SZ) : pbTup j s (.str [c]) = some (decide (c ∈ z)) := by
  unfold pbTup
  rw [h0]
  simp only [if_pos hz]
theorem allQs_tup {j : Nat} {s : S} {z y : List Nat} {m : ME} (h0 : s.r[j]? = some (some (.str z))) (hz : z.length ≤ SZ) (hm : m s = .ok (.str y, s)) : eQs allB (pbTup j) m s = .ok (.bl (y.all fun c => decide (c ∈ z)), s) := by
  have ht : testL (pbTup j) s (y.map fun c => .str [c]) = some (y.map fun c => decide (c ∈ z)) := by
    rw [testL_map (f := fun d => match d with
      | .str [c] => decide (c ∈ z)
      | _ => false) fun d hd => by
      obtain ⟨c, _, rfl⟩ := List.mem_map.mp hd
      exact pbTup_at h0 hz]
    rw [List.map_map]
    rfl
  unfold eQs
  rw [hm, VL.R.bind_ok]
  dsimp only
  rw [ht]
  simp only [allB, List.all_map]
  rfl
end VL
/-! plain helpers: sorted of ints, of texts -/
namespace VL
open PySem L2
theorem sortD_iL (l : List Int) : sortD (iL l) = iL (l.mergeSort fun a b => decide (a ≤ b)) := by
  unfold sortD iL
  have e : PySem.W.dataLe false (fun b : Int => PySem.PyData.int b) = fun a b => decide (a ≤ b) := PySem.W.dataLe_int _
  refine (List.map_mergeSort fun a _ b _ => ?_).symm
  show decide (a ≤ b) = PySem.W.dataLe false (fun b : Int => PySem.PyData.int b) a b
  rw [e]
theorem sortI_le (l : List Int) : (l.mergeSort fun a b => decide (a ≤ b)).Pairwise (· ≤ ·) := by
  have h := List.pairwise_mergeSort (le := fun a b : Int => decide (a ≤ b)) (fun a b c h1 h2 => by simp only [decide_eq_true_eq] at *; omega) (fun a b => by simp only [Bool.or_eq_true, decide_eq_true_eq]; omega) l
  exact h.imp fun h => by simpa using h
theorem sortI_mem {l : List Int} {x : Int} : x ∈ (l.mergeSort fun a b => decide (a ≤ b)) ↔ x ∈ l := (List.mergeSort_perm _ _).mem_iff
end VL
namespace K76
open PySem PySem.Spec PyProof.Rows L2 VL
abbrev FnQ (K : PySem.W.Frag) (x q : Str) (st : Stmt) (f : Addr) (fd : FuncData) : Prop := FunD K x q (defArgs st) (defBody st) (defScope st) [] [] f fd
abbrev FnD (K : PySem.W.Frag) (x : Str) (st : Stmt) (f : Addr) (fd : FuncData) : Prop := FunD K x x (defArgs st) (defBody st) (defScope st) [] [] f fd
noncomputable section
/-! is_name -/
abbrev N_is_name : List Str := ["text"]
abbrev P_is_name : List Str := ["text"]
structure L_is_name where
  v_text : Option D := none
  mm : List Ob := []
def L_is_name.S (v : L_is_name) : S := ⟨[v.v_text], v.mm⟩
def m_is_name : MS :=
  (sRet (eAndV (eChain fLe fLe (eC (.int 1)) (eCB cLen (aCons (eV 0) aNil)) (eC (.int 12))) (eQs allB (pbIn [97, 98, 99, 100, 101, 102, 103, 104, 105, 106, 107, 108, 109, 110, 111, 112, 113, 114, 115, 116, 117, 118, 119, 120, 121, 122]) (eV 0))))
def f_is_name : List D → PR := pureOf 1 1 m_is_name
/-! plain_fault -/
abbrev N_plain_fault : List Str := ["room", "place", "thing", "holder", "other", "_"]
abbrev P_plain_fault : List Str := ["room", "place"]
structure L_plain_fault where
  v_room : Option D := none
  v_place : Option D := none
  v_thing : Option D := none
  v_holder : Option D := none
  v_other : Option D := none
  v__ : Option D := none
  mm : List Ob := []
def L_plain_fault.S (v : L_plain_fault) : S := ⟨[v.v_room, v.v_place, v.v_thing, v.v_holder, v.v_other, v.v__], v.mm⟩
def c_plain_fault_1 : MF := (fLc (iSeqM (eV 0)) (gTupM (gsCons (gN 4) (gsCons (gN 5) gsNil))) tYesM (eV 4) [4, 5])
def s_plain_fault_2 : MS := (sAsg (eOp fIx (eV 0) (eV 1)) (gTupM (gsCons (gN 2) (gsCons (gN 3) gsNil))))
def s_plain_fault_3 : MS := (sIf (tNotM (tTruN (eCall f_is_name (aCons (eV 2) aNil)))) (sRet (eC (.str [110, 97, 109, 101]))) sNil)
def s_plain_fault_4 : MS := (sIf (tAndM (tBl (eOp fGt (eV 1) (eC (.int 0)))) (tOrM (tBl (eOp fLeD (eOp fIx (eV 0) (eV 1)) (eOp fIx (eV 0) (eOp fSub (eV 1) (eC (.int 1)))))) (tBl (eOp fEq (eV 2) (eOp fIx (eOp fIx (eV 0) (eOp fSub (eV 1) (eC (.int 1)))) (eC (.int 0))))))) (sRet (eC (.str [111, 114, 100, 101, 114]))) sNil)
def s_plain_fault_5 : MS := (sIf (tAndM (tBl (eOp fNe (eV 3) (eC (.str [])))) (tBl (eOp fNotIn (eV 3) (eFrz c_plain_fault_1)))) (sRet (eC (.str [104, 111, 108, 100, 101, 114]))) sNil)
def s_plain_fault_6 : MS := (sRet (eC .non))
def m_plain_fault : MS :=
  (sSeq s_plain_fault_2
  (sSeq s_plain_fault_3
  (sSeq s_plain_fault_4
  (sSeq s_plain_fault_5
  s_plain_fault_6))))
def f_plain_fault : List D → PR := pureOf 6 2 m_plain_fault
/-! holds_itself -/
abbrev N_holds_itself : List Str := ["holders", "thing", "passed", "holder"]
abbrev P_holds_itself : List Str := ["holders", "thing"]
structure L_holds_itself where
  v_holders : Option D := none
  v_thing : Option D := none
  v_passed : Option D := none
  v_holder : Option D := none
  mm : List Ob := []
def L_holds_itself.S (v : L_holds_itself) : S := ⟨[v.v_holders, v.v_thing, v.v_passed, v.v_holder], v.mm⟩
def s_holds_itself_1 : MS := (sIf (tBl (eOp fEq (eV 3) (eV 1))) (sRet (eC (.bl true))) sNil)
def s_holds_itself_2 : MS := (sDrop (eLM lmApp (eV 2) (aCons (eV 3) aNil)))
def s_holds_itself_3 : MS := (sAsg (eOp fIx (eV 0) (eV 3)) (gN 3))
def b_holds_itself_4 : MS := (sSeq s_holds_itself_1
  (sSeq s_holds_itself_2
  s_holds_itself_3))
def s_holds_itself_5 : MS := (sAsg (eOwn (fLst aNil)) (gN 2))
def s_holds_itself_6 : MS := (sAsg (eOp fIx (eV 0) (eV 1)) (gN 3))
def s_holds_itself_7 : MS := (sWhile 1000000 (tAndM (tBl (eOp fNe (eV 3) (eC (.str [])))) (tBl (eOp fNotIn (eV 3) (eV 2)))) b_holds_itself_4)
def s_holds_itself_8 : MS := (sRet (eC (.bl false)))
def m_holds_itself : MS :=
  (sSeq s_holds_itself_5
  (sSeq s_holds_itself_6
  (sSeq s_holds_itself_7
  s_holds_itself_8)))
def f_holds_itself : List D → PR := pureOf 4 2 m_holds_itself
/-! check_room -/
abbrev N_check_room : List Str := ["room", "place", "fault", "holders", "thing", "_"]
abbrev P_check_room : List Str := ["room"]
structure L_check_room where
  v_room : Option D := none
  v_place : Option D := none
  v_fault : Option D := none
  v_holders : Option D := none
  v_thing : Option D := none
  v__ : Option D := none
  mm : List Ob := []
def L_check_room.S (v : L_check_room) : S := ⟨[v.v_room, v.v_place, v.v_fault, v.v_holders, v.v_thing, v.v__], v.mm⟩
def s_check_room_1 : MS := (sAsg (eCall f_plain_fault (aCons (eV 0) (aCons (eV 1) aNil))) (gN 2))
def s_check_room_2 : MS := (sIf (tBl (eOp fIsn (eV 2) (eC .non))) (sRaise "BadRoom" ["place", "fault"] (aCons (eV 1) (aCons (eV 2) aNil))) sNil)
def b_check_room_3 : MS := (sSeq s_check_room_1
  s_check_room_2)
def b_check_room_4 : MS := (sIf (tTruN (eCall f_holds_itself (aCons (eV 3) (aCons (eV 4) aNil)))) (sRaise "BadRoom" ["place", "fault"] (aCons (eV 1) (aCons (eC (.str [107, 110, 111, 116])) aNil))) sNil)
def s_check_room_5 : MS := (sFor (iRg1M (aCons (eCB cLen (aCons (eV 0) aNil)) aNil)) (gN 1) b_check_room_3)
def s_check_room_6 : MS := (sAsg (eFrz (fCB gDict (aCons (eV 0) aNil))) (gN 3))
def s_check_room_7 : MS := (sFor (iEnumM (aCons (eV 0) aNil)) (gTupM (gsCons (gN 1) (gsCons (gTupM (gsCons (gN 4) (gsCons (gN 5) gsNil))) gsNil))) b_check_room_4)
def m_check_room : MS :=
  (sSeq s_check_room_5
  (sSeq s_check_room_6
  s_check_room_7))
def f_check_room : List D → PR := pureOf 6 1 m_check_room
/-! _law_cell -/
abbrev N__law_cell : List Str := ["script", "k"]
abbrev P__law_cell : List Str := ["script", "k"]
structure L__law_cell where
  v_script : Option D := none
  v_k : Option D := none
  mm : List Ob := []
def L__law_cell.S (v : L__law_cell) : S := ⟨[v.v_script, v.v_k], v.mm⟩
def s__law_cell_1 : MS := (sIf (tBl (eOp fLt (eV 1) (eCB cLen (aCons (eV 0) aNil)))) (sRet (eOp fIx (eV 0) (eV 1))) sNil)
def s__law_cell_2 : MS := (sRet (eOp fAdd (eOp fMul (eC (.int 5)) (eV 1)) (eC (.int 3))))
def m__law_cell : MS :=
  (sSeq s__law_cell_1
  s__law_cell_2)
def f__law_cell : List D → PR := pureOf 2 2 m__law_cell
/-! _law_draws -/
abbrev N__law_draws : List Str := ["cell", "count", "rest", "digits", "seed", "draws", "k", "mixed"]
abbrev P__law_draws : List Str := ["cell", "count"]
structure L__law_draws where
  v_cell : Option D := none
  v_count : Option D := none
  v_rest : Option D := none
  v_digits : Option D := none
  v_seed : Option D := none
  v_draws : Option D := none
  v_k : Option D := none
  v_mixed : Option D := none
  mm : List Ob := []
def L__law_draws.S (v : L__law_draws) : S := ⟨[v.v_cell, v.v_count, v.v_rest, v.v_digits, v.v_seed, v.v_draws, v.v_k, v.v_mixed], v.mm⟩
def b__law_draws_1 : MS := (sIf (tAndM (tTruN (eV 3)) (tBl (eOp fGt (eV 2) (eC (.int 0))))) (sSeq (sDrop (eLM lmApp (eV 5) (aCons (eOp fMod (eCB (c1 gInt) (aCons (eV 2) aNil)) (eC (.int 5040))) aNil)))
  (sAsg (eOp fDiv (eV 2) (eC (.int 5040))) (gN 2))) (sSeq (sAsg (eOp fMod (eCB (c1 gInt) (aCons (eOp fAdd (eOp fAdd (eOp fMul (eV 4) (eC (.int 48271))) (eOp fMul (eOp fAdd (eV 6) (eC (.int 1))) (eC (.int 69621)))) (eC (.int 11))) aNil)) (eC (.int 2147483647))) (gN 7))
  (sSeq (sAsg (eOp fMod (eCB (c1 gInt) (aCons (eOp fAdd (eOp fMul (eV 7) (eV 7)) (eOp fMul (eC (.int 40692)) (eOp fAdd (eV 6) (eC (.int 3))))) aNil)) (eC (.int 2147483399))) (gN 7))
  (sDrop (eLM lmApp (eV 5) (aCons (eOp fMod (eCB (c1 gInt) (aCons (eOp fDiv (eV 7) (eC (.int 64))) aNil)) (eC (.int 5040))) aNil))))))
def s__law_draws_2 : MS := (sAsg (eCB (c1 gAbs) (aCons (eCB (c1 gInt) (aCons (eV 0) aNil)) aNil)) (gN 2))
def s__law_draws_3 : MS := (sAsg (eOp fGe (eV 2) (eOp fPow (eC (.int 10)) (eC (.int 18)))) (gN 3))
def s__law_draws_4 : MS := (sAsg (eV 2) (gN 4))
def s__law_draws_5 : MS := (sAsg (eOwn (fLst aNil)) (gN 5))
def s__law_draws_6 : MS := (sFor (iRg1M (aCons (eV 1) aNil)) (gN 6) b__law_draws_1)
def s__law_draws_7 : MS := (sRet (eTake 5))
def m__law_draws : MS :=
  (sSeq s__law_draws_2
  (sSeq s__law_draws_3
  (sSeq s__law_draws_4
  (sSeq s__law_draws_5
  (sSeq s__law_draws_6
  s__law_draws_7)))))
def f__law_draws : List D → PR := pureOf 8 2 m__law_draws
/-! _law_is_integer -/
abbrev N__law_is_integer : List Str := ["value"]
abbrev P__law_is_integer : List Str := ["value"]
structure L__law_is_integer where
  v_value : Option D := none
  mm : List Ob := []
def L__law_is_integer.S (v : L__law_is_integer) : S := ⟨[v.v_value], v.mm⟩
def m__law_is_integer : MS :=
  (sRet (eAndV (eIsi "int" (eV 0)) (eNotV (eIsi "bool" (eV 0)))))
def f__law_is_integer : List D → PR := pureOf 1 1 m__law_is_integer
/-! _law_name -/
abbrev N__law_name : List Str := ["draw", "other", "letters", "size", "rest", "name", "more", "at"]
abbrev P__law_name : List Str := ["draw", "other"]
structure L__law_name where
  v_draw : Option D := none
  v_other : Option D := none
  v_letters : Option D := none
  v_size : Option D := none
  v_rest : Option D := none
  v_name : Option D := none
  v_more : Option D := none
  v_at : Option D := none
  mm : List Ob := []
def L__law_name.S (v : L__law_name) : S := ⟨[v.v_draw, v.v_other, v.v_letters, v.v_size, v.v_rest, v.v_name, v.v_more, v.v_at], v.mm⟩
def s__law_name_1 : MS := (sAsg (eOp fAdd (eV 5) (eOp fIx (eV 2) (eOp fMod (eCB (c1 gInt) (aCons (eOp fAdd (eV 4) (eOp fMul (eC (.int 5)) (eV 7))) aNil)) (eC (.int 26))))) (gN 5))
def s__law_name_2 : MS := (sAsg (eOp fAdd (eOp fDiv (eV 4) (eC (.int 26))) (eOp fMul (eV 6) (eOp fAdd (eV 7) (eC (.int 1))))) (gN 4))
def b__law_name_3 : MS := (sSeq s__law_name_1
  s__law_name_2)
def s__law_name_4 : MS := (sAsg (eC (.str [97, 98, 99, 100, 101, 102, 103, 104, 105, 106, 107, 108, 109, 110, 111, 112, 113, 114, 115, 116, 117, 118, 119, 120, 121, 122])) (gN 2))
def s__law_name_5 : MS := (sAsg (eOp fIx (eTup (aCons (eC (.int 3)) (aCons (eC (.int 1)) (aCons (eC (.int 5)) (aCons (eC (.int 2)) (aCons (eC (.int 12)) (aCons (eC (.int 4)) aNil))))))) (eOp fMod (eCB (c1 gInt) (aCons (eV 0) aNil)) (eC (.int 6)))) (gN 3))
def s__law_name_6 : MS := (sAsg (eOp fDiv (eCB (c1 gInt) (aCons (eV 0) aNil)) (eC (.int 6))) (gN 4))
def s__law_name_7 : MS := (sAsg (eOp fIx (eV 2) (eOp fMod (eCB (c1 gInt) (aCons (eV 1) aNil)) (eC (.int 26)))) (gN 5))
def s__law_name_8 : MS := (sAsg (eOp fDiv (eCB (c1 gInt) (aCons (eV 1) aNil)) (eC (.int 26))) (gN 6))
def s__law_name_9 : MS := (sFor (iRg1M (aCons (eOp fSub (eV 3) (eC (.int 1))) aNil)) (gN 7) b__law_name_3)
def s__law_name_10 : MS := (sRet (eV 5))
def m__law_name : MS :=
  (sSeq s__law_name_4
  (sSeq s__law_name_5
  (sSeq s__law_name_6
  (sSeq s__law_name_7
  (sSeq s__law_name_8
  (sSeq s__law_name_9
  s__law_name_10))))))
def f__law_name : List D → PR := pureOf 8 2 m__law_name
/-! _law_is -/
abbrev N__law_is : List Str := ["value", "due", "at"]
abbrev P__law_is : List Str := ["value", "due"]
structure L__law_is where
  v_value : Option D := none
  v_due : Option D := none
  v_at : Option D := none
  mm : List Ob := []
def L__law_is.S (v : L__law_is) : S := ⟨[v.v_value, v.v_due, v.v_at], v.mm⟩
def c__law_is_1 (rec : List D → PR) : MF := (fLc (iRg1M (aCons (eCB cLen (aCons (eV 1) aNil)) aNil)) (gN 2) tYesM (eCall rec (aCons (eOp fIx (eV 0) (eV 2)) (aCons (eOp fIx (eV 1) (eV 2)) aNil))) [2])
def s__law_is_2 : MS := (sIf (tBl (eOp fIs (eV 1) (eC .non))) (sRet (eOp fIs (eV 0) (eC .non))) sNil)
def s__law_is_3 : MS := (sIf (tTruN (eIsi "bool" (eV 1))) (sRet (eAndV (eIsi "bool" (eV 0)) (eOp fEq (eV 0) (eV 1)))) sNil)
def s__law_is_4 : MS := (sIf (tTruN (eIsi "int" (eV 1))) (sRet (eAndV (eCall f__law_is_integer (aCons (eV 0) aNil)) (eOp fEq (eV 0) (eV 1)))) sNil)
def s__law_is_5 : MS := (sIf (tTruN (eIsi "str" (eV 1))) (sRet (eAndV (eIsi "str" (eV 0)) (eOp fEq (eV 0) (eV 1)))) sNil)
def s__law_is_6 : MS := (sIf (tOrM (tNotM (tTruN (eIsi "tuple" (eV 0)))) (tBl (eOp fNe (eCB cLen (aCons (eV 0) aNil)) (eCB cLen (aCons (eV 1) aNil))))) (sRet (eC (.bl false))) sNil)
def s__law_is_7 (rec : List D → PR) : MS := (sRet (eCB (c1 (gAllL allB)) (aCons (eFrz (c__law_is_1 rec)) aNil)))
def m__law_is (rec : List D → PR) : MS :=
  (sSeq s__law_is_2
  (sSeq s__law_is_3
  (sSeq s__law_is_4
  (sSeq s__law_is_5
  (sSeq s__law_is_6
  (s__law_is_7 rec))))))
def f__law_is : Nat → List D → PR
  | 0 => fun _ => .no
  | n + 1 => pureOf 3 2 (m__law_is (f__law_is n))
/-! _law_is_name -/
abbrev N__law_is_name : List Str := ["text", "letter"]
abbrev P__law_is_name : List Str := ["text"]
structure L__law_is_name where
  v_text : Option D := none
  v_letter : Option D := none
  mm : List Ob := []
def L__law_is_name.S (v : L__law_is_name) : S := ⟨[v.v_text, v.v_letter], v.mm⟩
def c__law_is_name_1 : MF := (fLc (iSeqM (eV 0)) (gN 1) tYesM (eChain fLe fLe (eC (.str [97])) (eV 1) (eC (.str [122]))) [1])
def m__law_is_name : MS :=
  (sRet (eAndV (eChain fLe fLe (eC (.int 1)) (eCB cLen (aCons (eV 0) aNil)) (eC (.int 12))) (eCB (c1 (gAllL allB)) (aCons (eFrz c__law_is_name_1) aNil))))
def f__law_is_name : List D → PR := pureOf 2 1 m__law_is_name
/-! _law_things -/
abbrev N__law_things : List Str := ["draws", "count", "letters", "found", "at", "name", "tried", "turn", "one"]
abbrev P__law_things : List Str := ["draws", "count"]
structure L__law_things where
  v_draws : Option D := none
  v_count : Option D := none
  v_letters : Option D := none
  v_found : Option D := none
  v_at : Option D := none
  v_name : Option D := none
  v_tried : Option D := none
  v_turn : Option D := none
  v_one : Option D := none
  mm : List Ob := []
def L__law_things.S (v : L__law_things) : S := ⟨[v.v_draws, v.v_count, v.v_letters, v.v_found, v.v_at, v.v_name, v.v_tried, v.v_turn, v.v_one], v.mm⟩
def c__law_things_1 : MF := (fLc (iRg1M (aCons (eC (.int 40)) aNil)) (gN 7) tYesM (eOp fAdd (eOp fAdd (eCut (eV 5) oNone (oSome (eC (.int 10)))) (eOp fIx (eV 2) (eOp fMod (eV 7) (eC (.int 26))))) (eOp fIx (eV 2) (eOp fDiv (eV 7) (eC (.int 26))))) [7])
def c__law_things_2 : MF := (fLc (iSeqM (eV 6)) (gN 8) (tBl (eOp fNotIn (eV 8) (eV 3))) (eV 8) [8])
def s__law_things_3 : MS := (sAsg (eCall f__law_name (aCons (eOp fIx (eV 0) (eOp fMul (eC (.int 2)) (eV 4))) (aCons (eOp fIx (eV 0) (eOp fAdd (eOp fMul (eC (.int 2)) (eV 4)) (eC (.int 1)))) aNil))) (gN 5))
def s__law_things_4 : MS := (sAsg (eOp fAdd (eFrz (fLst (aCons (eV 5) aNil))) (eFrz c__law_things_1)) (gN 6))
def s__law_things_5 : MS := (sDrop (eLM lmApp (eV 3) (aCons (eOp fIx (eFrz c__law_things_2) (eC (.int 0))) aNil)))
def b__law_things_6 : MS := (sSeq s__law_things_3
  (sSeq s__law_things_4
  s__law_things_5))
def s__law_things_7 : MS := (sAsg (eC (.str [97, 98, 99, 100, 101, 102, 103, 104, 105, 106, 107, 108, 109, 110, 111, 112, 113, 114, 115, 116, 117, 118, 119, 120, 121, 122])) (gN 2))
def s__law_things_8 : MS := (sAsg (eOwn (fLst aNil)) (gN 3))
def s__law_things_9 : MS := (sFor (iRg1M (aCons (eV 1) aNil)) (gN 4) b__law_things_6)
def s__law_things_10 : MS := (sRet (eTake 3))
def m__law_things : MS :=
  (sSeq s__law_things_7
  (sSeq s__law_things_8
  (sSeq s__law_things_9
  s__law_things_10)))
def f__law_things : List D → PR := pureOf 9 2 m__law_things
/-! _law_room -/
abbrev N__law_room : List Str := ["draws", "names", "found", "at", "back", "kind", "holder"]
abbrev P__law_room : List Str := ["draws", "names"]
structure L__law_room where
  v_draws : Option D := none
  v_names : Option D := none
  v_found : Option D := none
  v_at : Option D := none
  v_back : Option D := none
  v_kind : Option D := none
  v_holder : Option D := none
  mm : List Ob := []
def L__law_room.S (v : L__law_room) : S := ⟨[v.v_draws, v.v_names, v.v_found, v.v_at, v.v_back, v.v_kind, v.v_holder], v.mm⟩
def s__law_room_1 : MS := (sAsg (eOp fDiv (eCB (c1 gInt) (aCons (eOp fIx (eV 0) (eV 3)) aNil)) (eC (.int 7))) (gN 4))
def s__law_room_2 : MS := (sAsg (eOp fMod (eCB (c1 gInt) (aCons (eOp fIx (eV 0) (eV 3)) aNil)) (eC (.int 7))) (gN 5))
def s__law_room_3 : MS := (sAsg (eIf (tOrM (tBl (eOp fEq (eV 3) (eC (.int 0)))) (tBl (eOp fEq (eV 5) (eC (.int 0))))) (eC (.str [])) (eIf (tBl (eOp fLt (eV 5) (eC (.int 4)))) (eOp fIx (eV 1) (eOp fSub (eV 3) (eC (.int 1)))) (eOp fIx (eV 1) (eOp fMod (eV 4) (eV 3))))) (gN 6))
def s__law_room_4 : MS := (sDrop (eLM lmApp (eV 2) (aCons (eTup (aCons (eOp fIx (eV 1) (eV 3)) (aCons (eV 6) aNil))) aNil)))
def b__law_room_5 : MS := (sSeq s__law_room_1
  (sSeq s__law_room_2
  (sSeq s__law_room_3
  s__law_room_4)))
def s__law_room_6 : MS := (sAsg (eOwn (fLst aNil)) (gN 2))
def s__law_room_7 : MS := (sFor (iRg1M (aCons (eCB cLen (aCons (eV 1) aNil)) aNil)) (gN 3) b__law_room_5)
def s__law_room_8 : MS := (sRet (eCB (c1 gTuple) (aCons (eFrz (fCB gSorted (aCons (eV 2) aNil))) aNil)))
def m__law_room : MS :=
  (sSeq s__law_room_6
  (sSeq s__law_room_7
  s__law_room_8))
def f__law_room : List D → PR := pureOf 7 2 m__law_room
/-! _law_comes_back -/
abbrev N__law_comes_back : List Str := ["room", "thing", "holder", "one", "other", "here", "turn"]
abbrev P__law_comes_back : List Str := ["room", "thing"]
structure L__law_comes_back where
  v_room : Option D := none
  v_thing : Option D := none
  v_holder : Option D := none
  v_one : Option D := none
  v_other : Option D := none
  v_here : Option D := none
  v_turn : Option D := none
  mm : List Ob := []
def L__law_comes_back.S (v : L__law_comes_back) : S := ⟨[v.v_room, v.v_thing, v.v_holder, v.v_one, v.v_other, v.v_here, v.v_turn], v.mm⟩
def b__law_comes_back_1 : MS := (sAsg (eV 4) (gSet (eV 2) (eV 3)))
def s__law_comes_back_2 : MS := (sAsg (eOp fIx (eV 2) (eV 5)) (gN 5))
def s__law_comes_back_3 : MS := (sIf (tBl (eOp fEq (eV 5) (eC (.str [])))) (sRet (eC (.bl false))) sNil)
def s__law_comes_back_4 : MS := (sIf (tBl (eOp fEq (eV 5) (eV 1))) (sRet (eC (.bl true))) sNil)
def b__law_comes_back_5 : MS := (sSeq s__law_comes_back_2
  (sSeq s__law_comes_back_3
  s__law_comes_back_4))
def s__law_comes_back_6 : MS := (sAsg (eOwn fDctN) (gN 2))
def s__law_comes_back_7 : MS := (sFor (iSeqM (eV 0)) (gTupM (gsCons (gN 3) (gsCons (gN 4) gsNil))) b__law_comes_back_1)
def s__law_comes_back_8 : MS := (sAsg (eV 1) (gN 5))
def s__law_comes_back_9 : MS := (sFor (iRg1M (aCons (eCB cLen (aCons (eV 0) aNil)) aNil)) (gN 6) b__law_comes_back_5)
def s__law_comes_back_10 : MS := (sRet (eC (.bl false)))
def m__law_comes_back : MS :=
  (sSeq s__law_comes_back_6
  (sSeq s__law_comes_back_7
  (sSeq s__law_comes_back_8
  (sSeq s__law_comes_back_9
  s__law_comes_back_10))))
def f__law_comes_back : List D → PR := pureOf 7 2 m__law_comes_back
/-! _law_due -/
abbrev N__law_due : List Str := ["room", "at", "thing", "holder", "one", "other"]
abbrev P__law_due : List Str := ["room"]
structure L__law_due where
  v_room : Option D := none
  v_at : Option D := none
  v_thing : Option D := none
  v_holder : Option D := none
  v_one : Option D := none
  v_other : Option D := none
  mm : List Ob := []
def L__law_due.S (v : L__law_due) : S := ⟨[v.v_room, v.v_at, v.v_thing, v.v_holder, v.v_one, v.v_other], v.mm⟩
def c__law_due_1 : MF := (fLc (iSeqM (eV 0)) (gTupM (gsCons (gN 4) (gsCons (gN 5) gsNil))) tYesM (eV 4) [4, 5])
def s__law_due_2 : MS := (sAsg (eOp fIx (eV 0) (eV 1)) (gTupM (gsCons (gN 2) (gsCons (gN 3) gsNil))))
def s__law_due_3 : MS := (sIf (tNotM (tTruN (eCall f__law_is_name (aCons (eV 2) aNil)))) (sRet (eTup (aCons (eV 1) (aCons (eC (.str [110, 97, 109, 101])) aNil)))) sNil)
def s__law_due_4 : MS := (sIf (tAndM (tBl (eOp fGt (eV 1) (eC (.int 0)))) (tOrM (tNotM (tBl (eOp fLtD (eOp fIx (eV 0) (eOp fSub (eV 1) (eC (.int 1)))) (eOp fIx (eV 0) (eV 1))))) (tBl (eOp fEq (eOp fIx (eOp fIx (eV 0) (eOp fSub (eV 1) (eC (.int 1)))) (eC (.int 0))) (eV 2))))) (sRet (eTup (aCons (eV 1) (aCons (eC (.str [111, 114, 100, 101, 114])) aNil)))) sNil)
def s__law_due_5 : MS := (sIf (tAndM (tBl (eOp fNe (eV 3) (eC (.str [])))) (tBl (eOp fNotIn (eV 3) (eFrz c__law_due_1)))) (sRet (eTup (aCons (eV 1) (aCons (eC (.str [104, 111, 108, 100, 101, 114])) aNil)))) sNil)
def b__law_due_6 : MS := (sSeq s__law_due_2
  (sSeq s__law_due_3
  (sSeq s__law_due_4
  s__law_due_5)))
def b__law_due_7 : MS := (sIf (tTruN (eCall f__law_comes_back (aCons (eV 0) (aCons (eOp fIx (eOp fIx (eV 0) (eV 1)) (eC (.int 0))) aNil)))) (sRet (eTup (aCons (eV 1) (aCons (eC (.str [107, 110, 111, 116])) aNil)))) sNil)
def s__law_due_8 : MS := (sFor (iRg1M (aCons (eCB cLen (aCons (eV 0) aNil)) aNil)) (gN 1) b__law_due_6)
def s__law_due_9 : MS := (sFor (iRg1M (aCons (eCB cLen (aCons (eV 0) aNil)) aNil)) (gN 1) b__law_due_7)
def s__law_due_10 : MS := (sRet (eC .non))
def m__law_due : MS :=
  (sSeq s__law_due_8
  (sSeq s__law_due_9
  s__law_due_10))
def f__law_due : List D → PR := pureOf 6 1 m__law_due
/-! _law_told -/
abbrev N__law_told : List Str := ["room", "e"]
abbrev P__law_told : List Str := ["room"]
structure L__law_told where
  v_room : Option D := none
  v_e : Option D := none
  mm : List Ob := []
def L__law_told.S (v : L__law_told) : S := ⟨[v.v_room, v.v_e], v.mm⟩
def m__law_told : MS :=
  (sTryAs 1 "BadRoom" (sRet (eTup (aCons (eC (.bl false)) (aCons (eCall f_check_room (aCons (eV 0) aNil)) aNil)))) fun a d => (sSeq (sIf (tOrM (tNotM (tTruN (eIsE 1 true a d))) (tNotM (tTruN (eIsE 1 true a d)))) (sRet (eTup (aCons (eC (.bl true)) (aCons (eC .non) aNil)))) sNil)
  (sSeq (sIf (tOrM (tTruN (eIsE 1 false a d)) (tOrM (tTruN (eIsE 1 false a d)) (tOrM (tTruN (eIsE 1 false a d)) (tTruN (eIsE 1 false a d))))) (sRet (eTup (aCons (eC (.bl true)) (aCons (eC .non) aNil)))) sNil)
  (sRet (eTup (aCons (eC (.bl true)) (aCons (eTup (aCons (eFld 1 "place" a d) (aCons (eFld 1 "fault" a d) aNil))) aNil)))))))
def f__law_told : List D → PR := pureOf 2 1 m__law_told
/-! _law_right -/
abbrev N__law_right : List Str := ["room", "due", "raised", "told"]
abbrev P__law_right : List Str := ["room"]
structure L__law_right where
  v_room : Option D := none
  v_due : Option D := none
  v_raised : Option D := none
  v_told : Option D := none
  mm : List Ob := []
def L__law_right.S (v : L__law_right) : S := ⟨[v.v_room, v.v_due, v.v_raised, v.v_told], v.mm⟩
def s__law_right_1 : MS := (sAsg (eCall f__law_due (aCons (eV 0) aNil)) (gN 1))
def s__law_right_2 : MS := (sAsg (eCall f__law_told (aCons (eV 0) aNil)) (gTupM (gsCons (gN 2) (gsCons (gN 3) gsNil))))
def s__law_right_3 : MS := (sRet (eAndV (eOp fEq (eV 2) (eOp fIsn (eV 1) (eC .non))) (eCall (f__law_is 6) (aCons (eV 3) (aCons (eV 1) aNil)))))
def m__law_right : MS :=
  (sSeq s__law_right_1
  (sSeq s__law_right_2
  s__law_right_3))
def f__law_right : List D → PR := pureOf 4 1 m__law_right
/-! _law_bent -/
abbrev N__law_bent : List Str := ["room", "draws", "at", "to", "thing", "holder", "kind", "strange"]
abbrev P__law_bent : List Str := ["room", "draws"]
structure L__law_bent where
  v_room : Option D := none
  v_draws : Option D := none
  v_at : Option D := none
  v_to : Option D := none
  v_thing : Option D := none
  v_holder : Option D := none
  v_kind : Option D := none
  v_strange : Option D := none
  mm : List Ob := []
def L__law_bent.S (v : L__law_bent) : S := ⟨[v.v_room, v.v_draws, v.v_at, v.v_to, v.v_thing, v.v_holder, v.v_kind, v.v_strange], v.mm⟩
def s__law_bent_1 : MS := (sIf (tBl (eOp fEq (eCB cLen (aCons (eV 0) aNil)) (eC (.int 0)))) (sRet (eCut (eTup (aCons (eTup (aCons (eC (.str [97])) (aCons (eC (.str [97])) aNil))) (aCons (eTup (aCons (eC (.str [98])) (aCons (eC (.str [])) aNil))) aNil))) (oSome (eOp fMod (eCB (c1 gInt) (aCons (eOp fIx (eV 1) (eC (.int 0))) aNil)) (eC (.int 2)))) oNone)) sNil)
def s__law_bent_2 : MS := (sAsg (eOp fMod (eCB (c1 gInt) (aCons (eOp fIx (eV 1) (eC (.int 0))) aNil)) (eCB cLen (aCons (eV 0) aNil))) (gN 2))
def s__law_bent_3 : MS := (sAsg (eOp fMod (eCB (c1 gInt) (aCons (eOp fIx (eV 1) (eC (.int 2))) aNil)) (eCB cLen (aCons (eV 0) aNil))) (gN 3))
def s__law_bent_4 : MS := (sAsg (eOp fIx (eV 0) (eV 2)) (gTupM (gsCons (gN 4) (gsCons (gN 5) gsNil))))
def s__law_bent_5 : MS := (sAsg (eOp fMod (eCB (c1 gInt) (aCons (eOp fIx (eV 1) (eC (.int 1))) aNil)) (eC (.int 10))) (gN 6))
def s__law_bent_6 : MS := (sAsg (eOp fIx (eTup (aCons (eC (.str [])) (aCons (eC (.str [65])) (aCons (eOp fMulA (eC (.str [97])) (eC (.int 13))) (aCons (eOp fAdd (eV 4) (eC (.str [49]))) (aCons (eOp fAdd (eV 4) (eC (.str [32]))) (aCons (eOp fAdd (eV 4) (eC (.str [63]))) (aCons (eOp fAdd (eV 5) (eC (.str [122, 122]))) (aCons (eC (.str [45])) aNil))))))))) (eOp fMod (eOp fDiv (eCB (c1 gInt) (aCons (eOp fIx (eV 1) (eC (.int 2))) aNil)) (eC (.int 3))) (eC (.int 8)))) (gN 7))
def s__law_bent_7 : MS := (sIf (tBl (eOp fEq (eV 6) (eC (.int 0)))) (sRet (eOp fAdd (eOp fAdd (eCut (eV 0) oNone (oSome (eV 2))) (eTup (aCons (eTup (aCons (eV 7) (aCons (eV 5) aNil))) aNil))) (eCut (eV 0) (oSome (eOp fAdd (eV 2) (eC (.int 1)))) oNone))) sNil)
def s__law_bent_8 : MS := (sIf (tBl (eOp fEq (eV 6) (eC (.int 1)))) (sRet (eOp fAdd (eOp fAdd (eCut (eV 0) oNone (oSome (eV 2))) (eTup (aCons (eTup (aCons (eV 4) (aCons (eV 7) aNil))) aNil))) (eCut (eV 0) (oSome (eOp fAdd (eV 2) (eC (.int 1)))) oNone))) sNil)
def s__law_bent_9 : MS := (sIf (tBl (eOp fEq (eV 6) (eC (.int 2)))) (sRet (eOp fAdd (eOp fAdd (eCut (eV 0) oNone (oSome (eV 2))) (eTup (aCons (eOp fIx (eV 0) (eV 2)) aNil))) (eCut (eV 0) (oSome (eV 2)) oNone))) sNil)
def s__law_bent_10 : MS := (sIf (tBl (eOp fEq (eV 6) (eC (.int 3)))) (sRet (eOp fAdd (eCut (eV 0) oNone (oSome (eV 2))) (eCut (eV 0) (oSome (eOp fAdd (eV 2) (eC (.int 1)))) oNone))) sNil)
def s__law_bent_11 : MS := (sIf (tBl (eOp fEq (eV 6) (eC (.int 4)))) (sRet (eOp fAdd (eOp fAdd (eCut (eV 0) oNone (oSome (eV 2))) (eCut (eV 0) (oSome (eOp fAdd (eV 2) (eC (.int 1)))) oNone)) (eTup (aCons (eOp fIx (eV 0) (eV 2)) aNil)))) sNil)
def s__law_bent_12 : MS := (sIf (tBl (eOp fEq (eV 6) (eC (.int 5)))) (sRet (eCB (c1 gTuple) (aCons (eFrz (fCB gSortedT (aCons (eOp fAdd (eV 0) (eTup (aCons (eTup (aCons (eV 4) (aCons (eOp fIx (eOp fIx (eV 0) (eV 3)) (eC (.int 0))) aNil))) aNil))) aNil))) aNil))) sNil)
def s__law_bent_13 : MS := (sIf (tBl (eOp fEq (eV 6) (eC (.int 6)))) (sRet (eOp fAdd (eOp fAdd (eCut (eV 0) oNone (oSome (eV 2))) (eTup (aCons (eTup (aCons (eV 4) (aCons (eV 4) aNil))) aNil))) (eCut (eV 0) (oSome (eOp fAdd (eV 2) (eC (.int 1)))) oNone))) sNil)
def s__law_bent_14 : MS := (sIf (tBl (eOp fEq (eV 6) (eC (.int 7)))) (sRet (eBack (eV 0))) sNil)
def s__law_bent_15 : MS := (sRet (eOp fAdd (eOp fAdd (eCut (eV 0) oNone (oSome (eV 2))) (eTup (aCons (eTup (aCons (eV 4) (aCons (eOp fIx (eOp fIx (eV 0) (eV 3)) (eC (.int 0))) aNil))) aNil))) (eCut (eV 0) (oSome (eOp fAdd (eV 2) (eC (.int 1)))) oNone)))
def m__law_bent : MS :=
  (sSeq s__law_bent_1
  (sSeq s__law_bent_2
  (sSeq s__law_bent_3
  (sSeq s__law_bent_4
  (sSeq s__law_bent_5
  (sSeq s__law_bent_6
  (sSeq s__law_bent_7
  (sSeq s__law_bent_8
  (sSeq s__law_bent_9
  (sSeq s__law_bent_10
  (sSeq s__law_bent_11
  (sSeq s__law_bent_12
  (sSeq s__law_bent_13
  (sSeq s__law_bent_14
  s__law_bent_15))))))))))))))
def f__law_bent : List D → PR := pureOf 8 2 m__law_bent
/-! law -/
abbrev N_law : List Str := ["script", "draws", "count", "names", "room", "bent", "k", "ring", "turned"]
abbrev P_law : List Str := ["script"]
structure L_law where
  v_script : Option D := none
  v_draws : Option D := none
  v_count : Option D := none
  v_names : Option D := none
  v_room : Option D := none
  v_bent : Option D := none
  v_k : Option D := none
  v_ring : Option D := none
  v_turned : Option D := none
  mm : List Ob := []
def L_law.S (v : L_law) : S := ⟨[v.v_script, v.v_draws, v.v_count, v.v_names, v.v_room, v.v_bent, v.v_k, v.v_ring, v.v_turned], v.mm⟩
def s_law_1 : MS := (sIf (tNotM (tTruN (eCall f__law_right (aCons (eV 5) aNil)))) (sRet (eC (.bl false))) sNil)
def s_law_2 : MS := (sAsg (eCall f__law_bent (aCons (eV 5) (aCons (eCut (eV 1) (oSome (eOp fAdd (eC (.int 2)) (eOp fMul (eC (.int 3)) (eV 6)))) (oSome (eOp fAdd (eC (.int 5)) (eOp fMul (eC (.int 3)) (eV 6))))) aNil))) (gN 5))
def b_law_3 : MS := (sSeq s_law_1
  s_law_2)
def b_law_4 : MS := (sIf (tNotM (tTruN (eCall f__law_right (aCons (eV 8) aNil)))) (sRet (eC (.bl false))) sNil)
def s_law_5 : MS := (sAsg (eCall f__law_draws (aCons (eCall f__law_cell (aCons (eV 0) (aCons (eC (.int 0)) aNil))) (aCons (eC (.int 16)) aNil))) (gN 1))
def s_law_6 : MS := (sAsg (eOp fIx (eTup (aCons (eC (.int 4)) (aCons (eC (.int 3)) (aCons (eC (.int 6)) (aCons (eC (.int 2)) (aCons (eC (.int 8)) (aCons (eC (.int 1)) (aCons (eC (.int 5)) (aCons (eC (.int 7)) (aCons (eC (.int 0)) (aCons (eC (.int 30)) aNil))))))))))) (eOp fMod (eCB (c1 gInt) (aCons (eOp fIx (eV 1) (eC (.int 0))) aNil)) (eC (.int 10)))) (gN 2))
def s_law_7 : MS := (sAsg (eCall f__law_things (aCons (eCall f__law_draws (aCons (eCall f__law_cell (aCons (eV 0) (aCons (eC (.int 1)) aNil))) (aCons (eOp fMul (eC (.int 2)) (eV 2)) aNil))) (aCons (eV 2) aNil))) (gN 3))
def s_law_8 : MS := (sAsg (eCall f__law_room (aCons (eCall f__law_draws (aCons (eCall f__law_cell (aCons (eV 0) (aCons (eC (.int 2)) aNil))) (aCons (eV 2) aNil))) (aCons (eV 3) aNil))) (gN 4))
def s_law_9 : MS := (sAsg (eV 4) (gN 5))
def s_law_10 : MS := (sFor (iRg1M (aCons (eOp fAdd (eC (.int 1)) (eOp fMod (eCB (c1 gInt) (aCons (eOp fIx (eV 1) (eC (.int 1))) aNil)) (eC (.int 3)))) aNil)) (gN 6) b_law_3)
def s_law_11 : MS := (sAsg (eTup (aCons (eTup (aCons (eC (.str [97])) (aCons (eC (.str [99])) aNil))) (aCons (eTup (aCons (eC (.str [98])) (aCons (eC (.str [97])) aNil))) (aCons (eTup (aCons (eC (.str [99])) (aCons (eC (.str [98])) aNil))) (aCons (eTup (aCons (eC (.str [100])) (aCons (eC (.str [99])) aNil))) aNil))))) (gN 7))
def s_law_12 : MS := (sFor (iSeqM (eTup (aCons (eV 7) (aCons (eOp fAdd (eOp fAdd (eCut (eV 7) oNone (oSome (eC (.int 1)))) (eTup (aCons (eTup (aCons (eC (.str [97, 97])) (aCons (eC (.str [97])) aNil))) aNil))) (eCut (eV 7) (oSome (eC (.int 1))) oNone)) (aCons (eOp fAdd (eTup (aCons (eTup (aCons (eC (.str [97])) (aCons (eC (.str [])) aNil))) aNil)) (eCut (eV 7) (oSome (eC (.int 1))) oNone)) (aCons (eTup (aCons (eTup (aCons (eC (.str [65])) (aCons (eC (.str [65])) aNil))) aNil)) (aCons (eCut (eV 7) (oSome (eC (.int 1))) oNone) aNil))))))) (gN 8) b_law_4)
def s_law_13 : MS := (sRet (eAndV (eCall f__law_right (aCons (eV 5) aNil)) (eAndV (eCall f__law_right (aCons (eV 4) aNil)) (eCall f__law_right (aCons (eTup aNil) aNil)))))
def m_law : MS :=
  (sSeq s_law_5
  (sSeq s_law_6
  (sSeq s_law_7
  (sSeq s_law_8
  (sSeq s_law_9
  (sSeq s_law_10
  (sSeq s_law_11
  (sSeq s_law_12
  s_law_13))))))))
def f_law : List D → PR := pureOf 9 1 m_law
end
end K76
namespace K76
open PySem L2 VL
structure Row where
  a : List Nat
  b : List Nat
def rowD (r : Row) : D := .tup [.str r.a, .str r.b]
def tabD (t : List Row) : D := .tup (t.map rowD)
def Sg (z : List Nat) : Prop := z.length ≤ 100000 ∧ ∀ c ∈ z, c < 1114112
def Fine (r : Row) : Prop := Sg r.a ∧ Sg r.b
def isN (z : List Nat) : Bool := decide (1 ≤ z.length ∧ z.length ≤ 12) && z.all fun c => decide (97 ≤ c ∧ c ≤ 122)
def abcL : List Nat := [97, 98, 99, 100, 101, 102, 103, 104, 105, 106, 107, 108, 109, 110, 111, 112, 113, 114, 115, 116, 117, 118, 119, 120, 121, 122]
theorem mem_abc {c : Nat} : decide (c ∈ abcL) = decide (97 ≤ c ∧ c ≤ 122) := by
  rw [Bool.eq_iff_iff]
  simp [abcL]
  omega
theorem testIn (s : S) : ∀ z : List Nat, testL (pbIn abcL) s (z.map fun c => D.str [c]) = some (z.map fun c => decide (97 ≤ c ∧ c ≤ 122))
  | [] => rfl
  | c :: z => by
    have e : pbIn abcL s (.str [c]) = some (decide (97 ≤ c ∧ c ≤ 122)) := by rw [← mem_abc]; rfl
    simp only [List.map_cons, testL, e, testIn s z]
theorem len_chain {z : List Nat} {m : ME} {s : S} (hz : z.length ≤ 100000) (h : m s = .ok (.str z, s)) : eChain fLe fLe (eC (.int 1)) (eCB cLen (aCons m aNil)) (eC (.int 12)) s = .ok (.bl (decide (1 ≤ z.length ∧ z.length ≤ 12)), s) := by
  have hS : z.length ≤ SZ := by rw [SZv]; omega
  have el : eCB cLen (aCons m aNil) s = .ok (.int (z.length : Nat), s) := by
    rw [x_eCB, x_aCons, h]
    simp [hS]
  rw [x_eChain, x_eC, VL.R.bind_ok, el]
  by_cases h1 : 1 ≤ z.length
  · by_cases h2 : z.length ≤ 12
    · have h3 : (1 : Int) ≤ (z.length : Int) := by omega
      have h4 : (z.length : Int) ≤ 12 := by omega
      simp [h1, h2, h3, h4]
    · have h3 : (1 : Int) ≤ (z.length : Int) := by omega
      have h4 : ¬ (z.length : Int) ≤ 12 := by omega
      simp [h1, h2, h3, h4]
  · have h3 : ¬ (1 : Int) ≤ (z.length : Int) := by omega
    simp [h1, h3]
theorem name_ok {z : List Nat} (h : z.length ≤ 100000) : f_is_name [.str z] = .ok (.bl (isN z)) := by
  let s0 : S := ⟨[some (.str z)], []⟩
  refine pure_rt rfl ⟨s0, ?_⟩ rfl
  show m_is_name s0 = _
  have hc := len_chain (m := eV 0) (s := s0) h rfl
  have hq : eQs allB (pbIn abcL) (eV 0) s0 = .ok (.bl (z.all fun c => decide (97 ≤ c ∧ c ≤ 122)), s0) := by
    unfold eQs
    rw [show eV 0 s0 = .ok (.str z, s0) from rfl, VL.R.bind_ok]
    dsimp only
    rw [testIn]
    simp only [allB, List.all_map]
    rfl
  rw [m_is_name, x_sRet, x_eAndV, hc]
  cases hb : decide (1 ≤ z.length ∧ z.length ≤ 12) with
  | false => simp [isN, hb]
  | true =>
    simp only [VL.R.bind_ok]
    rw [show (eQs allB (pbIn [97, 98, 99, 100, 101, 102, 103, 104, 105, 106, 107, 108, 109, 110, 111, 112, 113, 114, 115, 116, 117, 118, 119, 120, 121, 122]) (eV 0) s0) = _ from hq]
    rw [isN, hb]
    rfl
theorem law_name_ok {z : List Nat} (h : z.length ≤ 100000) : f__law_is_name [.str z] = .ok (.bl (isN z)) := by
  let s0 : S := ⟨[some (.str z), none], []⟩
  refine pure_rt rfl ⟨s0, ?_⟩ rfl
  show m__law_is_name s0 = _
  have hc := len_chain (m := eV 0) (s := s0) h rfl
  have hlc : c__law_is_name_1 s0 = .ok (.lst ((z.map fun c => decide (97 ≤ c ∧ c ≤ 122)).map D.bl), s0) := by
    have hit : iSeqM (eV 0) s0 = .ok (z.map fun c => D.str [c], s0) := rfl
    have := lc1_run (i := 1) (e := eChain fLe fLe (eC (.str [97])) (eV 1) (eC (.str [122]))) (fun d => match d with | .str [c] => .bl (decide (97 ≤ c ∧ c ≤ 122)) | _ => .non) hit (by simp [SZv]; omega) fun d hd => by
      obtain ⟨c, _, rfl⟩ := List.mem_map.mp hd
      by_cases h1 : 97 ≤ c
      · by_cases h2 : c ≤ 122
        · have h3 : ¬ c < 97 := by omega
          have h4 : ¬ 122 < c := by omega
          simp [s0, h1, h2, h3, h4, List.cons_lt_cons_iff]
        · have h3 : ¬ c < 97 := by omega
          have h4 : 122 < c := by omega
          simp [s0, h1, h2, h3, h4, List.cons_lt_cons_iff]
      · have h3 : c < 97 := by omega
        simp [s0, h1, h3, List.cons_lt_cons_iff]
    rw [c__law_is_name_1, this]
    simp [Function.comp_def]
  have hf : eFrz c__law_is_name_1 s0 = .ok (.lst ((z.map fun c => decide (97 ≤ c ∧ c ≤ 122)).map D.bl), s0) := by rw [x_eFrz, hlc]; rfl
  rw [m__law_is_name, x_sRet, x_eAndV, hc]
  cases hb : decide (1 ≤ z.length ∧ z.length ≤ 12) with
  | false => simp [isN, hb]
  | true =>
    simp only [VL.R.bind_ok]
    rw [x_eCB, x_aCons, hf]
    simp only [VL.R.bind_ok, x_aNil, x_c1, x_gAllL, blsD_map, allB, List.all_map, isN, hb, Bool.true_and]
    rfl
/-! ### the order of rows -/
noncomputable def ordB (a b : Row) : Bool := PySem.W.dataLt (toP (rowD a)) (toP (rowD b))
theorem okD_row {n : Nat} {r : Row} (h : Fine r) : okD (n + 1) (rowD r) = true := by
  obtain ⟨⟨_, h1⟩, _, h2⟩ := h
  simp only [rowD, okD, okDs, Bool.and_true, Bool.true_and, Bool.and_eq_true, List.all_eq_true, decide_eq_true_eq]
  exact ⟨h1, h2⟩
theorem alike_row (a b : Row) : PySem.W.alike (toP (rowD a)) (toP (rowD b)) = true := rfl
theorem gDat_row {f : PyData → PyData → Bool} {a b : Row} (ha : Fine a) (hb : Fine b) : gDat f (rowD a) (rowD b) = some (.bl (f (toP (rowD a)) (toP (rowD b)))) := by
  unfold gDat
  rw [okD_row ha, okD_row hb, alike_row]
  rfl
theorem fLtD_row {a b : Row} (ha : Fine a) (hb : Fine b) (s : S) : fLtD (rowD a) (rowD b) s = .ok (.bl (ordB a b), s) := by
  unfold fLtD; rw [gDat_row ha hb]; rfl
theorem fLeD_row {a b : Row} (ha : Fine a) (hb : Fine b) (s : S) : fLeD (rowD a) (rowD b) s = .ok (.bl (!ordB b a), s) := by
  unfold fLeD; rw [gDat_row ha hb]; rfl
theorem okDs_rows {n : Nat} : ∀ {t : List Row}, (∀ r ∈ t, Fine r) → okDs (n + 1) (t.map rowD) = true
  | [], _ => by simp [okDs]
  | r :: t, h => by
    simp only [List.map_cons, okDs, Bool.and_eq_true]
    exact ⟨okD_row (h r (by simp)), okDs_rows fun r hr => h r (by simp [hr])⟩
theorem srt_rows {t : List Row} (h : ∀ r ∈ t, Fine r) : srtOk (t.map rowD) = true := by
  unfold srtOk
  rw [okDs_rows (n := 62) h, Bool.true_and, Bool.and_eq_true]
  constructor
  · refine List.all_eq_true.mpr fun d hd => List.all_eq_true.mpr fun e he => ?_
    obtain ⟨r, _, rfl⟩ := List.mem_map.mp hd
    obtain ⟨q, _, rfl⟩ := List.mem_map.mp he
    exact alike_row r q
  · unfold srtKind
    rw [Bool.or_eq_true]
    refine .inl (List.all_eq_true.mpr fun d hd => ?_)
    obtain ⟨r, _, rfl⟩ := List.mem_map.mp hd
    rfl
theorem rows_of {P : Row → Prop} : ∀ {l : List D}, (∀ d ∈ l, ∃ r, P r ∧ d = rowD r) → ∃ t : List Row, l = t.map rowD ∧ ∀ r ∈ t, P r
  | [], _ => ⟨[], rfl, by simp⟩
  | d :: l, h => by
    obtain ⟨r, hr, rfl⟩ := h d (by simp)
    obtain ⟨t, rfl, ht⟩ := rows_of (l := l) fun d hd => h d (List.mem_cons_of_mem _ hd)
    exact ⟨r :: t, rfl, by simpa using ⟨hr, ht⟩⟩
theorem sort_rows {t : List Row} {P : Row → Prop} (h : ∀ r ∈ t, P r) : ∃ t' : List Row, sortD (t.map rowD) = t'.map rowD ∧ t'.length = t.length ∧ ∀ r ∈ t', P r := by
  obtain ⟨t', e, ht⟩ := rows_of (P := P) (l := sortD (t.map rowD)) fun d hd => by
    obtain ⟨r, hr, rfl⟩ := List.mem_map.mp (sortD_mem.mp hd)
    exact ⟨r, h r hr, rfl⟩
  refine ⟨t', e, ?_, ht⟩
  have := sortD_len (t.map rowD)
  rw [e] at this
  simpa using this
/-! ### the plain fault of a place -/
def zName : List Nat := [110, 97, 109, 101]
def zOrd : List Nat := [111, 114, 100, 101, 114]
def zHold : List Nat := [104, 111, 108, 100, 101, 114]
def zKnot : List Nat := [107, 110, 111, 116]
noncomputable def bad2 (t : List Row) (i : Nat) (r : Row) : Bool := match t[i - 1]? with
  | some p => decide (0 < i) && (!ordB p r || decide (r.a = p.a))
  | none => false
def bad3 (t : List Row) (r : Row) : Bool := decide (r.b ≠ []) && !decide (r.b ∈ t.map (·.a))
noncomputable def flt (t : List Row) (i : Nat) : Option (List Nat) := match t[i]? with
  | none => none
  | some r => if isN r.a = false then some zName else if bad2 t i r then some zOrd else if bad3 t r then some zHold else none
def optS : Option (List Nat) → D
  | none => .non
  | some z => .str z
theorem flt_short {t : List Row} {i : Nat} {z : List Nat} (h : flt t i = some z) : z.length ≤ 1000 := by
  unfold flt at h
  split at h
  · cases h
  · split at h
    · cases h; decide
    · split at h
      · cases h; decide
      · split at h
        · cases h; decide
        · cases h
def Ok (t : List Row) : Prop := (∀ r ∈ t, Fine r) ∧ t.length ≤ 1000
theorem noLoc_row (r : Row) : noLoc (rowD r) = true := rfl
theorem noLoc_tab (t : List Row) : noLoc (tabD t) = true := by
  show noLocs (t.map rowD) = true
  exact noLocs_all fun d hd => by
    obtain ⟨r, _, rfl⟩ := List.mem_map.mp hd
    rfl
theorem ixT {t : List Row} {n : Nat} {r : Row} (h : t[n]? = some r) (s : S) : fIx (tabD t) (.int (n : Int)) s = .ok (rowD r, s) := by
  obtain ⟨hn, hr⟩ := List.getElem?_eq_some_iff.mp h
  unfold tabD
  rw [fIxT (by simpa using hn)]
  simp [hr]
theorem cutP (t : List Row) (n : Nat) (s : S) : fCut (tabD t) none (some (n : Int)) s = .ok (tabD (t.take n), s) := by
  unfold tabD
  rw [x_fCutT, cut_take, List.map_take]
theorem cutS (t : List Row) (n : Nat) (s : S) : fCut (tabD t) (some (n : Int)) none s = .ok (tabD (t.drop n), s) := by
  unfold tabD
  rw [x_fCutT, cut_drop, List.map_drop]
/-- b in the names -/
theorem in_names (b : List Nat) (l : List (List Nat)) (s : S) : fNotIn (.str b) (.lst (l.map D.str)) s = .ok (.bl (!decide (b ∈ l)), s) := by
  have h : qIn (.str b) (.lst (l.map D.str)) s = some (decide (b ∈ l)) := by
    unfold qIn
    simp only [seqOf, lstOf]
    have hf : (flatD (.str b) && (l.map D.str).all flatD) = true := by
      simp [flatD]
    rw [if_pos hf, List.any_map]
    congr 1
    rw [Bool.eq_iff_iff, List.any_eq_true]
    simp [eqD]
  unfold fNotIn
  rw [h]
end K76
namespace K76
open PySem L2 VL
theorem names_lc {it : MA} {s : S} {t : List Row} {i j : Nat} (hit : it s = .ok (t.map rowD, s)) (hz : t.length ≤ 1000) (hi : i < s.r.length) (hij : i ≠ j) :
    fLc it (gTupM (gsCons (gN i) (gsCons (gN j) gsNil))) tYesM (eV i) [i, j] s = .ok (.lst ((t.map (·.a)).map D.str), s) := by
  obtain ⟨r, m⟩ := s
  rw [x_fLc, hit, VL.R.bind_ok, lcL_pure (fun _ => true) (fun d => match d with | .tup [x, _] => x | _ => .non) (t.map rowD) [] (by rw [SZv]; simp; omega) (fun d hd => by
    obtain ⟨q, _, rfl⟩ := List.mem_map.mp hd
    refine ⟨⟨((wipeD r [i, j]).set i (some (.str q.a))).set j (some (.str q.b)), m⟩, by simp [rowD], _, rfl, fun _ => ⟨((wipeD r [i, j]).set i (some (.str q.a))).set j (some (.str q.b)), ?_⟩, rfl⟩
    have e : (((wipeD r [i, j]).set i (some (.str q.a))).set j (some (.str q.b)))[i]? = some (some (.str q.a)) := by
      rw [List.getElem?_set_ne (Ne.symm hij), List.getElem?_set_self (by rw [wipeD_length]; exact hi)]
    rw [x_eV]
    simp only [e]
    rfl)]
  rw [List.filter_eq_self.mpr fun _ _ => rfl]
  simp [rowD, Function.comp_def]
theorem ordE (t : List Row) {n : Nat} {r p : Row} (hok : Ok t) (hr : t[n]? = some r) (hp : t[n - 1]? = some p) : Fine r ∧ Fine p := ⟨hok.1 r (List.mem_of_getElem? hr), hok.1 p (List.mem_of_getElem? hp)⟩
theorem prev_at {t : List Row} {n : Nat} {r : Row} (h : t[n]? = some r) : ∃ p, t[n - 1]? = some p := by
  have := (List.getElem?_eq_some_iff.mp h).1
  exact ⟨_, List.getElem?_eq_getElem (show n - 1 < t.length by omega)⟩
theorem fault_ok {t : List Row} {n : Nat} (h : Ok t) (hn : n < t.length) : f_plain_fault [tabD t, .int n] = .ok (optS (flt t n)) := by
  obtain ⟨r, hr⟩ : ∃ r, t[n]? = some r := ⟨_, List.getElem?_eq_getElem hn⟩
  obtain ⟨p, hp⟩ := prev_at hr
  obtain ⟨hrf, hpf⟩ := ordE t h hr hp
  have hl := h.2
  let V0 : L_plain_fault := { v_room := some (tabD t), v_place := some (.int n) }
  let V : L_plain_fault := { V0 with v_thing := some (.str r.a), v_holder := some (.str r.b) }
  have s2 : s_plain_fault_2 V0.S = .nx V.S := by
    simp [s_plain_fault_2, V0, V, L_plain_fault.S, ixT hr, rowD]
  have l1 := name_ok hrf.1.1
  refine pure_rt rfl ⟨V.S, ?_⟩ (by unfold optS; split <;> rfl)
  show m_plain_fault V0.S = _
  rw [m_plain_fault, x_sSeq, s2, VL.C.seq_nx, x_sSeq]
  have s3 : s_plain_fault_3 V.S = if isN r.a = false then .rt (.str zName) V.S else .nx V.S := by
    have ec : eCall f_is_name (aCons (eV 2) aNil) V.S = .ok (.bl (isN r.a), V.S) := by
      simp [V0, V, L_plain_fault.S, l1]
    rw [s_plain_fault_3, x_sIf, x_tNotM, x_tTruN, ec]
    cases isN r.a <;> rfl
  have s4 : s_plain_fault_4 V.S = if bad2 t n r then .rt (.str zOrd) V.S else .nx V.S := by
    have hb : bad2 t n r = (decide (0 < n) && (!ordB p r || decide (r.a = p.a))) := by unfold bad2; rw [hp]
    have t0 : tBl (eOp fGt (eV 1) (eC (.int 0))) V.S = .ok (decide (0 < n), V.S) := by
      have : decide ((0 : Int) < (n : Int)) = decide (0 < n) := by rw [Bool.eq_iff_iff]; simp
      simp [V0, V, L_plain_fault.S, -Int.natCast_pos]
      omega
    rw [hb, s_plain_fault_4, x_sIf, x_tAndM, t0]
    by_cases h0 : 0 < n
    · have e1 : ((n : Int) - 1) = ((n - 1 : Nat) : Int) := by omega
      have ep : eOp fIx (eV 0) (eOp fSub (eV 1) (eC (.int 1))) V.S = .ok (rowD p, V.S) := by
        simp [V0, V, L_plain_fault.S, e1, ixT hp]
      have er : eOp fIx (eV 0) (eV 1) V.S = .ok (rowD r, V.S) := by simp [V0, V, L_plain_fault.S, ixT hr]
      have t1 : tBl (eOp fLeD (eOp fIx (eV 0) (eV 1)) (eOp fIx (eV 0) (eOp fSub (eV 1) (eC (.int 1))))) V.S = .ok (!ordB p r, V.S) := by
        rw [x_tBl, x_eOp, er, VL.R.bind_ok, ep, VL.R.bind_ok, fLeD_row hrf hpf]
        rfl
      have t2 : tBl (eOp fEq (eV 2) (eOp fIx (eOp fIx (eV 0) (eOp fSub (eV 1) (eC (.int 1)))) (eC (.int 0)))) V.S = .ok (decide (r.a = p.a), V.S) := by
        have e2 : eOp fIx (eOp fIx (eV 0) (eOp fSub (eV 1) (eC (.int 1)))) (eC (.int 0)) V.S = .ok (.str p.a, V.S) := by
          rw [x_eOp, ep, VL.R.bind_ok, x_eC, VL.R.bind_ok]
          exact fIxT (l := [.str p.a, .str p.b]) (k := 0) (by simp)
        rw [x_tBl, x_eOp, show eV 2 V.S = .ok (.str r.a, V.S) from rfl, VL.R.bind_ok, e2, VL.R.bind_ok, fEqS]
        rfl
      simp only [h0, decide_true, VL.R.bind_ok, if_true, Bool.true_and, x_tOrM, t1]
      cases ordB p r with
      | false => rfl
      | true =>
        simp only [Bool.not_true, Bool.false_eq_true, if_false, t2, Bool.false_or]
        cases decide (r.a = p.a) <;> rfl
    · simp only [h0, decide_false, VL.R.bind_ok, Bool.false_eq_true, if_false, Bool.false_and]
      rfl
  have s5 : s_plain_fault_5 V.S = if bad3 t r then .rt (.str zHold) V.S else .nx V.S := by
    have t0 : tBl (eOp fNe (eV 3) (eC (.str []))) V.S = .ok (decide (r.b ≠ []), V.S) := by
      rw [x_tBl, x_eOp, show eV 3 V.S = .ok (.str r.b, V.S) from rfl, VL.R.bind_ok, x_eC, VL.R.bind_ok, fNeS]
      simp
    have hc : c_plain_fault_1 V.S = .ok (.lst ((t.map (·.a)).map D.str), V.S) := names_lc (i := 4) (j := 5) (by simp [V0, V, L_plain_fault.S, tabD]) hl (by simp [L_plain_fault.S]) (by omega)
    have hf : eFrz c_plain_fault_1 V.S = .ok (.lst ((t.map (·.a)).map D.str), V.S) := by rw [x_eFrz, hc]; rfl
    have t1 : tBl (eOp fNotIn (eV 3) (eFrz c_plain_fault_1)) V.S = .ok (!decide (r.b ∈ t.map (·.a)), V.S) := by
      rw [x_tBl, x_eOp, show eV 3 V.S = .ok (.str r.b, V.S) from rfl, VL.R.bind_ok, hf, VL.R.bind_ok, in_names]
      rfl
    rw [s_plain_fault_5, x_sIf, x_tAndM, t0]
    unfold bad3
    by_cases hb : r.b = []
    · simp [hb]
    · simp only [hb, not_false_eq_true, decide_true, VL.R.bind_ok, if_true, t1, Bool.true_and, ne_eq]
      cases decide (r.b ∈ t.map (·.a)) <;> rfl
  unfold flt
  rw [hr]
  dsimp only
  rw [s3]
  by_cases h1 : isN r.a = false
  · rw [if_pos h1, if_pos h1]; rfl
  · rw [if_neg h1, if_neg h1, VL.C.seq_nx, x_sSeq, s4]
    by_cases h2 : bad2 t n r = true
    · rw [if_pos h2, if_pos h2]; rfl
    · rw [if_neg h2, if_neg h2, VL.C.seq_nx, x_sSeq, s5]
      by_cases h3 : bad3 t r = true
      · rw [if_pos h3, if_pos h3]; rfl
      · rw [if_neg h3, if_neg h3, VL.C.seq_nx]; rfl
theorem due_step {t : List Row} {n : Nat} {r : Row} (hr : t[n]? = some r) (h : Ok t) (v : L__law_due) (h0 : v.v_room = some (tabD t)) (h1 : v.v_at = some (.int n)) :
    match flt t n with
      | none => ∃ s', (∃ q1 q2 q3 q4, s' = L__law_due.S { v with v_thing := q1, v_holder := q2, v_one := q3, v_other := q4 }) ∧ b__law_due_6 v.S = .nx s'
      | some z => ∃ s', b__law_due_6 v.S = .rt (.tup [.int n, .str z]) s' := by
  obtain ⟨p, hp⟩ := prev_at hr
  obtain ⟨hrf, hpf⟩ := ordE t h hr hp
  have hl := h.2
  have z2 : 2 ≤ SZ := by rw [SZv]; omega
  obtain ⟨V, hV⟩ : ∃ V : L__law_due, V = { v with v_thing := some (.str r.a), v_holder := some (.str r.b) } := ⟨_, rfl⟩
  have w0 : V.v_room = some (tabD t) := by rw [hV]; exact h0
  have w1 : V.v_at = some (.int n) := by rw [hV]; exact h1
  have w2 : V.v_thing = some (.str r.a) := by rw [hV]
  have w3 : V.v_holder = some (.str r.b) := by rw [hV]
  have s2 : s__law_due_2 v.S = .nx V.S := by
    simp [s__law_due_2, hV, L__law_due.S, h0, h1, ixT hr, rowD]
  have l1 := law_name_ok hrf.1.1
  have y1 : eV 1 V.S = .ok (.int (n : Nat), V.S) := by simp [L__law_due.S, w1]
  have y2 : eV 2 V.S = .ok (.str r.a, V.S) := by simp [L__law_due.S, w2]
  have y3 : eV 3 V.S = .ok (.str r.b, V.S) := by simp [L__law_due.S, w3]
  have y0 : eV 0 V.S = .ok (tabD t, V.S) := by simp [L__law_due.S, w0]
  have out : ∀ z, sRet (eTup (aCons (eV 1) (aCons (eC (.str z)) aNil))) V.S = .rt (.tup [.int n, .str z]) V.S := fun z => by
    rw [x_sRet, x_eTup, x_aCons, y1, VL.R.bind_ok, x_aCons, x_eC]
    simp only [VL.R.bind_ok, x_aNil, List.length_cons, List.length_nil, Nat.zero_add, Nat.reduceAdd, z2, if_true]
    rfl
  have s3 : s__law_due_3 V.S = if isN r.a = false then .rt (.tup [.int n, .str zName]) V.S else .nx V.S := by
    have ec : eCall f__law_is_name (aCons (eV 2) aNil) V.S = .ok (.bl (isN r.a), V.S) := by
      rw [x_eCall, x_aCons, y2]
      simp [l1]
    rw [s__law_due_3, x_sIf, x_tNotM, x_tTruN, ec]
    have o := out zName
    cases isN r.a with
    | false => exact o
    | true => rfl
  have s4 : s__law_due_4 V.S = if bad2 t n r then .rt (.tup [.int n, .str zOrd]) V.S else .nx V.S := by
    have hb : bad2 t n r = (decide (0 < n) && (!ordB p r || decide (r.a = p.a))) := by unfold bad2; rw [hp]
    have t0 : tBl (eOp fGt (eV 1) (eC (.int 0))) V.S = .ok (decide (0 < n), V.S) := by
      rw [x_tBl, x_eOp, y1]
      simp [-Int.natCast_pos]
      omega
    have o := out zOrd
    rw [hb, s__law_due_4, x_sIf, x_tAndM, t0]
    by_cases h0 : 0 < n
    · have e1 : ((n : Int) - 1) = ((n - 1 : Nat) : Int) := by omega
      have ep : eOp fIx (eV 0) (eOp fSub (eV 1) (eC (.int 1))) V.S = .ok (rowD p, V.S) := by
        rw [x_eOp, y0, VL.R.bind_ok, x_eOp, y1, VL.R.bind_ok, x_eC, VL.R.bind_ok]
        simp [e1, ixT hp]
      have er : eOp fIx (eV 0) (eV 1) V.S = .ok (rowD r, V.S) := by rw [x_eOp, y0, VL.R.bind_ok, y1, VL.R.bind_ok, ixT hr]
      have t1 : tBl (eOp fLtD (eOp fIx (eV 0) (eOp fSub (eV 1) (eC (.int 1)))) (eOp fIx (eV 0) (eV 1))) V.S = .ok (ordB p r, V.S) := by
        rw [x_tBl, x_eOp, ep, VL.R.bind_ok, er, VL.R.bind_ok, fLtD_row hpf hrf]
        rfl
      have t2 : tBl (eOp fEq (eOp fIx (eOp fIx (eV 0) (eOp fSub (eV 1) (eC (.int 1)))) (eC (.int 0))) (eV 2)) V.S = .ok (decide (r.a = p.a), V.S) := by
        have e2 : eOp fIx (eOp fIx (eV 0) (eOp fSub (eV 1) (eC (.int 1)))) (eC (.int 0)) V.S = .ok (.str p.a, V.S) := by
          rw [x_eOp, ep, VL.R.bind_ok, x_eC, VL.R.bind_ok]
          exact fIxT (l := [.str p.a, .str p.b]) (k := 0) (by simp)
        rw [x_tBl, x_eOp, e2, VL.R.bind_ok, y2, VL.R.bind_ok, fEqS]
        have : decide (p.a = r.a) = decide (r.a = p.a) := by rw [Bool.eq_iff_iff]; simp [eq_comm]
        rw [this]
        rfl
      simp only [h0, decide_true, VL.R.bind_ok, if_true, Bool.true_and, x_tOrM, x_tNotM, t1]
      cases ordB p r with
      | false => exact o
      | true =>
        simp only [Bool.not_true, Bool.false_eq_true, if_false, t2, Bool.false_or]
        cases decide (r.a = p.a) with
        | true => exact o
        | false => rfl
    · simp only [h0, decide_false, VL.R.bind_ok, Bool.false_eq_true, if_false, Bool.false_and]
      rfl
  have s5 : s__law_due_5 V.S = if bad3 t r then .rt (.tup [.int n, .str zHold]) V.S else .nx V.S := by
    have t0 : tBl (eOp fNe (eV 3) (eC (.str []))) V.S = .ok (decide (r.b ≠ []), V.S) := by
      rw [x_tBl, x_eOp, y3, VL.R.bind_ok, x_eC, VL.R.bind_ok, fNeS]
      simp
    have hc : c__law_due_1 V.S = .ok (.lst ((t.map (·.a)).map D.str), V.S) := names_lc (i := 4) (j := 5) (by rw [x_iSeqM, y0]; simp [tabD]) hl (by simp [L__law_due.S]) (by omega)
    have hf : eFrz c__law_due_1 V.S = .ok (.lst ((t.map (·.a)).map D.str), V.S) := by rw [x_eFrz, hc]; rfl
    have t1 : tBl (eOp fNotIn (eV 3) (eFrz c__law_due_1)) V.S = .ok (!decide (r.b ∈ t.map (·.a)), V.S) := by
      rw [x_tBl, x_eOp, y3, VL.R.bind_ok, hf, VL.R.bind_ok, in_names]
      rfl
    have o := out zHold
    rw [s__law_due_5, x_sIf, x_tAndM, t0]
    unfold bad3
    by_cases hb : r.b = []
    · simp [hb]
    · simp only [hb, not_false_eq_true, decide_true, VL.R.bind_ok, if_true, t1, Bool.true_and, ne_eq]
      cases decide (r.b ∈ t.map (·.a)) with
      | true => rfl
      | false => exact o
  rw [b__law_due_6, x_sSeq, s2, VL.C.seq_nx, x_sSeq]
  unfold flt
  rw [hr]
  dsimp only
  rw [s3]
  by_cases h1 : isN r.a = false
  · rw [if_pos h1, if_pos h1]; exact ⟨_, rfl⟩
  · rw [if_neg h1, if_neg h1, VL.C.seq_nx, x_sSeq, s4]
    by_cases h2 : bad2 t n r = true
    · rw [if_pos h2, if_pos h2]; exact ⟨_, rfl⟩
    · rw [if_neg h2, if_neg h2, VL.C.seq_nx, s5]
      by_cases h3 : bad3 t r = true
      · rw [if_pos h3, if_pos h3]; exact ⟨_, rfl⟩
      · rw [if_neg h3, if_neg h3]
        exact ⟨V.S, ⟨some (.str r.a), some (.str r.b), v.v_one, v.v_other, by rw [hV]⟩, rfl⟩
end K76
namespace K76
open PySem L2 VL
theorem nodup_len {α : Type} [DecidableEq α] : ∀ {t a : List α}, t.Nodup → (∀ c ∈ t, c ∈ a) → t.length ≤ a.length
  | [], _, _, _ => Nat.zero_le _
  | c :: t, a, h, hs => by
    obtain ⟨h1, h2⟩ := List.nodup_cons.mp h
    have hc := hs c (by simp)
    have ih := nodup_len (t := t) (a := a.erase c) h2 fun d hd => (List.mem_erase_of_ne (fun e : d = c => h1 (by rw [← e]; exact hd))).mpr (hs d (by simp [hd]))
    rw [List.length_erase_of_mem hc] at ih
    have := List.length_pos_of_mem hc
    rw [List.length_cons]
    omega
/-! ### the dict of the holders -/
def kS (z : List Nat) : Key := .inr ⟨z.toArray⟩
theorem kS_inj {x y : List Nat} (h : kS x = kS y) : x = y := by
  have : (⟨x.toArray⟩ : Str) = ⟨y.toArray⟩ := Sum.inr.inj h
  have := congrArg (fun s : Str => s.cps.toList) this
  simpa using this
def kvR (t : List Row) : List (Key × D) := t.map fun r => (kS r.a, D.str r.b)
def kvD (t : List Row) : List (Key × D) := mergeD [] (kvR t)
theorem prs_rows : ∀ t : List Row, prsD (t.map rowD) = some (kvR t)
  | [] => rfl
  | r :: t => by
    have e : prsD ((r :: t).map rowD) = (prsD (t.map rowD)).map ((kS r.a, D.str r.b) :: ·) := rfl
    rw [e, prs_rows t]
    rfl
theorem valD_some {A : Type} {l : List (Key × A)} {k : Key} : (valD l k).isSome = true ↔ k ∈ l.map (·.1) := by
  unfold valD
  rw [Option.isSome_map, List.find?_isSome]
  simp
theorem valD_mem {A : Type} {l : List (Key × A)} {k : Key} {d : A} (h : valD l k = some d) : (k, d) ∈ l := by
  unfold valD at h
  cases e : l.find? fun kv => decide (kv.1 = k) with
  | none => rw [e] at h; cases h
  | some p =>
    rw [e] at h
    have h1 := List.find?_some e
    have h2 := List.mem_of_find?_eq_some e
    simp at h1
    obtain ⟨a, b⟩ := p
    cases h
    cases h1
    exact h2
theorem put_keys {A : Type} {l : List (Key × A)} {k x : Key} {d : A} : x ∈ (putD l k d).map (·.1) ↔ x = k ∨ x ∈ l.map (·.1) := by
  unfold putD
  split
  · rename_i h
    have hk : k ∈ l.map (·.1) := by
      obtain ⟨p, hp, e⟩ := List.any_eq_true.mp h
      simp at e
      exact List.mem_map.mpr ⟨p, hp, e⟩
    have e : (l.map fun kv => if kv.1 = k then (kv.1, d) else kv).map (·.1) = l.map (·.1) := by
      rw [List.map_map]
      apply List.map_congr_left
      intro p _
      simp only [Function.comp]
      split <;> rfl
    rw [e]
    constructor
    · exact .inr
    · rintro (rfl | h)
      · exact hk
      · exact h
  · rw [List.map_append, List.mem_append]
    simp
    constructor
    · rintro (h | h)
      · exact .inr h
      · exact .inl h
    · rintro (h | h)
      · exact .inr h
      · exact .inl h
theorem put_vals {A : Type} {P : A → Prop} {l : List (Key × A)} {k : Key} {d : A} (h : ∀ p ∈ l, P p.2) (hd : P d) : ∀ p ∈ putD l k d, P p.2 := by
  unfold putD
  split
  · intro p hp
    obtain ⟨q, hq, rfl⟩ := List.mem_map.mp hp
    split
    · exact hd
    · exact h q hq
  · intro p hp
    rcases List.mem_append.mp hp with hp | hp
    · exact h p hp
    · simp at hp; subst hp; exact hd
theorem put_len {A : Type} {l : List (Key × A)} {k : Key} {d : A} : (putD l k d).length ≤ l.length + 1 := by
  unfold putD
  split <;> simp
theorem merge_keys : ∀ {m l : List (Key × D)} {x : Key}, x ∈ (mergeD l m).map (·.1) ↔ x ∈ l.map (·.1) ∨ x ∈ m.map (·.1)
  | [], l, x => by simp [mergeD]
  | p :: m, l, x => by
    have ih := merge_keys (m := m) (l := putD l p.1 p.2) (x := x)
    have e : mergeD l (p :: m) = mergeD (putD l p.1 p.2) m := rfl
    rw [e, ih, put_keys, List.map_cons, List.mem_cons]
    constructor
    · rintro ((h | h) | h)
      · exact .inr (.inl h)
      · exact .inl h
      · exact .inr (.inr h)
    · rintro (h | h | h)
      · exact .inl (.inr h)
      · exact .inl (.inl h)
      · exact .inr h
theorem merge_vals {P : D → Prop} : ∀ {m l : List (Key × D)}, (∀ p ∈ l, P p.2) → (∀ p ∈ m, P p.2) → ∀ p ∈ mergeD l m, P p.2
  | [], l, h, _ => h
  | q :: m, l, h, h2 => merge_vals (m := m) (l := putD l q.1 q.2) (put_vals h (h2 q (by simp))) fun p hp => h2 p (by simp [hp])
theorem merge_len : ∀ {m l : List (Key × D)}, (mergeD l m).length ≤ l.length + m.length
  | [], l => by simp [mergeD]
  | p :: m, l => by
    have ih := merge_len (m := m) (l := putD l p.1 p.2)
    have := put_len (l := l) (k := p.1) (d := p.2)
    have e : mergeD l (p :: m) = mergeD (putD l p.1 p.2) m := rfl
    rw [e, List.length_cons]
    omega
/-- who holds z -/
def nx (t : List Row) (z : List Nat) : List Nat := match valD (kvD t) (kS z) with
  | some (.str h) => h
  | _ => []
/-- no plain fault -/
structure Pl0 (t : List Row) : Prop where
  n : ∀ r ∈ t, r.a ≠ []
  h : ∀ r ∈ t, r.b = [] ∨ r.b ∈ t.map (·.a)
theorem nx_val {t : List Row} {z : List Nat} (h : z ∈ t.map (·.a)) : valD (kvD t) (kS z) = some (.str (nx t z)) ∧ ∃ r ∈ t, nx t z = r.b := by
  have h1 : kS z ∈ (kvD t).map (·.1) := by
    unfold kvD
    rw [merge_keys]
    refine .inr ?_
    obtain ⟨r, hr, rfl⟩ := List.mem_map.mp h
    simp only [kvR, List.map_map]
    exact List.mem_map.mpr ⟨r, hr, rfl⟩
  have h2 := valD_some.mpr h1
  cases e : valD (kvD t) (kS z) with
  | none => rw [e] at h2; cases h2
  | some d =>
    have hm := valD_mem e
    obtain ⟨r, hr, ed⟩ := merge_vals (P := fun d => ∃ r ∈ t, d = D.str r.b) (m := kvR t) (l := []) (by simp) (by
      intro p hp
      obtain ⟨r, hr, rfl⟩ := List.mem_map.mp hp
      exact ⟨r, hr, rfl⟩) _ hm
    have ed : d = D.str r.b := ed
    subst ed
    have en : nx t z = r.b := by unfold nx; rw [e]
    rw [en]
    exact ⟨rfl, r, hr, rfl⟩
theorem nx_in {t : List Row} (hp : Pl0 t) {z : List Nat} (h : z ∈ t.map (·.a)) : nx t z = [] ∨ nx t z ∈ t.map (·.a) := by
  obtain ⟨_, r, hr, e⟩ := nx_val h
  rw [e]
  exact hp.h r hr
theorem nil_no {t : List Row} (hp : Pl0 t) : ([] : List Nat) ∉ t.map (·.a) := fun h => by
  obtain ⟨r, hr, e⟩ := List.mem_map.mp h
  exact hp.n r hr e
/-- does the way come back -/
def cb (t : List Row) (th : List Nat) : Nat → List Nat → Bool
  | 0, _ => false
  | k + 1, y => if nx t y = [] then false else if nx t y = th then true else cb t th k (nx t y)
theorem cb_closed {t : List Row} {th : List Nat} {ps : List (List Nat)} (hc : ∀ z ∈ ps, nx t z ∈ ps) (h1 : th ∉ ps) : ∀ (k : Nat) (y : List Nat), nx t y ∈ ps → cb t th k y = false
  | 0, _, _ => rfl
  | k + 1, y, h => by
    unfold cb
    split
    · rfl
    · rw [if_neg fun e => h1 (by rw [← e]; exact h)]
      exact cb_closed hc h1 k _ (hc _ h)
theorem ix_dict {t : List Row} {z : List Nat} {x : D} {s : S} (hx : dctOf s x = some (kvD t)) (hs : seqOf s x = none) (hn : ∀ a, x ≠ .str a) (h : z ∈ t.map (·.a)) : fIx x (.str z) s = .ok (.str (nx t z), s) := by
  obtain ⟨e, _⟩ := nx_val h
  unfold fIx
  split
  · rename_i a _ _ ; exact absurd rfl (hn a)
  · simp only [hs, hx]
    have ek : keyOf (.str z) = some (kS z) := rfl
    simp only [ek, e]
def hD (t : List Row) : D := .dct ((kvD t).map (·.1)) ((kvD t).map (·.2))
theorem zip_self {A B : Type} : ∀ l : List (A × B), (l.map (·.1)).zip (l.map (·.2)) = l
  | [] => rfl
  | p :: l => by simp [zip_self l]
theorem hD_dct (t : List Row) (s : S) : dctOf s (hD t) = some (kvD t) := by
  show some (((kvD t).map (·.1)).zip ((kvD t).map (·.2))) = _
  rw [zip_self]
theorem in_passed (x : List Nat) (ps : List (List Nat)) (r : List (Option D)) : fNotIn (.str x) (.loc 0) ⟨r, [.lst (ps.map D.str)]⟩ = .ok (.bl (!decide (x ∈ ps)), ⟨r, [.lst (ps.map D.str)]⟩) := by
  have h : qIn (.str x) (.loc 0) ⟨r, [.lst (ps.map D.str)]⟩ = some (decide (x ∈ ps)) := by
    unfold qIn
    simp only [seqOf, lstOf, List.getElem?_cons_zero]
    have hf : (flatD (.str x) && (ps.map D.str).all flatD) = true := by
      simp [flatD]
    rw [if_pos hf, List.any_map]
    congr 1
    rw [Bool.eq_iff_iff, List.any_eq_true]
    simp [eqD]
  unfold fNotIn
  rw [h]
section
variable {t : List Row} {th : List Nat} (hp : Pl0 t) (hl : t.length ≤ 1000) (hth : th ∈ t.map (·.a))
include hp hl hth
theorem while_ok : ∀ (k N : Nat) (ps : List (List Nat)) (y : List Nat), k < N → ps.Nodup → (∀ z ∈ ps, z ∈ t.map (·.a)) → th ∉ ps → (∀ z ∈ ps, nx t z ∈ ps ∨ nx t z = nx t y) → y ∈ t.map (·.a) → ps.length + k = t.length →
    ∃ s', whileN (tAndM (tBl (eOp fNe (eV 3) (eC (.str [])))) (tBl (eOp fNotIn (eV 3) (eV 2)))) b_holds_itself_4 N ⟨[some (hD t), some (.str th), some (.loc 0), some (.str (nx t y))], [.lst (ps.map D.str)]⟩ = if cb t th k y then .rt (.bl true) s' else .nx s'
  | k, 0, _, _, h, _, _, _, _, _, _ => by omega
  | k, N + 1, ps, y, hk, hnd, hsub, hno, hch, hy, hlen => by
    obtain ⟨s0, hs0⟩ : ∃ s0 : S, s0 = ⟨[some (hD t), some (.str th), some (.loc 0), some (.str (nx t y))], [.lst (ps.map D.str)]⟩ := ⟨_, rfl⟩
    have t0 : tBl (eOp fNe (eV 3) (eC (.str []))) s0 = .ok (decide (nx t y ≠ []), s0) := by
      rw [x_tBl, x_eOp, show eV 3 s0 = .ok (.str (nx t y), s0) by rw [hs0]; rfl, VL.R.bind_ok, x_eC, VL.R.bind_ok, fNeS]
      simp
    have t1 : tBl (eOp fNotIn (eV 3) (eV 2)) s0 = .ok (!decide (nx t y ∈ ps), s0) := by
      rw [x_tBl, x_eOp, show eV 3 s0 = .ok (.str (nx t y), s0) by rw [hs0]; rfl, VL.R.bind_ok, show eV 2 s0 = .ok (.loc 0, s0) by rw [hs0]; rfl, VL.R.bind_ok, hs0, in_passed]
      rfl
    rw [← hs0]
    unfold whileN
    rw [x_tAndM, t0]
    by_cases h1 : nx t y = []
    · refine ⟨s0, ?_⟩
      have : cb t th k y = false := by
        cases k with
        | zero => rfl
        | succ k => unfold cb; rw [if_pos h1]
      simp [h1, this]
    · have hd1 : decide (nx t y ≠ []) = true := decide_eq_true h1
      rw [hd1]
      simp only [VL.R.bind_ok, if_true, t1]
      by_cases h2 : nx t y ∈ ps
      · refine ⟨s0, ?_⟩
        have : cb t th k y = false := cb_closed (ps := ps) (fun z hz => (hch z hz).elim id fun e => by rw [e]; exact h2) hno k y h2
        simp [h2, this]
      · have hxn : nx t y ∈ t.map (·.a) := (nx_in hp hy).resolve_left h1
        have hk1 : ∃ k', k = k' + 1 := by
          cases k with
          | succ k => exact ⟨k, rfl⟩
          | zero =>
            have := nodup_len (t := nx t y :: ps) (a := t.map (·.a)) (List.nodup_cons.mpr ⟨h2, hnd⟩) fun c hc => by
              rcases List.mem_cons.mp hc with rfl | hc
              · exact hxn
              · exact hsub c hc
            rw [List.length_cons, List.length_map] at this
            omega
        obtain ⟨k', rfl⟩ := hk1
        have hd2 : (!decide (nx t y ∈ ps)) = true := by simp [h2]
        rw [hd2]
        simp only [VL.R.to_ok, if_true]
        have e3 : tBl (eOp fEq (eV 3) (eV 1)) s0 = .ok (decide (nx t y = th), s0) := by
          rw [x_tBl, x_eOp, show eV 3 s0 = .ok (.str (nx t y), s0) by rw [hs0]; rfl, VL.R.bind_ok, show eV 1 s0 = .ok (.str th, s0) by rw [hs0]; rfl, VL.R.bind_ok, fEqS]
          rfl
        by_cases h3 : nx t y = th
        · refine ⟨s0, ?_⟩
          have hcb : cb t th (k' + 1) y = true := by unfold cb; rw [if_neg h1, if_pos h3]
          have e1 : s_holds_itself_1 s0 = .rt (.bl true) s0 := by
            rw [s_holds_itself_1, x_sIf, e3]
            simp [h3]
          have hb : b_holds_itself_4 s0 = .rt (.bl true) s0 := by rw [b_holds_itself_4, x_sSeq, e1]; rfl
          rw [hb, hcb]
          rfl
        · have hcb : cb t th (k' + 1) y = cb t th k' (nx t y) := by
            conv => lhs; unfold cb
            rw [if_neg h1, if_neg h3]
          have e1 : s_holds_itself_1 s0 = .nx s0 := by
            rw [s_holds_itself_1, x_sIf, e3]
            simp [h3]
          have hpl := nodup_len hnd hsub
          rw [List.length_map] at hpl
          have e2 : s_holds_itself_2 s0 = .nx ⟨[some (hD t), some (.str th), some (.loc 0), some (.str (nx t y))], [.lst ((ps ++ [nx t y]).map D.str)]⟩ := by
            have : ps.length < SZ := by rw [SZv]; omega
            rw [hs0]
            simp [s_holds_itself_2, this]
          have e4 : s_holds_itself_3 ⟨[some (hD t), some (.str th), some (.loc 0), some (.str (nx t y))], [.lst ((ps ++ [nx t y]).map D.str)]⟩ = .nx ⟨[some (hD t), some (.str th), some (.loc 0), some (.str (nx t (nx t y)))], [.lst ((ps ++ [nx t y]).map D.str)]⟩ := by
            have := ix_dict (t := t) (z := nx t y) (x := hD t) (s := ⟨[some (hD t), some (.str th), some (.loc 0), some (.str (nx t y))], [.lst ((ps ++ [nx t y]).map D.str)]⟩) (hD_dct t _) rfl (fun a e => by cases e) hxn
            rw [s_holds_itself_3, x_sAsg, x_eOp]
            rw [show eV 0 (⟨[some (hD t), some (.str th), some (.loc 0), some (.str (nx t y))], [.lst ((ps ++ [nx t y]).map D.str)]⟩ : S) = .ok (hD t, ⟨[some (hD t), some (.str th), some (.loc 0), some (.str (nx t y))], [.lst ((ps ++ [nx t y]).map D.str)]⟩) from rfl, VL.R.bind_ok]
            rw [show eV 3 (⟨[some (hD t), some (.str th), some (.loc 0), some (.str (nx t y))], [.lst ((ps ++ [nx t y]).map D.str)]⟩ : S) = .ok (.str (nx t y), ⟨[some (hD t), some (.str th), some (.loc 0), some (.str (nx t y))], [.lst ((ps ++ [nx t y]).map D.str)]⟩) from rfl, VL.R.bind_ok, this]
            rfl
          obtain ⟨s', e⟩ := while_ok k' N (ps ++ [nx t y]) (nx t y) (by omega) (by
            rw [List.nodup_append]
            exact ⟨hnd, by simp, fun a ha b hb => by simp at hb; subst hb; exact fun e => h2 (by rw [← e]; exact ha)⟩) (fun z hz => by
            rcases List.mem_append.mp hz with hz | hz
            · exact hsub z hz
            · simp at hz; subst hz; exact hxn) (fun h => by
            rcases List.mem_append.mp h with h | h
            · exact hno h
            · simp at h; exact h3 h.symm) (fun z hz => by
            rcases List.mem_append.mp hz with hz | hz
            · rcases hch z hz with h | h
              · exact .inl (List.mem_append.mpr (.inl h))
              · exact .inl (List.mem_append.mpr (.inr (by simp [h])))
            · simp at hz; subst hz; exact .inr rfl) hxn (by rw [List.length_append]; simp; omega)
          refine ⟨s', ?_⟩
          have hb : b_holds_itself_4 s0 = .nx ⟨[some (hD t), some (.str th), some (.loc 0), some (.str (nx t (nx t y)))], [.lst ((ps ++ [nx t y]).map D.str)]⟩ := by
            rw [b_holds_itself_4, x_sSeq, e1, VL.C.seq_nx, x_sSeq, e2, VL.C.seq_nx, e4]
          rw [hb, VL.C.loop_nx, e, hcb]
theorem holds_ok : f_holds_itself [hD t, .str th] = .ok (.bl (cb t th t.length th)) := by
  let s0 : S := ⟨[some (hD t), some (.str th), none, none], []⟩
  have e5 : s_holds_itself_5 s0 = .nx ⟨[some (hD t), some (.str th), some (.loc 0), none], [.lst []]⟩ := rfl
  have e6 : s_holds_itself_6 ⟨[some (hD t), some (.str th), some (.loc 0), none], [.lst []]⟩ = .nx ⟨[some (hD t), some (.str th), some (.loc 0), some (.str (nx t th))], [.lst []]⟩ := by
    have := ix_dict (t := t) (z := th) (x := hD t) (s := ⟨[some (hD t), some (.str th), some (.loc 0), none], [.lst []]⟩) (hD_dct t _) rfl (fun a e => by cases e) hth
    rw [s_holds_itself_6, x_sAsg, x_eOp]
    rw [show eV 0 (⟨[some (hD t), some (.str th), some (.loc 0), none], [.lst []]⟩ : S) = .ok (hD t, ⟨[some (hD t), some (.str th), some (.loc 0), none], [.lst []]⟩) from rfl, VL.R.bind_ok]
    rw [show eV 1 (⟨[some (hD t), some (.str th), some (.loc 0), none], [.lst []]⟩ : S) = .ok (.str th, ⟨[some (hD t), some (.str th), some (.loc 0), none], [.lst []]⟩) from rfl, VL.R.bind_ok, this]
    rfl
  obtain ⟨s', e7⟩ := while_ok hp hl hth t.length 1000000 [] th (by omega) List.nodup_nil (by simp) (by simp) (by simp) hth (by simp)
  have e7 : s_holds_itself_7 ⟨[some (hD t), some (.str th), some (.loc 0), some (.str (nx t th))], [.lst []]⟩ = _ := e7
  have key : m_holds_itself s0 = .rt (.bl (cb t th t.length th)) s' := by
    rw [m_holds_itself, x_sSeq, e5, VL.C.seq_nx, x_sSeq, e6, VL.C.seq_nx, x_sSeq, e7]
    cases cb t th t.length th <;> rfl
  exact pure_rt rfl ⟨s', key⟩ rfl
end
end K76
namespace K76
open PySem L2 VL
theorem rng_succ (lo : Int) (n : Nat) : rng lo (n + 1) = .int lo :: rng (lo + 1) n := by
  unfold rng
  rw [List.range_succ_eq_map, List.map_cons, List.map_map]
  congr 1
  · simp
  · apply List.map_congr_left
    intro a _
    simp only [Function.comp]
    congr 1
    omega
theorem kvR_len (t : List Row) : (kvR t).length = t.length := by simp [kvR]
theorem fill_ok {x0 x1 : Option D} : ∀ (l : List Row) (acc : List (Key × D)) (q3 q4 : Option D), acc.length + l.length ≤ 2000 →
    ∃ q3' q4', forL (gTupM (gsCons (gN 3) (gsCons (gN 4) gsNil))) b__law_comes_back_1 (l.map rowD) ⟨[x0, x1, some (.loc 0), q3, q4, none, none], [.dct acc]⟩ = .nx ⟨[x0, x1, some (.loc 0), q3', q4', none, none], [.dct (mergeD acc (kvR l))]⟩
  | [], acc, q3, q4, _ => ⟨q3, q4, rfl⟩
  | r :: l, acc, q3, q4, h => by
    rw [List.length_cons] at h
    have hz : acc.length < SZ := by rw [SZv]; omega
    obtain ⟨q3', q4', e⟩ := fill_ok (x0 := x0) (x1 := x1) l (putD acc (kS r.a) (.str r.b)) (some (.str r.a)) (some (.str r.b)) (by have := put_len (l := acc) (k := kS r.a) (d := D.str r.b); omega)
    refine ⟨q3', q4', ?_⟩
    have g : (gTupM (gsCons (gN 3) (gsCons (gN 4) gsNil))) (rowD r) ⟨[x0, x1, some (.loc 0), q3, q4, none, none], [.dct acc]⟩ = .nx ⟨[x0, x1, some (.loc 0), some (.str r.a), some (.str r.b), none, none], [.dct acc]⟩ := by simp [rowD]
    have b : b__law_comes_back_1 ⟨[x0, x1, some (.loc 0), some (.str r.a), some (.str r.b), none, none], [.dct acc]⟩ = .nx ⟨[x0, x1, some (.loc 0), some (.str r.a), some (.str r.b), none, none], [.dct (putD acc (kS r.a) (.str r.b))]⟩ := by
      have ek : keyOf (.str r.a) = some (kS r.a) := rfl
      simp [b__law_comes_back_1, fSet, ek, hz]
    rw [List.map_cons, forL_cons, g, VL.C.seq_nx, b, VL.C.loop_nx, e]
    rfl
section
variable {t : List Row} {th : List Nat} (hp : Pl0 t) (hl : t.length ≤ 1000) (hth : th ∈ t.map (·.a))
include hp hth
theorem turns_ok {x0 q3 q4 : Option D} : ∀ (k : Nat) (lo : Int) (y : List Nat) (q6 : Option D), y ∈ t.map (·.a) →
    ∃ s', (cb t th k y = true ∧ forL (gN 6) b__law_comes_back_5 (rng lo k) ⟨[x0, some (.str th), some (.loc 0), q3, q4, some (.str y), q6], [.dct (kvD t)]⟩ = .rt (.bl true) s') ∨
      (cb t th k y = false ∧ (forL (gN 6) b__law_comes_back_5 (rng lo k) ⟨[x0, some (.str th), some (.loc 0), q3, q4, some (.str y), q6], [.dct (kvD t)]⟩ = .nx s' ∨ forL (gN 6) b__law_comes_back_5 (rng lo k) ⟨[x0, some (.str th), some (.loc 0), q3, q4, some (.str y), q6], [.dct (kvD t)]⟩ = .rt (.bl false) s'))
  | 0, lo, y, q6, hy => ⟨_, .inr ⟨rfl, .inl rfl⟩⟩
  | k + 1, lo, y, q6, hy => by
    obtain ⟨s1, hs1⟩ : ∃ s1 : S, s1 = ⟨[x0, some (.str th), some (.loc 0), q3, q4, some (.str y), some (.int lo)], [.dct (kvD t)]⟩ := ⟨_, rfl⟩
    obtain ⟨s2, hs2⟩ : ∃ s2 : S, s2 = ⟨[x0, some (.str th), some (.loc 0), q3, q4, some (.str (nx t y)), some (.int lo)], [.dct (kvD t)]⟩ := ⟨_, rfl⟩
    have g : gN 6 (.int lo) ⟨[x0, some (.str th), some (.loc 0), q3, q4, some (.str y), q6], [.dct (kvD t)]⟩ = .nx s1 := by rw [hs1]; rfl
    have e2 : s__law_comes_back_2 s1 = .nx s2 := by
      have := ix_dict (t := t) (z := y) (x := .loc 0) (s := s1) (by rw [hs1]; rfl) (by rw [hs1]; rfl) (fun a e => by cases e) hy
      rw [s__law_comes_back_2, x_sAsg, x_eOp, show eV 2 s1 = .ok (.loc 0, s1) by rw [hs1]; rfl, VL.R.bind_ok, show eV 5 s1 = .ok (.str y, s1) by rw [hs1]; rfl, VL.R.bind_ok, this, hs1, hs2]
      rfl
    have e3 : s__law_comes_back_3 s2 = if nx t y = [] then .rt (.bl false) s2 else .nx s2 := by
      have : tBl (eOp fEq (eV 5) (eC (.str []))) s2 = .ok (decide (nx t y = []), s2) := by
        rw [x_tBl, x_eOp, show eV 5 s2 = .ok (.str (nx t y), s2) by rw [hs2]; rfl, VL.R.bind_ok, x_eC, VL.R.bind_ok, fEqS]
        rfl
      rw [s__law_comes_back_3, x_sIf, this]
      by_cases h : nx t y = [] <;> simp [h]
    have e4 : s__law_comes_back_4 s2 = if nx t y = th then .rt (.bl true) s2 else .nx s2 := by
      have : tBl (eOp fEq (eV 5) (eV 1)) s2 = .ok (decide (nx t y = th), s2) := by
        rw [x_tBl, x_eOp, show eV 5 s2 = .ok (.str (nx t y), s2) by rw [hs2]; rfl, VL.R.bind_ok, show eV 1 s2 = .ok (.str th, s2) by rw [hs2]; rfl, VL.R.bind_ok, fEqS]
        rfl
      rw [s__law_comes_back_4, x_sIf, this]
      by_cases h : nx t y = th <;> simp [h]
    have hb : b__law_comes_back_5 s1 = if nx t y = [] then .rt (.bl false) s2 else if nx t y = th then .rt (.bl true) s2 else .nx s2 := by
      rw [b__law_comes_back_5, x_sSeq, e2, VL.C.seq_nx, x_sSeq, e3]
      by_cases h : nx t y = []
      · simp [h]
      · rw [if_neg h, if_neg h, VL.C.seq_nx, e4]
    rw [rng_succ, forL_cons, g, VL.C.seq_nx, hb]
    by_cases h1 : nx t y = []
    · refine ⟨s2, .inr ⟨by unfold cb; rw [if_pos h1], .inr ?_⟩⟩
      rw [if_pos h1]; rfl
    · by_cases h2 : nx t y = th
      · refine ⟨s2, .inl ⟨by unfold cb; rw [if_neg h1, if_pos h2], ?_⟩⟩
        rw [if_neg h1, if_pos h2]; rfl
      · have hcb : cb t th (k + 1) y = cb t th k (nx t y) := by
          conv => lhs; unfold cb
          rw [if_neg h1, if_neg h2]
        rw [if_neg h1, if_neg h2, VL.C.loop_nx, hcb, hs2]
        exact turns_ok k (lo + 1) (nx t y) (some (.int lo)) ((nx_in hp hy).resolve_left h1)
include hl in
theorem back_ok : f__law_comes_back [tabD t, .str th] = .ok (.bl (cb t th t.length th)) := by
  let s0 : S := ⟨[some (tabD t), some (.str th), none, none, none, none, none], []⟩
  have e6 : s__law_comes_back_6 s0 = .nx ⟨[some (tabD t), some (.str th), some (.loc 0), none, none, none, none], [.dct []]⟩ := rfl
  obtain ⟨q3, q4, e⟩ := fill_ok (x0 := some (tabD t)) (x1 := some (.str th)) t [] none none (by simp; omega)
  have e7 : s__law_comes_back_7 ⟨[some (tabD t), some (.str th), some (.loc 0), none, none, none, none], [.dct []]⟩ = .nx ⟨[some (tabD t), some (.str th), some (.loc 0), q3, q4, none, none], [.dct (kvD t)]⟩ := by
    rw [s__law_comes_back_7, x_sFor]
    exact e
  have e8 : s__law_comes_back_8 ⟨[some (tabD t), some (.str th), some (.loc 0), q3, q4, none, none], [.dct (kvD t)]⟩ = .nx ⟨[some (tabD t), some (.str th), some (.loc 0), q3, q4, some (.str th), none], [.dct (kvD t)]⟩ := rfl
  have hit : iRg1M (aCons (eCB cLen (aCons (eV 0) aNil)) aNil) ⟨[some (tabD t), some (.str th), some (.loc 0), q3, q4, some (.str th), none], [.dct (kvD t)]⟩ = .ok (rng 0 t.length, ⟨[some (tabD t), some (.str th), some (.loc 0), q3, q4, some (.str th), none], [.dct (kvD t)]⟩) := by
    have : ((t.length : Nat) : Int) < 4611686018427387904 := by omega
    simp [tabD, this]
  obtain ⟨s', h | ⟨h, h2⟩⟩ := turns_ok hp hth (x0 := some (tabD t)) (q3 := q3) (q4 := q4) t.length 0 th none hth
  · have key : m__law_comes_back s0 = .rt (.bl true) s' := by
      rw [m__law_comes_back, x_sSeq, e6, VL.C.seq_nx, x_sSeq, e7, VL.C.seq_nx, x_sSeq, e8, VL.C.seq_nx, x_sSeq, s__law_comes_back_9, x_sFor, hit]
      simp only [VL.R.to_ok]
      rw [h.2]
      rfl
    rw [h.1]
    exact pure_rt rfl ⟨s', key⟩ rfl
  · have key : m__law_comes_back s0 = .rt (.bl false) s' := by
      rw [m__law_comes_back, x_sSeq, e6, VL.C.seq_nx, x_sSeq, e7, VL.C.seq_nx, x_sSeq, e8, VL.C.seq_nx, x_sSeq, s__law_comes_back_9, x_sFor, hit]
      simp only [VL.R.to_ok]
      rcases h2 with h2 | h2 <;> rw [h2] <;> rfl
    rw [h]
    exact pure_rt rfl ⟨s', key⟩ rfl
end
/-! ### the first fault -/
def nm (t : List Row) (i : Nat) : List Nat := match t[i]? with
  | some r => r.a
  | none => []
noncomputable def first1 (t : List Row) : Option (Nat × List Nat) := (List.range' 0 t.length).findSome? fun i => (flt t i).map fun z => (i, z)
def first2 (t : List Row) : Option (Nat × List Nat) := (List.range' 0 t.length).findSome? fun i => if cb t (nm t i) t.length (nm t i) = true then some (i, zKnot) else none
noncomputable def first (t : List Row) : Option (Nat × List Nat) := match first1 t with
  | some p => some p
  | none => first2 t
theorem nm_at {t : List Row} {i : Nat} (h : i < t.length) : nm t i = t[i].a ∧ nm t i ∈ t.map (·.a) := by
  have e : nm t i = t[i].a := by unfold nm; rw [List.getElem?_eq_getElem h]
  exact ⟨e, by rw [e]; exact List.mem_map.mpr ⟨t[i], List.getElem_mem h, rfl⟩⟩
theorem pl_of {t : List Row} (h : first1 t = none) : Pl0 t := by
  have hf : ∀ r ∈ t, isN r.a = true ∧ bad3 t r = false := fun r hr => by
    obtain ⟨i, hi, e⟩ := List.getElem_of_mem hr
    have h1 := List.findSome?_eq_none_iff.mp h i (by rw [List.mem_range'_1]; omega)
    have h2 : flt t i = none := by
      cases e2 : flt t i with
      | none => rfl
      | some z => rw [e2] at h1; cases h1
    unfold flt at h2
    rw [List.getElem?_eq_getElem hi, e] at h2
    dsimp only at h2
    split at h2
    · cases h2
    · rename_i q1
      split at h2
      · cases h2
      · split at h2
        · cases h2
        · rename_i q3
          exact ⟨by cases e3 : isN r.a with
            | true => rfl
            | false => exact absurd e3 q1, by cases e3 : bad3 t r with
            | false => rfl
            | true => exact absurd e3 q3⟩
  refine ⟨fun r hr e => ?_, fun r hr => ?_⟩
  · have := (hf r hr).1
    rw [e] at this
    cases this
  · have := (hf r hr).2
    unfold bad3 at this
    by_cases hb : r.b = []
    · exact .inl hb
    · refine .inr ?_
      simp only [hb, not_false_eq_true, decide_true, Bool.true_and, ne_eq] at this
      simpa using this
end K76
namespace K76
open PySem L2 VL
theorem noLoc_hD (t : List Row) : noLoc (hD t) = true := by
  show noLocs ((kvD t).map (·.2)) = true
  refine noLocs_all fun d hd => ?_
  obtain ⟨p, hp, rfl⟩ := List.mem_map.mp hd
  exact merge_vals (P := fun d => noLoc d = true) (m := kvR t) (l := []) (by simp) (by
    intro p hp
    obtain ⟨r, hr, rfl⟩ := List.mem_map.mp hp
    rfl) p hp
theorem check_ok {t : List Row} (h : Ok t) : f_check_room [tabD t] = match first t with
    | none => .ok .non
    | some (i, z) => .ex ⟨"BadRoom", [("place", .int i), ("fault", .str z)]⟩ := by
  have hl : ((t.length : Nat) : Int) < 4611686018427387904 := by have := h.2; omega
  have hl2 := h.2
  have key := find_rngC (g := gN 1) (b := b_check_room_3) (fun s => ∃ q1 q2, s = ⟨[some (tabD t), q1, q2, none, none, none], []⟩) (fun i => (flt t i).map fun z => (i, z)) (fun p => C.ex ⟨"BadRoom", [("place", .int p.1), ("fault", .str p.2)]⟩) (fun _ _ _ => rfl) (n := t.length) (m := t.length) (k := 0) (s := ⟨[some (tabD t), none, none, none, none, none], []⟩) (by omega) ⟨_, _, rfl⟩ (fun i s hi ⟨q1, q2, e⟩ => by
    subst e
    refine ⟨⟨[some (tabD t), some (.int i), q2, none, none, none], []⟩, rfl, ?_⟩
    have s1 : s_check_room_1 ⟨[some (tabD t), some (.int i), q2, none, none, none], []⟩ = .nx ⟨[some (tabD t), some (.int i), some (optS (flt t i)), none, none, none], []⟩ := by
      simp [s_check_room_1, fault_ok h hi, noLoc_tab]
    cases hf : flt t i with
    | none =>
      rw [hf] at s1
      have s2 : s_check_room_2 ⟨[some (tabD t), some (.int i), some .non, none, none, none], []⟩ = .nx ⟨[some (tabD t), some (.int i), some .non, none, none, none], []⟩ := by
        simp [s_check_room_2]
      exact ⟨_, .inl (by rw [b_check_room_3, x_sSeq, s1, VL.C.seq_nx]; exact s2), _, _, rfl⟩
    | some z =>
      rw [hf] at s1
      have hz := flt_short hf
      have s2 : s_check_room_2 ⟨[some (tabD t), some (.int i), some (.str z), none, none, none], []⟩ = .ex ⟨"BadRoom", [("place", .int i), ("fault", .str z)]⟩ ⟨[some (tabD t), some (.int i), some (.str z), none, none, none], []⟩ := by
        have e1 : shortD (.int (i : Int)) = true := shortD_int (by omega) (by omega)
        have e2 : shortD (.str z) = true := shortD_str (by omega)
        simp [s_check_room_2, e1, e2]
      exact ⟨_, by rw [b_check_room_3, x_sSeq, s1, VL.C.seq_nx]; exact s2⟩)
  have h5 : s_check_room_5 ⟨startD 6 [tabD t], []⟩ = forL (gN 1) b_check_room_3 (rng 0 t.length) ⟨[some (tabD t), none, none, none, none, none], []⟩ := by
    simp [s_check_room_5, tabD, hl]
  cases hf : first1 t with
  | some p =>
    obtain ⟨i, z⟩ := p
    rw [show (List.range' 0 t.length).findSome? _ = some (i, z) from hf] at key
    obtain ⟨s', e⟩ := key
    have e : forL (gN 1) b_check_room_3 (rng 0 t.length) ⟨[some (tabD t), none, none, none, none, none], []⟩ = .ex ⟨"BadRoom", [("place", .int i), ("fault", .str z)]⟩ s' := e
    unfold first
    rw [hf]
    exact pure_ex rfl ⟨s', by rw [m_check_room, x_sSeq, h5, e]; rfl⟩ rfl
  | none =>
    rw [show (List.range' 0 t.length).findSome? _ = none from hf] at key
    obtain ⟨s', e, q1, q2, rfl⟩ := key
    have e : forL (gN 1) b_check_room_3 (rng 0 t.length) ⟨[some (tabD t), none, none, none, none, none], []⟩ = .nx ⟨[some (tabD t), q1, q2, none, none, none], []⟩ := e
    have hp := pl_of hf
    have h6 : s_check_room_6 ⟨[some (tabD t), q1, q2, none, none, none], []⟩ = .nx ⟨[some (tabD t), q1, q2, some (hD t), none, none], []⟩ := by
      have : eFrz (fCB gDict (aCons (eV 0) aNil)) ⟨[some (tabD t), q1, q2, none, none, none], []⟩ = .ok (hD t, ⟨[some (tabD t), q1, q2, none, none, none], []⟩) := by
        rw [x_eFrz, x_fCB]
        have : gDict [tabD t] ⟨[some (tabD t), q1, q2, none, none, none], []⟩ = .ok (.dct (kvD t), ⟨[some (tabD t), q1, q2, none, none, none], []⟩) := by
          unfold gDict tabD
          dsimp only
          rw [prs_rows]
          rfl
        rw [x_aCons, show eV 0 (⟨[some (tabD t), q1, q2, none, none, none], []⟩ : S) = .ok (tabD t, ⟨[some (tabD t), q1, q2, none, none, none], []⟩) from rfl]
        simp only [VL.R.bind_ok, x_aNil, this]
        rfl
      rw [s_check_room_6, x_sAsg, this]
      rfl
    have hlen : (enumL (t.map rowD)).length = t.length := by rw [enumL_length, List.length_map]
    have key2 := find_enum (g := gTupM (gsCons (gN 1) (gsCons (gTupM (gsCons (gN 4) (gsCons (gN 5) gsNil))) gsNil))) (b := b_check_room_4) (fun s => ∃ q1 q4 q5, s = ⟨[some (tabD t), q1, q2, some (hD t), q4, q5], []⟩) (fun i => if cb t (nm t i) t.length (nm t i) = true then some (i, zKnot) else none) (fun p => C.ex ⟨"BadRoom", [("place", .int p.1), ("fault", .str p.2)]⟩) (fun _ _ _ => rfl) (es := enumL (t.map rowD)) (m := t.length) (k := 0) (s := ⟨[some (tabD t), q1, q2, some (hD t), none, none], []⟩) (by rw [hlen]; omega) ⟨_, _, _, rfl⟩ (fun i hi s ⟨q1, q4, q5, e⟩ => by
      subst e
      rw [hlen] at hi
      obtain ⟨en, hn⟩ := nm_at hi
      have he : (enumL (t.map rowD))[i]'(by rw [hlen]; exact hi) = .tup [.int (i : Nat), rowD t[i]] := by
        have := enumL_at (l := t.map rowD) (i := i) (by rw [List.length_map]; exact hi)
        rw [List.getElem?_eq_getElem (by rw [hlen]; exact hi)] at this
        rw [Option.some.inj this]
        simp
      rw [he]
      refine ⟨⟨[some (tabD t), some (.int i), q2, some (hD t), some (.str (nm t i)), some (.str t[i].b)], []⟩, by simp [rowD, en], ?_⟩
      have ho := holds_ok hp hl2 hn
      have nl : noLocs [hD t, .str (nm t i)] = true := by simp [noLoc_hD]
      have ec : tTruN (eCall f_holds_itself (aCons (eV 3) (aCons (eV 4) aNil))) ⟨[some (tabD t), some (.int i), q2, some (hD t), some (.str (nm t i)), some (.str t[i].b)], []⟩ = .ok (cb t (nm t i) t.length (nm t i), ⟨[some (tabD t), some (.int i), q2, some (hD t), some (.str (nm t i)), some (.str t[i].b)], []⟩) := by
        rw [x_tTruN, x_eCall, x_aCons, show eV 3 (⟨[some (tabD t), some (.int i), q2, some (hD t), some (.str (nm t i)), some (.str t[i].b)], []⟩ : S) = .ok (hD t, ⟨[some (tabD t), some (.int i), q2, some (hD t), some (.str (nm t i)), some (.str t[i].b)], []⟩) from rfl, VL.R.bind_ok, x_aCons, show eV 4 (⟨[some (tabD t), some (.int i), q2, some (hD t), some (.str (nm t i)), some (.str t[i].b)], []⟩ : S) = .ok (.str (nm t i), ⟨[some (tabD t), some (.int i), q2, some (hD t), some (.str (nm t i)), some (.str t[i].b)], []⟩) from rfl]
        simp only [VL.R.bind_ok, x_aNil, nl, if_true, ho]
        rfl
      cases hc : cb t (nm t i) t.length (nm t i) with
      | false =>
        rw [hc] at ec
        exact ⟨_, .inl (by rw [b_check_room_4, x_sIf, ec]; rfl), _, _, _, rfl⟩
      | true =>
        rw [hc] at ec
        refine ⟨⟨[some (tabD t), some (.int i), q2, some (hD t), some (.str (nm t i)), some (.str t[i].b)], []⟩, ?_⟩
        have e1 : shortD (.int (i : Int)) = true := shortD_int (by omega) (by omega)
        have e2 : shortD (.str zKnot) = true := shortD_str (by decide)
        have e2 : shortD (.str [107, 110, 111, 116]) = true := e2
        rw [b_check_room_4, x_sIf, ec]
        simp [e1, e2]
        rfl)
    have h7 : s_check_room_7 ⟨[some (tabD t), q1, q2, some (hD t), none, none], []⟩ = forL (gTupM (gsCons (gN 1) (gsCons (gTupM (gsCons (gN 4) (gsCons (gN 5) gsNil))) gsNil))) b_check_room_4 (enumL (t.map rowD)) ⟨[some (tabD t), q1, q2, some (hD t), none, none], []⟩ := by
      simp [s_check_room_7, tabD]
    rw [List.drop_zero, ← h7] at key2
    have hm : m_check_room ⟨startD 6 [tabD t], []⟩ = s_check_room_7 ⟨[some (tabD t), q1, q2, some (hD t), none, none], []⟩ := by
      rw [m_check_room, x_sSeq, h5, e, VL.C.seq_nx, x_sSeq, h6, VL.C.seq_nx]
    have ef : first t = first2 t := by unfold first; rw [hf]
    rw [ef]
    cases hf2 : first2 t with
    | none =>
      rw [show (List.range' 0 t.length).findSome? _ = none from hf2] at key2
      obtain ⟨s', e, _⟩ := key2
      exact pure_nx rfl ⟨s', hm.trans e⟩
    | some p =>
      obtain ⟨i, z⟩ := p
      rw [show (List.range' 0 t.length).findSome? _ = some (i, z) from hf2] at key2
      obtain ⟨s', e⟩ := key2
      exact pure_ex rfl ⟨s', hm.trans e⟩ rfl
def dueG : Option (Nat × List Nat) → D
  | none => .non
  | some (i, z) => .tup [.int i, .str z]
def toldG : Option (Nat × List Nat) → D
  | none => .tup [.bl false, .non]
  | some (i, z) => .tup [.bl true, .tup [.int i, .str z]]
theorem told_ok {t : List Row} (h : Ok t) : f__law_told [tabD t] = .ok (toldG (first t)) := by
  have hc := check_ok h
  cases hf : first t with
  | none =>
    rw [hf] at hc
    refine pure_rt rfl ⟨_, tryAs_rt (s1 := ⟨[some (tabD t), none], []⟩) ?_⟩ rfl
    simp [hc, noLoc_tab, SZv, toldG]
  | some p =>
    obtain ⟨i, z⟩ := p
    rw [hf] at hc
    refine pure_rt rfl ⟨⟨[some (tabD t), none], []⟩, tryA_ex (s1 := ⟨[some (tabD t), none], []⟩) ?_ (by simp)⟩ rfl
    simp [hc, noLoc_tab]
theorem due_ok {t : List Row} (h : Ok t) : f__law_due [tabD t] = .ok (dueG (first t)) := by
  have hl : ((t.length : Nat) : Int) < 4611686018427387904 := by have := h.2; omega
  have hl2 := h.2
  have z2 : 2 ≤ SZ := by rw [SZv]; omega
  have key := find_rngC (g := gN 1) (b := b__law_due_6) (fun s => ∃ q0 q1 q2 q3 q4, s = L__law_due.S { v_room := some (tabD t), v_at := q0, v_thing := q1, v_holder := q2, v_one := q3, v_other := q4 }) (fun i => (flt t i).map fun z => (i, z)) (fun p => C.rt (.tup [.int p.1, .str p.2])) (fun _ _ _ => rfl) (n := t.length) (m := t.length) (k := 0) (s := L__law_due.S { v_room := some (tabD t) }) (by omega) ⟨_, _, _, _, _, rfl⟩ (fun i s hi ⟨q0, q1, q2, q3, q4, e⟩ => by
    subst e
    refine ⟨L__law_due.S { v_room := some (tabD t), v_at := some (.int i), v_thing := q1, v_holder := q2, v_one := q3, v_other := q4 }, rfl, ?_⟩
    have st := due_step (List.getElem?_eq_getElem hi) h { v_room := some (tabD t), v_at := some (.int i), v_thing := q1, v_holder := q2, v_one := q3, v_other := q4 } rfl rfl
    cases hf : flt t i with
    | none =>
      rw [hf] at st
      obtain ⟨s', ⟨p1, p2, p3, p4, es⟩, e⟩ := st
      exact ⟨s', .inl e, _, _, _, _, _, es⟩
    | some z =>
      rw [hf] at st
      exact st)
  have h8 : s__law_due_8 ⟨startD 6 [tabD t], []⟩ = forL (gN 1) b__law_due_6 (rng 0 t.length) (L__law_due.S { v_room := some (tabD t) }) := by
    simp [s__law_due_8, tabD, hl, L__law_due.S]
  cases hf : first1 t with
  | some p =>
    obtain ⟨i, z⟩ := p
    rw [show (List.range' 0 t.length).findSome? _ = some (i, z) from hf] at key
    obtain ⟨s', e⟩ := key
    have e : forL (gN 1) b__law_due_6 (rng 0 t.length) (L__law_due.S { v_room := some (tabD t) }) = .rt (.tup [.int i, .str z]) s' := e
    unfold first
    rw [hf]
    exact pure_rt rfl ⟨s', by rw [m__law_due, x_sSeq, h8, e]; rfl⟩ rfl
  | none =>
    rw [show (List.range' 0 t.length).findSome? _ = none from hf] at key
    obtain ⟨s', e, p0, p1, p2, p3, p4, rfl⟩ := key
    have e : forL (gN 1) b__law_due_6 (rng 0 t.length) (L__law_due.S { v_room := some (tabD t) }) = .nx (L__law_due.S { v_room := some (tabD t), v_at := p0, v_thing := p1, v_holder := p2, v_one := p3, v_other := p4 }) := e
    have hp := pl_of hf
    have key2 := find_rngC (g := gN 1) (b := b__law_due_7) (fun s => ∃ q0, s = L__law_due.S { v_room := some (tabD t), v_at := q0, v_thing := p1, v_holder := p2, v_one := p3, v_other := p4 }) (fun i => if cb t (nm t i) t.length (nm t i) = true then some (i, zKnot) else none) (fun p => C.rt (.tup [.int p.1, .str p.2])) (fun _ _ _ => rfl) (n := t.length) (m := t.length) (k := 0) (s := L__law_due.S { v_room := some (tabD t), v_at := p0, v_thing := p1, v_holder := p2, v_one := p3, v_other := p4 }) (by omega) ⟨_, rfl⟩ (fun i s hi ⟨q0, e⟩ => by
      subst e
      obtain ⟨W, hW⟩ : ∃ W : L__law_due, W = { v_room := some (tabD t), v_at := some (.int i), v_thing := p1, v_holder := p2, v_one := p3, v_other := p4 } := ⟨_, rfl⟩
      refine ⟨W.S, by rw [hW]; rfl, ?_⟩
      obtain ⟨en, hn⟩ := nm_at hi
      have hb := back_ok hp hl2 hn
      have y0 : eV 0 W.S = .ok (tabD t, W.S) := by rw [hW]; rfl
      have y1 : eV 1 W.S = .ok (.int (i : Nat), W.S) := by rw [hW]; rfl
      have ei : eOp fIx (eOp fIx (eV 0) (eV 1)) (eC (.int 0)) W.S = .ok (.str (nm t i), W.S) := by
        rw [x_eOp, x_eOp, y0, VL.R.bind_ok, y1, VL.R.bind_ok, ixT (List.getElem?_eq_getElem hi), VL.R.bind_ok, x_eC, VL.R.bind_ok, en]
        exact fIxT (l := [.str t[i].a, .str t[i].b]) (k := 0) (by simp)
      have nl : noLocs [tabD t, .str (nm t i)] = true := by simp [noLoc_tab]
      have ec : tTruN (eCall f__law_comes_back (aCons (eV 0) (aCons (eOp fIx (eOp fIx (eV 0) (eV 1)) (eC (.int 0))) aNil))) W.S = .ok (cb t (nm t i) t.length (nm t i), W.S) := by
        rw [x_tTruN, x_eCall, x_aCons, y0, VL.R.bind_ok, x_aCons, ei]
        simp only [VL.R.bind_ok, x_aNil, nl, if_true, hb]
        rfl
      cases hc : cb t (nm t i) t.length (nm t i) with
      | false =>
        rw [hc] at ec
        exact ⟨W.S, .inl (by rw [b__law_due_7, x_sIf, ec]; rfl), some (.int i), by rw [hW]⟩
      | true =>
        rw [hc] at ec
        refine ⟨W.S, ?_⟩
        rw [b__law_due_7, x_sIf, ec]
        simp only [VL.R.to_ok, if_true]
        rw [x_sRet, x_eTup, x_aCons, y1, VL.R.bind_ok, x_aCons, x_eC]
        simp only [VL.R.bind_ok, x_aNil, List.length_cons, List.length_nil, Nat.zero_add, Nat.reduceAdd, z2, if_true]
        rfl)
    have h9 : s__law_due_9 (L__law_due.S { v_room := some (tabD t), v_at := p0, v_thing := p1, v_holder := p2, v_one := p3, v_other := p4 }) = forL (gN 1) b__law_due_7 (rng 0 t.length) (L__law_due.S { v_room := some (tabD t), v_at := p0, v_thing := p1, v_holder := p2, v_one := p3, v_other := p4 }) := by
      simp [s__law_due_9, tabD, hl, L__law_due.S]
    have hm : m__law_due ⟨startD 6 [tabD t], []⟩ = (forL (gN 1) b__law_due_7 (rng 0 t.length) (L__law_due.S { v_room := some (tabD t), v_at := p0, v_thing := p1, v_holder := p2, v_one := p3, v_other := p4 })).seq s__law_due_10 := by
      rw [m__law_due, x_sSeq, h8, e, VL.C.seq_nx, x_sSeq, h9]
    have ef : first t = first2 t := by unfold first; rw [hf]
    rw [ef]
    cases hf2 : first2 t with
    | none =>
      rw [show (List.range' 0 t.length).findSome? _ = none from hf2] at key2
      obtain ⟨s', e, _⟩ := key2
      have e : forL (gN 1) b__law_due_7 (rng 0 t.length) (L__law_due.S { v_room := some (tabD t), v_at := p0, v_thing := p1, v_holder := p2, v_one := p3, v_other := p4 }) = .nx s' := e
      exact pure_rt rfl ⟨s', by rw [hm, e]; rfl⟩ rfl
    | some p =>
      obtain ⟨i, z⟩ := p
      rw [show (List.range' 0 t.length).findSome? _ = some (i, z) from hf2] at key2
      obtain ⟨s', e⟩ := key2
      have e : forL (gN 1) b__law_due_7 (rng 0 t.length) (L__law_due.S { v_room := some (tabD t), v_at := p0, v_thing := p1, v_holder := p2, v_one := p3, v_other := p4 }) = .rt (.tup [.int i, .str z]) s' := e
      exact pure_rt rfl ⟨s', by rw [hm, e]; rfl⟩ rfl
theorem is_eq (n : Nat) : f__law_is n = isF n := by
  induction n with
  | zero => rfl
  | succ n ih =>
    show pureOf 3 2 (m__law_is (f__law_is n)) = pureOf 3 2 (mIs (isF n))
    rw [ih]; rfl
theorem right_ok {t : List Row} (h : Ok t) : f__law_right [tabD t] = .ok (.bl true) := by
  have hd := due_ok h
  have ht := told_ok h
  refine pure_rt rfl ?_ rfl
  cases hf : first t with
  | none =>
    rw [hf] at hd ht
    have hi : f__law_is 6 [.non, .non] = .ok (.bl true) := by rw [is_eq]; exact isF_refl trivial
    refine ⟨⟨[some (tabD t), some .non, some (.bl false), some .non], []⟩, ?_⟩
    simp [m__law_right, s__law_right_1, s__law_right_2, s__law_right_3, hd, ht, hi, noLoc_tab, dueG, toldG]
  | some p =>
    obtain ⟨n, z⟩ := p
    rw [hf] at hd ht
    have hi : f__law_is 6 [.tup [.int n, .str z], .tup [.int n, .str z]] = .ok (.bl true) := by
      rw [is_eq]
      exact isF_refl ⟨by simp, by simp [Good]⟩
    refine ⟨⟨[some (tabD t), some (.tup [.int n, .str z]), some (.bl true), some (.tup [.int n, .str z])], []⟩, ?_⟩
    simp [m__law_right, s__law_right_1, s__law_right_2, s__law_right_3, hd, ht, hi, noLoc_tab, dueG, toldG]
end K76
namespace K76
open PySem L2 VL
def Sgs (L : Nat) (z : List Nat) : Prop := z.length ≤ L ∧ ∀ c ∈ z, c < 1114112
def Lim (L N : Nat) (t : List Row) : Prop := (∀ r ∈ t, Sgs L r.a ∧ Sgs L r.b) ∧ t.length ≤ N
theorem abc_lt {c : Nat} (h : c ∈ abcL) : c < 1114112 := by
  have : decide (c ∈ abcL) = true := decide_eq_true h
  rw [mem_abc] at this
  simp at this
  omega
theorem abc_len : abcL.length = 26 := rfl
theorem fIx_at {z : List Nat} {i : Nat} {s : S} (hz : z.length ≤ 1000000) (h : i < z.length) : fIx (.str z) (.int (i : Int)) s = .ok (.str [z.getD i 0], s) := by
  have e : fIx (.str z) (.int (i : Int)) s = if z.length ≤ SZ then match L2.atI z (i : Int) with | some ch => VL.R.ok (D.str [ch], s) | none => VL.R.no else VL.R.no := rfl
  rw [e, if_pos (by rw [SZv]; omega), atN h]
theorem getD_abc {i : Nat} (h : i < 26) : abcL.getD i 0 ∈ abcL := by
  rw [List.getD_eq_getElem?_getD, List.getElem?_eq_getElem (by rw [abc_len]; exact h)]
  exact List.getElem_mem _
theorem name_made {d o : Int} (hd : 0 ≤ d ∧ d < 5040) (ho : 0 ≤ o ∧ o < 5040) : ∃ z, Sgs 12 z ∧ z ≠ [] ∧ f__law_name [.int d, .int o] = .ok (.str z) := by
  have z6 : 6 ≤ SZ := by rw [SZv]; omega
  obtain ⟨n, en, n1, n12⟩ : ∃ n : Nat, datI [3, 1, 5, 2, 12, 4] (d % 6) = n ∧ 1 ≤ n ∧ n ≤ 12 := by
    have := datI_in (l := [3, 1, 5, 2, 12, 4]) (P := fun x => 1 ≤ x ∧ x ≤ 12) (by decide) (i := d % 6) (by omega) (by simp; omega)
    exact ⟨(datI [3, 1, 5, 2, 12, 4] (d % 6)).toNat, by omega, by omega, by omega⟩
  have tn : ∀ s, fIx (.tup [.int 3, .int 1, .int 5, .int 2, .int 12, .int 4]) (.int (d % 6)) s = .ok (.int n, s) := fun s => by
    rw [← en]; exact fIx_T (l := [3, 1, 5, 2, 12, 4]) (by omega) (by simp; omega)
  obtain ⟨V1, hV1⟩ : ∃ V : L__law_name, V = { v_draw := some (.int d), v_other := some (.int o), v_letters := some (.str abcL) } := ⟨_, rfl⟩
  have s4 : s__law_name_4 (L__law_name.S { v_draw := some (.int d), v_other := some (.int o) }) = .nx V1.S := by
    rw [hV1]; simp [s__law_name_4, L__law_name.S, abcL]
  obtain ⟨V2, hV2⟩ : ∃ V : L__law_name, V = { V1 with v_size := some (.int n) } := ⟨_, rfl⟩
  have s5 : s__law_name_5 V1.S = .nx V2.S := by rw [hV2, hV1]; simp [s__law_name_5, L__law_name.S, z6, tn]
  obtain ⟨V3, hV3⟩ : ∃ V : L__law_name, V = { V2 with v_rest := some (.int (d / 6)) } := ⟨_, rfl⟩
  have s6 : s__law_name_6 V2.S = .nx V3.S := by rw [hV3, hV2, hV1]; simp [s__law_name_6, L__law_name.S]
  obtain ⟨k, ek, hk⟩ : ∃ k : Nat, o % 26 = k ∧ k < 26 := ⟨(o % 26).toNat, by omega, by omega⟩
  have ix : ∀ (i : Nat) (s : S), i < 26 → fIx (.str abcL) (.int (i : Int)) s = .ok (.str [abcL.getD i 0], s) := fun i s h => fIx_at (by rw [abc_len]; omega) (by rw [abc_len]; exact h)
  obtain ⟨V4, hV4⟩ : ∃ V : L__law_name, V = { V3 with v_name := some (.str [abcL.getD k 0]) } := ⟨_, rfl⟩
  have s7 : s__law_name_7 V3.S = .nx V4.S := by
    rw [hV4, hV3, hV2, hV1]
    have := ix k
    simp [s__law_name_7, L__law_name.S, ek, this, hk, -List.getD_eq_getElem?_getD]
  obtain ⟨V5, hV5⟩ : ∃ V : L__law_name, V = { V4 with v_more := some (.int (o / 26)) } := ⟨_, rfl⟩
  have s8 : s__law_name_8 V4.S = .nx V5.S := by rw [hV5, hV4, hV3, hV2, hV1]; simp [s__law_name_8, L__law_name.S]
  obtain ⟨s', e, rest, z, q, rfl, hz1, hz2⟩ := forL_rng (g := gN 7) (b := b__law_name_3) (n := n - 1) (s := V5.S) (fun i s => ∃ (rest : Int) (z : List Nat) (q : Option D), s = L__law_name.S { V5 with v_rest := some (.int rest), v_name := some (.str z), v_at := q } ∧ z.length = 1 + i ∧ ∀ c ∈ z, c < 1114112)
    ⟨d / 6, [abcL.getD k 0], none, by rw [hV5, hV4, hV3, hV2, hV1], rfl, fun c hc => by simp only [List.mem_singleton] at hc; rw [hc]; exact abc_lt (getD_abc hk)⟩ (fun i s hi ⟨rest, z, q, e, hz1, hz2⟩ => by
    subst e
    obtain ⟨j, ej, hj⟩ : ∃ j : Nat, (rest + 5 * (i : Int)) % 26 = j ∧ j < 26 := ⟨((rest + 5 * (i : Int)) % 26).toNat, by omega, by omega⟩
    obtain ⟨W, hW⟩ : ∃ W : L__law_name, W = { V5 with v_rest := some (.int rest), v_name := some (.str z), v_at := some (.int i) } := ⟨_, rfl⟩
    obtain ⟨W2, hW2⟩ : ∃ W2 : L__law_name, W2 = { W with v_name := some (.str (z ++ [abcL.getD j 0])) } := ⟨_, rfl⟩
    obtain ⟨W3, hW3⟩ : ∃ W3 : L__law_name, W3 = { W2 with v_rest := some (.int (rest / 26 + o / 26 * ((i : Int) + 1))) } := ⟨_, rfl⟩
    have m5 : mulOk 5 (i : Int) = true := mulOk_l (by omega) (by omega)
    have mm : mulOk (o / 26) ((i : Int) + 1) = true := mulOk_l (by omega) (by omega)
    have hzS : z.length + 1 ≤ SZ := by rw [SZv]; omega
    have e1 : s__law_name_1 W.S = .nx W2.S := by
      rw [hW2, hW, hV5, hV4, hV3, hV2, hV1]
      have := ix j
      simp [s__law_name_1, L__law_name.S, m5, ej, this, hj, hzS, -List.getD_eq_getElem?_getD]
    have e2 : s__law_name_2 W2.S = .nx W3.S := by
      rw [hW3, hW2, hW, hV5, hV4, hV3, hV2, hV1]
      simp [s__law_name_2, L__law_name.S, mm]
    refine ⟨W.S, by rw [hW]; rfl, W3.S, .inl (by rw [b__law_name_3, x_sSeq, e1, VL.C.seq_nx, e2]), _, _, some (.int i), by rw [hW3, hW2, hW], by rw [List.length_append]; simp; omega, fun c hc => ?_⟩
    rcases List.mem_append.mp hc with hc | hc
    · exact hz2 c hc
    · simp only [List.mem_singleton] at hc; rw [hc]; exact abc_lt (getD_abc hj))
  have s9 : s__law_name_9 V5.S = .nx (L__law_name.S { V5 with v_rest := some (.int rest), v_name := some (.str z), v_at := q }) := by
    have en1 : ((n : Int) - 1) = ((n - 1 : Nat) : Int) := by omega
    have hr : ((n - 1 : Nat) : Int) < 4611686018427387904 := by omega
    have hit : iRg1M (aCons (eOp fSub (eV 3) (eC (.int 1))) aNil) V5.S = .ok (rng 0 (n - 1), V5.S) := by
      have y3 : eV 3 V5.S = .ok (.int n, V5.S) := by rw [hV5, hV4, hV3, hV2, hV1]; rfl
      rw [x_iRg1M, x_aCons, x_eOp, y3]
      simp [en1, hr]
    rw [s__law_name_9, x_sFor, hit]
    exact e
  refine ⟨z, ⟨by omega, hz2⟩, (fun e => by rw [e] at hz1; simp at hz1; omega), pure_rt rfl ⟨L__law_name.S { V5 with v_rest := some (.int rest), v_name := some (.str z), v_at := q }, ?_⟩ rfl⟩
  show m__law_name (L__law_name.S { v_draw := some (.int d), v_other := some (.int o) }) = _
  rw [m__law_name, x_sSeq, s4, VL.C.seq_nx, x_sSeq, s5, VL.C.seq_nx, x_sSeq, s6, VL.C.seq_nx, x_sSeq, s7, VL.C.seq_nx, x_sSeq, s8, VL.C.seq_nx, x_sSeq, s9, VL.C.seq_nx]
  rfl
end K76
namespace K76
open PySem L2 VL
theorem fCut_pre {z : List Nat} {k : Nat} {s : S} (hz : z.length ≤ 1000000) : fCut (.str z) none (some (k : Int)) s = .ok (.str (z.take k), s) := by
  have e : fCut (.str z) none (some (k : Int)) s = if z.length ≤ SZ then VL.R.ok (D.str (cut z none (some (k : Int))), s) else VL.R.no := rfl
  rw [e, if_pos (by rw [SZv]; omega), cut_take]
theorem fDiv_pp {s : S} {i j : Int} (h : 0 < j) (h2 : j < 1073741824) : fDiv (.int i) (.int j) s = .ok (.int (i / j), s) := by
  simp [fDiv, h, h2]
/-- the other names -/
def alt (z : List Nat) (j : Nat) : List Nat := z.take 10 ++ [abcL.getD (j % 26) 0] ++ [abcL.getD (j / 26) 0]
theorem alt_sg {z : List Nat} (h : ∀ c ∈ z, c < 1114112) {j : Nat} (hj : j < 40) : Sgs 12 (alt z j) := by
  refine ⟨by unfold alt; simp; omega, fun c hc => ?_⟩
  unfold alt at hc
  rcases List.mem_append.mp hc with hc | hc
  · rcases List.mem_append.mp hc with hc | hc
    · exact h c (List.mem_of_mem_take hc)
    · simp only [List.mem_singleton] at hc; rw [hc]; exact abc_lt (getD_abc (by omega))
  · simp only [List.mem_singleton] at hc; rw [hc]; exact abc_lt (getD_abc (by omega))
theorem abc_inj : ∀ i : Fin 26, ∀ j : Fin 26, abcL.getD i 0 = abcL.getD j 0 → i = j := by decide
theorem abc_inj' {i j : Nat} (hi : i < 26) (hj : j < 26) (h : abcL.getD i 0 = abcL.getD j 0) : i = j := by
  have := abc_inj ⟨i, hi⟩ ⟨j, hj⟩ h
  exact congrArg (fun f : Fin 26 => f.1) this
theorem alt_inj {z : List Nat} {i j : Nat} (hi : i < 40) (hj : j < 40) (h : alt z i = alt z j) : i = j := by
  unfold alt at h
  rw [List.append_assoc, List.append_assoc] at h
  have h := List.append_cancel_left h
  simp only [List.cons_append, List.nil_append, List.cons.injEq, and_true] at h
  have h1 := abc_inj' (by omega) (by omega) h.1
  have h2 := abc_inj' (by omega) (by omega) h.2
  omega
def alts (z : List Nat) : List (List Nat) := (List.range 40).map (alt z)
theorem alts_nodup (z : List Nat) : (alts z).Nodup := by
  unfold alts List.Nodup
  rw [List.pairwise_map]
  exact List.nodup_range.imp_of_mem fun {a b} ha hb hne e => hne (alt_inj (List.mem_range.mp ha) (List.mem_range.mp hb) e)
/-- some name is free -/
theorem free_name {z : List Nat} {names : List (List Nat)} (h : names.length < 40) : ∃ x l, (z :: alts z).filter (fun y => !decide (y ∈ names)) = x :: l := by
  cases e : (z :: alts z).filter (fun y => !decide (y ∈ names)) with
  | cons x l => exact ⟨x, l, rfl⟩
  | nil =>
    exfalso
    have hs : ∀ y ∈ alts z, y ∈ names := fun y hy => by
      have := List.filter_eq_nil_iff.mp e y (List.mem_cons_of_mem _ hy)
      simpa using this
    have := nodup_len (alts_nodup z) hs
    unfold alts at this
    rw [List.length_map, List.length_range] at this
    omega
structure TB (ds : List Int) (n : Nat) (v : L__law_things) : Prop where
  w0 : v.v_draws = some (.lst (iL ds))
  w1 : v.v_count = some (.int (n : Nat))
  w2 : v.v_letters = some (.str abcL)
  w3 : v.v_found = some (.loc 0)
theorem things_turn {ds : List Int} {n i : Nat} (hl : ds.length = 2 * n) (hr : ∀ x ∈ ds, 0 ≤ x ∧ x < 5040) (hn : n ≤ 30) (hi : i < n) {v : L__law_things} (b : TB ds n v) (w4 : v.v_at = some (.int (i : Nat))) {names : List (List Nat)} (hm : v.mm = [.lst (names.map D.str)]) (hlen : names.length = i) :
    ∃ v' x, Sgs 12 x ∧ x ≠ [] ∧ x ∉ names ∧ TB ds n v' ∧ v'.mm = [.lst ((names ++ [x]).map D.str)] ∧ b__law_things_6 v.S = .nx v'.S := by
  have z2 : 2 ≤ SZ := by rw [SZv]; omega
  obtain ⟨z, ⟨hz1, hz2⟩, hz0, hz⟩ := name_made (d := datI ds ((2 * i : Nat) : Int)) (o := datI ds ((2 * i + 1 : Nat) : Int)) (datI_in (l := ds) (P := fun x => 0 ≤ x ∧ x < 5040) hr (by omega) (by omega)) (datI_in (l := ds) (P := fun x => 0 ≤ x ∧ x < 5040) hr (by omega) (by omega))
  obtain ⟨V1, hV1⟩ : ∃ V : L__law_things, V = { v with v_name := some (.str z) } := ⟨_, rfl⟩
  have s3 : s__law_things_3 v.S = .nx V1.S := by
    have e1 : (2 * (i : Int)) = ((2 * i : Nat) : Int) := by omega
    have e2 : (2 * (i : Int) + 1) = ((2 * i + 1 : Nat) : Int) := by omega
    have m2 : mulOk 2 (i : Int) = true := mulOk_l (by omega) (by omega)
    have i1 : ∀ s, fIx (.lst (iL ds)) (.int (2 * (i : Int))) s = .ok (.int (datI ds ((2 * i : Nat) : Int)), s) := fun s => by rw [e1]; exact fIx_L (by omega) (by omega)
    have i2 : ∀ s, fIx (.lst (iL ds)) (.int (2 * (i : Int) + 1)) s = .ok (.int (datI ds ((2 * i + 1 : Nat) : Int)), s) := fun s => by rw [e2]; exact fIx_L (by omega) (by omega)
    rw [hV1]
    simp only [s__law_things_3, x_sAsg, x_eCall, x_aCons, x_aNil, x_eOp, x_eC, L__law_things.S, x_eV, b.w0, w4, List.getElem?_cons_zero, List.getElem?_cons_succ, VL.R.bind_ok, x_fMul, m2, if_true, i1, x_fAddI, i2, x_noLocs, x_noLocI, x_noLocs0, Bool.and_self, hz, VL.R.to_ok, x_gN]
    rfl
  have y5 : eV 5 V1.S = .ok (.str z, V1.S) := by rw [hV1]; simp [L__law_things.S]
  obtain ⟨tr, htr⟩ : ∃ tr, tr = z :: alts z := ⟨_, rfl⟩
  obtain ⟨V2, hV2⟩ : ∃ V : L__law_things, V = { V1 with v_tried := some (.lst (tr.map D.str)) } := ⟨_, rfl⟩
  have s4 : s__law_things_4 V1.S = .nx V2.S := by
    have hc : c__law_things_1 V1.S = .ok (.lst ((alts z).map D.str), V1.S) := by
      have hit : iRg1M (aCons (eC (.int 40)) aNil) V1.S = .ok (rng 0 40, V1.S) := by simp
      have := lc1_run (i := 7) (e := (eOp fAdd (eOp fAdd (eCut (eV 5) oNone (oSome (eC (.int 10)))) (eOp fIx (eV 2) (eOp fMod (eV 7) (eC (.int 26))))) (eOp fIx (eV 2) (eOp fDiv (eV 7) (eC (.int 26)))))) (fun d => match d with | .int j => .str (alt z j.toNat) | _ => .non) hit (by rw [rng_len, SZv]; omega) fun d hd => by
        obtain ⟨j, hj, rfl⟩ := rng_mem hd
        have c1 : ∀ s, fCut (.str z) none (some 10) s = .ok (.str (z.take 10), s) := fun s => fCut_pre (k := 10) (by omega)
        have e1 : ((j : Int) % 26) = ((j % 26 : Nat) : Int) := by omega
        have e2 : ((j : Int) / 26) = ((j / 26 : Nat) : Int) := by omega
        have x1 : ∀ s, fIx (.str abcL) (.int ((j : Int) % 26)) s = .ok (.str [abcL.getD (j % 26) 0], s) := fun s => by rw [e1]; exact fIx_at (by rw [abc_len]; omega) (by rw [abc_len]; omega)
        have x2 : ∀ s, fIx (.str abcL) (.int ((j : Int) / 26)) s = .ok (.str [abcL.getD (j / 26) 0], s) := fun s => by rw [e2]; exact fIx_at (by rw [abc_len]; omega) (by rw [abc_len]; omega)
        have y5 : eV 5 (⟨V1.S.r.set 7 (some (.int (j : Int))), V1.S.m⟩ : S) = .ok (.str z, ⟨V1.S.r.set 7 (some (.int (j : Int))), V1.S.m⟩) := by rw [hV1]; simp [L__law_things.S]
        have y2 : eV 2 (⟨V1.S.r.set 7 (some (.int (j : Int))), V1.S.m⟩ : S) = .ok (.str abcL, ⟨V1.S.r.set 7 (some (.int (j : Int))), V1.S.m⟩) := by rw [hV1]; simp [L__law_things.S, b.w2]
        have y7 : eV 7 (⟨V1.S.r.set 7 (some (.int (j : Int))), V1.S.m⟩ : S) = .ok (.int (j : Int), ⟨V1.S.r.set 7 (some (.int (j : Int))), V1.S.m⟩) := by rw [hV1]; simp [L__law_things.S]
        have l1 : (z.take 10).length + [abcL.getD (j % 26) 0].length ≤ SZ := by rw [SZv]; simp; omega
        have l2 : (z.take 10 ++ [abcL.getD (j % 26) 0]).length + [abcL.getD (j / 26) 0].length ≤ SZ := by rw [SZv]; simp; omega
        show eOp fAdd _ _ (⟨V1.S.r.set 7 (some (.int (j : Int))), V1.S.m⟩ : S) = _
        rw [x_eOp, x_eOp, x_eCut, y5, VL.R.bind_ok, x_oNone, VL.R.bind_ok, x_oSome, x_eC, VL.R.bind_ok]
        dsimp only
        rw [VL.R.bind_ok, c1, VL.R.bind_ok, x_eOp, y2, VL.R.bind_ok, x_eOp, y7, VL.R.bind_ok, x_eC, VL.R.bind_ok, fMod_p (by omega), VL.R.bind_ok, x1, VL.R.bind_ok, x_fAddS, if_pos l1, VL.R.bind_ok, x_eOp, y2, VL.R.bind_ok, x_eOp, y7, VL.R.bind_ok, x_eC, VL.R.bind_ok, fDiv_pp (show (0 : Int) < 26 by omega) (by omega), VL.R.bind_ok, x2, VL.R.bind_ok, x_fAddS, if_pos l2]
        rfl
      rw [c__law_things_1, this, rng_map]
      simp [alts, Function.comp_def]
    have hf : eFrz c__law_things_1 V1.S = .ok (.lst ((alts z).map D.str), V1.S) := by rw [x_eFrz, hc]; rfl
    have ha : eFrz (fLst (aCons (eV 5) aNil)) V1.S = .ok (.lst [.str z], V1.S) := by
      have : 1 ≤ SZ := by rw [SZv]; omega
      rw [x_eFrz, x_fLst, x_aCons, y5]
      simp [this]
    have hl2 : (alts z).length = 40 := by unfold alts; simp
    rw [s__law_things_4, x_sAsg, x_eOp, ha, VL.R.bind_ok, hf, VL.R.bind_ok, x_fAddL, if_pos (by rw [SZv]; simp [hl2]), hV2, htr]
    rfl
  obtain ⟨x, l, hx⟩ := free_name (z := z) (names := names) (by omega)
  rw [← htr] at hx
  have hxn : x ∉ names := by
    have := (List.mem_filter.mp (show x ∈ tr.filter (fun y => !decide (y ∈ names)) by rw [hx]; simp)).2
    simpa using this
  have hx0 : x ≠ [] := by
    have := (List.mem_filter.mp (show x ∈ tr.filter (fun y => !decide (y ∈ names)) by rw [hx]; simp)).1
    rw [htr] at this
    rcases List.mem_cons.mp this with rfl | hm
    · exact hz0
    · obtain ⟨j, _, rfl⟩ := List.mem_map.mp hm
      unfold alt
      simp
  have hxs : Sgs 12 x := by
    have hm : x ∈ tr := (List.mem_filter.mp (show x ∈ tr.filter (fun y => !decide (y ∈ names)) by rw [hx]; simp)).1
    rw [htr] at hm
    rcases List.mem_cons.mp hm with rfl | hm
    · exact ⟨hz1, hz2⟩
    · obtain ⟨j, hj, rfl⟩ := List.mem_map.mp hm
      exact alt_sg hz2 (List.mem_range.mp hj)
  obtain ⟨V3, hV3⟩ : ∃ V : L__law_things, V = { V2 with mm := [.lst ((names ++ [x]).map D.str)] } := ⟨_, rfl⟩
  have hm2 : V2.S.m = [.lst (names.map D.str)] := by rw [hV2, hV1]; exact hm
  have s5 : s__law_things_5 V2.S = .nx V3.S := by
    have htl : tr.length = 41 := by rw [htr]; unfold alts; simp
    have hc : c__law_things_2 V2.S = .ok (.lst ((tr.filter (fun y => !decide (y ∈ names))).map D.str), V2.S) := by
      have hit : iSeqM (eV 6) V2.S = .ok (tr.map D.str, V2.S) := by rw [hV2]; simp [L__law_things.S]
      have := lc1_if (i := 8) (t := (tBl (eOp fNotIn (eV 8) (eV 3)))) (e := eV 8) (fun d => match d with | .str y => !decide (y ∈ names) | _ => false) (fun d => d) hit (by rw [List.length_map, htl, SZv]; omega) fun d hd => by
        obtain ⟨y, _, rfl⟩ := List.mem_map.mp hd
        have y8 : eV 8 (⟨V2.S.r.set 8 (some (.str y)), V2.S.m⟩ : S) = .ok (.str y, ⟨V2.S.r.set 8 (some (.str y)), V2.S.m⟩) := by rw [hV2, hV1]; simp [L__law_things.S]
        have y3 : eV 3 (⟨V2.S.r.set 8 (some (.str y)), V2.S.m⟩ : S) = .ok (.loc 0, ⟨V2.S.r.set 8 (some (.str y)), V2.S.m⟩) := by rw [hV2, hV1]; simp [L__law_things.S, b.w3]
        refine ⟨?_, fun _ => y8⟩
        show tBl _ (⟨V2.S.r.set 8 (some (.str y)), V2.S.m⟩ : S) = _
        rw [x_tBl, x_eOp, y8, VL.R.bind_ok, y3, VL.R.bind_ok, hm2, in_passed]
        rfl
      rw [c__law_things_2, this, List.filter_map]
      simp [Function.comp_def]
    have hf : eFrz c__law_things_2 V2.S = .ok (.lst ((x :: l).map D.str), V2.S) := by rw [x_eFrz, hc, hx]; rfl
    have e0 : eOp fIx (eFrz c__law_things_2) (eC (.int 0)) V2.S = .ok (.str x, V2.S) := by
      rw [x_eOp, hf, VL.R.bind_ok, x_eC, VL.R.bind_ok]
      exact fIxL (l := (x :: l).map D.str) (k := 0) (by simp)
    have y3 : eV 3 V2.S = .ok (.loc 0, V2.S) := by rw [hV2, hV1]; simp [L__law_things.S, b.w3]
    have hnl : names.length < SZ := by rw [SZv]; omega
    rw [s__law_things_5, x_sDrop, x_eLM, y3, VL.R.bind_ok]
    simp only [hm2, List.getElem?_cons_zero, x_aCons, e0, VL.R.bind_ok, x_aNil, x_lmApp, List.length_map, hnl, if_true]
    rw [hV3]
    simp only [VL.R.to_ok, List.set_cons_zero, List.map_append, List.map_cons, List.map_nil]
    rfl
  refine ⟨V3, x, hxs, hx0, hxn, by rw [hV3, hV2, hV1]; exact ⟨b.w0, b.w1, b.w2, b.w3⟩, by rw [hV3], ?_⟩
  rw [b__law_things_6, x_sSeq, s3, VL.C.seq_nx, x_sSeq, s4, VL.C.seq_nx, s5]
theorem things_ok {ds : List Int} {n : Nat} (hl : ds.length = 2 * n) (hr : ∀ x ∈ ds, 0 ≤ x ∧ x < 5040) (hn : n ≤ 30) : ∃ names : List (List Nat), names.length = n ∧ (∀ z ∈ names, Sgs 12 z) ∧ (names.Nodup ∧ ∀ z ∈ names, z ≠ []) ∧ f__law_things [.lst (iL ds), .int (n : Nat)] = .ok (.lst (names.map D.str)) := by
  obtain ⟨V1, hV1⟩ : ∃ V : L__law_things, V = { v_draws := some (.lst (iL ds)), v_count := some (.int (n : Nat)), v_letters := some (.str abcL) } := ⟨_, rfl⟩
  have s7 : s__law_things_7 (L__law_things.S { v_draws := some (.lst (iL ds)), v_count := some (.int (n : Nat)) }) = .nx V1.S := by rw [hV1]; simp [s__law_things_7, L__law_things.S, abcL]
  obtain ⟨V2, hV2⟩ : ∃ V : L__law_things, V = { V1 with v_found := some (.loc 0), mm := [.lst []] } := ⟨_, rfl⟩
  have s8 : s__law_things_8 V1.S = .nx V2.S := by rw [hV2, hV1]; simp [s__law_things_8, L__law_things.S]
  obtain ⟨s', e, v, names, rfl, b, hm, hnl, hnm, hnd, hn0⟩ := forL_rng (g := gN 4) (b := b__law_things_6) (n := n) (s := V2.S) (fun i s => ∃ (v : L__law_things) (names : List (List Nat)), s = v.S ∧ TB ds n v ∧ v.mm = [.lst (names.map D.str)] ∧ names.length = i ∧ (∀ z ∈ names, Sgs 12 z) ∧ names.Nodup ∧ ∀ z ∈ names, z ≠ [])
    ⟨V2, [], rfl, by rw [hV2, hV1]; exact ⟨rfl, rfl, rfl, rfl⟩, by rw [hV2]; rfl, rfl, by simp, List.nodup_nil, by simp⟩ (fun i s hi ⟨v, names, e, b, hm, hnl, hnm, hnd, hn0⟩ => by
    subst e
    obtain ⟨v', x, hx, hx0, hxn, b', hm', e'⟩ := things_turn hl hr hn hi (v := { v with v_at := some (.int (i : Nat)) }) ⟨b.w0, b.w1, b.w2, b.w3⟩ rfl hm hnl
    exact ⟨L__law_things.S { v with v_at := some (.int (i : Nat)) }, rfl, v'.S, .inl e', v', names ++ [x], rfl, b', hm', by rw [List.length_append, hnl]; rfl, fun z hz => by
      rcases List.mem_append.mp hz with hz | hz
      · exact hnm z hz
      · simp only [List.mem_singleton] at hz; rw [hz]; exact hx, by
      rw [List.nodup_append]
      exact ⟨hnd, by simp, fun a ha b hb => by simp at hb; subst hb; exact fun e => hxn (by rw [← e]; exact ha)⟩, fun z hz => by
      rcases List.mem_append.mp hz with hz | hz
      · exact hn0 z hz
      · simp only [List.mem_singleton] at hz; rw [hz]; exact hx0⟩)
  have s9 : s__law_things_9 V2.S = .nx v.S := by
    have hr : ((n : Nat) : Int) < 4611686018427387904 := by omega
    have hit : iRg1M (aCons (eV 1) aNil) V2.S = .ok (rng 0 n, V2.S) := by
      rw [hV2, hV1]; simp [L__law_things.S, hr]
    rw [s__law_things_9, x_sFor, hit]
    exact e
  have s10 : ∃ s', s__law_things_10 v.S = .rt (.lst (names.map D.str)) s' := by
    refine ⟨L__law_things.S { v with v_found := some (.lst (names.map D.str)), mm := [.dead] }, ?_⟩
    simp only [s__law_things_10, x_sRet, x_eTake, L__law_things.S, b.w3, hm, List.getElem?_cons_zero, List.getElem?_cons_succ, VL.R.to_ok]
    rfl
  obtain ⟨s'', s10⟩ := s10
  refine ⟨names, hnl, hnm, ⟨hnd, hn0⟩, pure_rt rfl ⟨s'', ?_⟩ (by
    show noLocs (names.map D.str) = true
    exact noLocs_all fun d hd => by
      obtain ⟨z, _, rfl⟩ := List.mem_map.mp hd
      rfl)⟩
  show m__law_things (L__law_things.S { v_draws := some (.lst (iL ds)), v_count := some (.int (n : Nat)) }) = _
  rw [m__law_things, x_sSeq, s7, VL.C.seq_nx, x_sSeq, s8, VL.C.seq_nx, x_sSeq, s9, VL.C.seq_nx, s10]
end K76
namespace K76
open PySem L2 VL
structure RB (ds : List Int) (names : List (List Nat)) (v : L__law_room) : Prop where
  w0 : v.v_draws = some (.lst (iL ds))
  w1 : v.v_names = some (.lst (names.map D.str))
  w2 : v.v_found = some (.loc 0)
theorem ixN {names : List (List Nat)} {i : Nat} (h : i < names.length) (s : S) : fIx (.lst (names.map D.str)) (.int (i : Int)) s = .ok (.str names[i], s) := by
  rw [fIxL (by simpa using h)]
  simp
theorem room_turn {ds : List Int} {names : List (List Nat)} {i : Nat} (hl : ds.length = names.length) (hr : ∀ x ∈ ds, 0 ≤ x ∧ x < 5040) (hn : ∀ z ∈ names, Sgs 12 z) (hn2 : names.length ≤ 30) (hi : i < names.length) {v : L__law_room} (b : RB ds names v) (w3 : v.v_at = some (.int (i : Nat))) {t : List Row} (hm : v.mm = [.lst (t.map rowD)]) (hlen : t.length = i) :
    ∃ v' r, (Sgs 12 r.a ∧ Sgs 12 r.b) ∧ (r.a = names[i] ∧ (r.b = [] ∨ ∃ j, j < i ∧ names[j]? = some r.b)) ∧ RB ds names v' ∧ v'.mm = [.lst ((t ++ [r]).map rowD)] ∧ b__law_room_5 v.S = .nx v'.S := by
  have z2 : 2 ≤ SZ := by rw [SZv]; omega
  obtain ⟨x, hx⟩ : ∃ x, x = datI ds (i : Int) := ⟨_, rfl⟩
  have ix : ∀ s, fIx (.lst (iL ds)) (.int (i : Int)) s = .ok (.int x, s) := fun s => by rw [hx]; exact fIx_L (by omega) (by omega)
  have hx0 : 0 ≤ x ∧ x < 5040 := by rw [hx]; exact datI_in (l := ds) (P := fun x => 0 ≤ x ∧ x < 5040) hr (by omega) (by omega)
  obtain ⟨V1, hV1⟩ : ∃ V : L__law_room, V = { v with v_back := some (.int (x / 7)) } := ⟨_, rfl⟩
  have s1 : s__law_room_1 v.S = .nx V1.S := by rw [hV1]; simp [s__law_room_1, L__law_room.S, b.w0, w3, ix]
  obtain ⟨V2, hV2⟩ : ∃ V : L__law_room, V = { V1 with v_kind := some (.int (x % 7)) } := ⟨_, rfl⟩
  have s2 : s__law_room_2 V1.S = .nx V2.S := by rw [hV2, hV1]; simp [s__law_room_2, L__law_room.S, b.w0, w3, ix]
  obtain ⟨h, hh, hj, V3, hV3, s3⟩ : ∃ h, Sgs 12 h ∧ (h = [] ∨ ∃ j, j < i ∧ names[j]? = some h) ∧ ∃ V3 : L__law_room, V3 = { V2 with v_holder := some (.str h) } ∧ s__law_room_3 V2.S = .nx V3.S := by
    have y3 : eV 3 V2.S = .ok (.int (i : Nat), V2.S) := by rw [hV2, hV1]; simp [L__law_room.S, w3]
    have y5 : eV 5 V2.S = .ok (.int (x % 7), V2.S) := by rw [hV2]; simp [L__law_room.S]
    have y4 : eV 4 V2.S = .ok (.int (x / 7), V2.S) := by rw [hV2, hV1]; simp [L__law_room.S]
    have y1 : eV 1 V2.S = .ok (.lst (names.map D.str), V2.S) := by rw [hV2, hV1]; simp [L__law_room.S, b.w1]
    have t1 : tOrM (tBl (eOp fEq (eV 3) (eC (.int 0)))) (tBl (eOp fEq (eV 5) (eC (.int 0)))) V2.S = .ok (decide (i = 0) || decide (x % 7 = 0), V2.S) := by
      have e1 : tBl (eOp fEq (eV 3) (eC (.int 0))) V2.S = .ok (decide (i = 0), V2.S) := by
        rw [x_tBl, x_eOp, y3, VL.R.bind_ok, x_eC, VL.R.bind_ok, fEqI]
        have : decide (((i : Nat) : Int) = 0) = decide (i = 0) := by rw [Bool.eq_iff_iff]; simp
        rw [this]
        rfl
      have e2 : tBl (eOp fEq (eV 5) (eC (.int 0))) V2.S = .ok (decide (x % 7 = 0), V2.S) := by
        rw [x_tBl, x_eOp, y5, VL.R.bind_ok, x_eC, VL.R.bind_ok, fEqI]
        rfl
      rw [x_tOrM, e1]
      by_cases h : i = 0
      · simp [h]
      · simp only [h, decide_false, VL.R.bind_ok, Bool.false_eq_true, if_false, e2, Bool.false_or]
    rw [show s__law_room_3 V2.S = _ from rfl]
    unfold s__law_room_3
    by_cases hc : (decide (i = 0) || decide (x % 7 = 0)) = true
    · refine ⟨[], ⟨by simp, by simp⟩, .inl rfl, _, rfl, ?_⟩
      rw [hc] at t1
      rw [x_sAsg, x_eIf, t1]
      rfl
    · have hc : (decide (i = 0) || decide (x % 7 = 0)) = false := by simpa using hc
      rw [hc] at t1
      have hi0 : i ≠ 0 := by
        intro e
        rw [e] at hc
        simp at hc
      by_cases h4 : x % 7 < 4
      · have t2 : tBl (eOp fLt (eV 5) (eC (.int 4))) V2.S = .ok (true, V2.S) := by
          rw [x_tBl, x_eOp, y5, VL.R.bind_ok, x_eC, VL.R.bind_ok]
          simp [h4]
        have hj : i - 1 < names.length := by omega
        refine ⟨names[i - 1], hn _ (List.getElem_mem hj), .inr ⟨i - 1, by omega, List.getElem?_eq_getElem hj⟩, _, rfl, ?_⟩
        have e1 : ((i : Int) - 1) = ((i - 1 : Nat) : Int) := by omega
        have e2 : eOp fIx (eV 1) (eOp fSub (eV 3) (eC (.int 1))) V2.S = .ok (.str names[i - 1], V2.S) := by
          rw [x_eOp, y1, VL.R.bind_ok, x_eOp, y3, VL.R.bind_ok, x_eC, VL.R.bind_ok]
          simp [e1, ixN hj]
        rw [x_sAsg, x_eIf, t1]
        simp only [VL.R.bind_ok, Bool.false_eq_true, if_false]
        rw [x_eIf, t2]
        simp only [VL.R.bind_ok, if_true, e2]
        rfl
      · have t2 : tBl (eOp fLt (eV 5) (eC (.int 4))) V2.S = .ok (false, V2.S) := by
          rw [x_tBl, x_eOp, y5, VL.R.bind_ok, x_eC, VL.R.bind_ok]
          simp
          omega
        obtain ⟨j, ej, hj⟩ : ∃ j : Nat, x / 7 % (i : Int) = j ∧ j < i := by
          have q1 := Int.emod_nonneg (x / 7) (show (i : Int) ≠ 0 by omega)
          have q2 := Int.emod_lt_of_pos (x / 7) (show (0 : Int) < i by omega)
          exact ⟨(x / 7 % (i : Int)).toNat, by omega, by omega⟩
        have hj2 : j < names.length := by omega
        refine ⟨names[j], hn _ (List.getElem_mem hj2), .inr ⟨j, hj, List.getElem?_eq_getElem hj2⟩, _, rfl, ?_⟩
        have e2 : eOp fIx (eV 1) (eOp fMod (eV 4) (eV 3)) V2.S = .ok (.str names[j], V2.S) := by
          rw [x_eOp, y1, VL.R.bind_ok, x_eOp, y4, VL.R.bind_ok, y3, VL.R.bind_ok, fMod_p (by omega), VL.R.bind_ok, ej, ixN hj2]
        rw [x_sAsg, x_eIf, t1]
        simp only [VL.R.bind_ok, Bool.false_eq_true, if_false]
        rw [x_eIf, t2]
        simp only [VL.R.bind_ok, Bool.false_eq_true, if_false, e2]
        rfl
  obtain ⟨V4, hV4⟩ : ∃ V : L__law_room, V = { V3 with mm := [.lst ((t ++ [(⟨names[i], h⟩ : Row)]).map rowD)] } := ⟨_, rfl⟩
  have s4 : s__law_room_4 V3.S = .nx V4.S := by
    have y2 : eV 2 V3.S = .ok (.loc 0, V3.S) := by rw [hV3, hV2, hV1]; simp [L__law_room.S, b.w2]
    have y3 : eV 3 V3.S = .ok (.int (i : Nat), V3.S) := by rw [hV3, hV2, hV1]; simp [L__law_room.S, w3]
    have y1 : eV 1 V3.S = .ok (.lst (names.map D.str), V3.S) := by rw [hV3, hV2, hV1]; simp [L__law_room.S, b.w1]
    have y6 : eV 6 V3.S = .ok (.str h, V3.S) := by rw [hV3]; simp [L__law_room.S]
    have hm3 : V3.S.m = [.lst (t.map rowD)] := by rw [hV3, hV2, hV1]; exact hm
    have et : eTup (aCons (eOp fIx (eV 1) (eV 3)) (aCons (eV 6) aNil)) V3.S = .ok (rowD ⟨names[i], h⟩, V3.S) := by
      rw [x_eTup, x_aCons, x_eOp, y1, VL.R.bind_ok, y3, VL.R.bind_ok, ixN hi, VL.R.bind_ok, x_aCons, y6]
      simp only [VL.R.bind_ok, x_aNil, List.length_cons, List.length_nil, Nat.zero_add, Nat.reduceAdd, z2, if_true]
      rfl
    have htl : t.length < SZ := by rw [SZv]; omega
    rw [s__law_room_4, x_sDrop, x_eLM, y2, VL.R.bind_ok]
    simp only [hm3, List.getElem?_cons_zero, x_aCons, et, VL.R.bind_ok, x_aNil, x_lmApp, List.length_map, htl, if_true]
    rw [hV4]
    simp only [VL.R.to_ok, List.set_cons_zero, List.map_append, List.map_cons, List.map_nil]
    rfl
  refine ⟨V4, ⟨names[i], h⟩, ⟨hn _ (List.getElem_mem hi), hh⟩, ⟨rfl, hj⟩, by rw [hV4, hV3, hV2, hV1]; exact ⟨b.w0, b.w1, b.w2⟩, by rw [hV4], ?_⟩
  rw [b__law_room_5, x_sSeq, s1, VL.C.seq_nx, x_sSeq, s2, VL.C.seq_nx, x_sSeq, s3, VL.C.seq_nx, s4]
theorem fine_of {L N : Nat} {t : List Row} (h : Lim L N t) (h1 : L ≤ 100000) : ∀ r ∈ t, Fine r := fun r hr => by
  obtain ⟨⟨a, b⟩, c, d⟩ := h.1 r hr
  exact ⟨⟨by omega, b⟩, by omega, d⟩
theorem room_ok2 {ds : List Int} {names : List (List Nat)} (hl : ds.length = names.length) (hr : ∀ x ∈ ds, 0 ≤ x ∧ x < 5040) (hn : ∀ z ∈ names, Sgs 12 z) (hn2 : names.length ≤ 30) : ∃ t, Lim 12 30 t ∧ (∃ t0 : List Row, sortD (t0.map rowD) = t.map rowD ∧ t0.map (·.a) = names ∧ ∀ (i : Nat) (r : Row), t0[i]? = some r → r.b = [] ∨ ∃ j, j < i ∧ names[j]? = some r.b) ∧ f__law_room [.lst (iL ds), .lst (names.map D.str)] = .ok (tabD t) := by
  obtain ⟨V2, hV2⟩ : ∃ V : L__law_room, V = { v_draws := some (.lst (iL ds)), v_names := some (.lst (names.map D.str)), v_found := some (.loc 0), mm := [.lst []] } := ⟨_, rfl⟩
  have s6 : s__law_room_6 (L__law_room.S { v_draws := some (.lst (iL ds)), v_names := some (.lst (names.map D.str)) }) = .nx V2.S := by rw [hV2]; simp [s__law_room_6, L__law_room.S]
  obtain ⟨s', e, v, t, rfl, b, hm, htl, htm, hta, htb⟩ := forL_rng (g := gN 3) (b := b__law_room_5) (n := names.length) (s := V2.S) (fun i s => ∃ (v : L__law_room) (t : List Row), s = v.S ∧ RB ds names v ∧ v.mm = [.lst (t.map rowD)] ∧ t.length = i ∧ (∀ r ∈ t, Sgs 12 r.a ∧ Sgs 12 r.b) ∧ t.map (·.a) = names.take i ∧ ∀ (i : Nat) (r : Row), t[i]? = some r → r.b = [] ∨ ∃ j, j < i ∧ names[j]? = some r.b)
    ⟨V2, [], rfl, by rw [hV2]; exact ⟨rfl, rfl, rfl⟩, by rw [hV2]; rfl, rfl, by simp, by simp, by simp⟩ (fun i s hi ⟨v, t, e, b, hm, htl, htm, hta, htb⟩ => by
    subst e
    obtain ⟨v', r, hx, ⟨hra, hrb⟩, b', hm', e'⟩ := room_turn hl hr hn hn2 hi (v := { v with v_at := some (.int (i : Nat)) }) ⟨b.w0, b.w1, b.w2⟩ rfl hm htl
    exact ⟨L__law_room.S { v with v_at := some (.int (i : Nat)) }, rfl, v'.S, .inl e', v', t ++ [r], rfl, b', hm', by rw [List.length_append, htl]; rfl, fun z hz => by
      rcases List.mem_append.mp hz with hz | hz
      · exact htm z hz
      · simp only [List.mem_singleton] at hz; rw [hz]; exact hx, by
      rw [List.map_append, hta, List.take_succ, List.getElem?_eq_getElem hi]
      simp [hra], fun j q hq => by
      by_cases hj : j < t.length
      · rw [List.getElem?_append_left hj] at hq
        exact htb j q hq
      · rw [List.getElem?_append_right (by omega)] at hq
        have h0 : j - t.length = 0 := by
          have := (List.getElem?_eq_some_iff.mp hq).1
          simp at this
          omega
        rw [h0] at hq
        simp at hq
        subst hq
        have : j = i := by omega
        rw [this]
        exact hrb⟩)
  have s7 : s__law_room_7 V2.S = .nx v.S := by
    have hr : ((names.length : Nat) : Int) < 4611686018427387904 := by omega
    have hit : iRg1M (aCons (eCB cLen (aCons (eV 1) aNil)) aNil) V2.S = .ok (rng 0 names.length, V2.S) := by
      rw [hV2]; simp [L__law_room.S, hr]
    rw [s__law_room_7, x_sFor, hit]
    exact e
  obtain ⟨t', et, el, ht'⟩ := sort_rows (P := fun r => Sgs 12 r.a ∧ Sgs 12 r.b) htm
  have so : srtOk (t.map rowD) = true := srt_rows (fine_of (L := 12) (N := 30) ⟨htm, by omega⟩ (by omega))
  have s8 : s__law_room_8 v.S = .rt (tabD t') v.S := by
    have y2 : eV 2 v.S = .ok (.loc 0, v.S) := by simp [L__law_room.S, b.w2]
    have hl0 : lstOf v.S (.loc 0) = some (t.map rowD) := by
      rw [x_lstLoc, show v.S.m = [.lst (t.map rowD)] from hm]
      rfl
    have hf : eFrz (fCB gSorted (aCons (eV 2) aNil)) v.S = .ok (.lst (t'.map rowD), v.S) := by
      rw [x_eFrz, x_fCB, x_aCons, y2]
      simp only [VL.R.bind_ok, x_aNil, x_gSorted, hl0, so, if_true, et]
    rw [s__law_room_8, x_sRet, x_eCB, x_aCons, hf]
    rfl
  refine ⟨t', ⟨ht', by omega⟩, ⟨t, et, by rw [hta, List.take_length], htb⟩, pure_rt rfl ⟨v.S, ?_⟩ (noLoc_tab t')⟩
  show m__law_room (L__law_room.S { v_draws := some (.lst (iL ds)), v_names := some (.lst (names.map D.str)) }) = _
  rw [m__law_room, x_sSeq, s6, VL.C.seq_nx, x_sSeq, s7, VL.C.seq_nx, s8]
theorem room_ok {ds : List Int} {names : List (List Nat)} (hl : ds.length = names.length) (hr : ∀ x ∈ ds, 0 ≤ x ∧ x < 5040) (hn : ∀ z ∈ names, Sgs 12 z) (hn2 : names.length ≤ 30) : ∃ t, Lim 12 30 t ∧ f__law_room [.lst (iL ds), .lst (names.map D.str)] = .ok (tabD t) := by
  obtain ⟨t, h, _, e⟩ := room_ok2 hl hr hn hn2
  exact ⟨t, h, e⟩
end K76
namespace K77
open PySem L2 VL
open K76 (Row rowD tabD Fine Ok Pl0 nx hD kvD kvR nx_in nx_val ix_dict hD_dct prs_rows noLoc_tab ixT cutP cutS Lim Sgs fill_ok in_passed)
/-- the holders of z, and the holders' holders .. -/
def wayL (t : List Row) : Nat → List Nat → List (List Nat)
  | 0, _ => []
  | k + 1, z => if nx t z = [] then [] else nx t z :: wayL t k (nx t z)
/-- the way ends -/
def ends (t : List Row) : Nat → List Nat → Bool
  | 0, _ => false
  | k + 1, z => decide (nx t z = []) || ends t k (nx t z)
theorem wayL_len (t : List Row) : ∀ (k : Nat) (z : List Nat), (wayL t k z).length ≤ k
  | 0, _ => Nat.le_refl _
  | k + 1, z => by
    unfold wayL
    split
    · simp
    · have := wayL_len t k (nx t z)
      simp
      omega
section
variable {t : List Row} (hp : Pl0 t) {x0 x1 : Option D}
include hp
theorem way_loop : ∀ (k N : Nat) (y : List Nat) (acc : List (List Nat)), k < N → y ∈ t.map (·.a) → ends t (k + 1) y = true → acc.length + k ≤ 5000 →
    whileN (tBl (eOp fNe (eV 4) (eC (.str [])))) b_way_3 N ⟨[x0, x1, some (hD t), some (.loc 0), some (.str (nx t y))], [.lst (acc.map D.str)]⟩ = .nx ⟨[x0, x1, some (hD t), some (.loc 0), some (.str [])], [.lst ((acc ++ wayL t (k + 1) y).map D.str)]⟩
  | k, 0, _, _, h, _, _, _ => by omega
  | k, N + 1, y, acc, hk, hy, he, hz => by
    obtain ⟨s0, hs0⟩ : ∃ s0 : S, s0 = ⟨[x0, x1, some (hD t), some (.loc 0), some (.str (nx t y))], [.lst (acc.map D.str)]⟩ := ⟨_, rfl⟩
    have t0 : tBl (eOp fNe (eV 4) (eC (.str []))) s0 = .ok (decide (nx t y ≠ []), s0) := by
      rw [x_tBl, x_eOp, show eV 4 s0 = .ok (.str (nx t y), s0) by rw [hs0]; rfl, VL.R.bind_ok, x_eC, VL.R.bind_ok, fNeS]
      simp
    rw [← hs0]
    unfold whileN
    rw [t0]
    by_cases h1 : nx t y = []
    · have hw : wayL t (k + 1) y = [] := by unfold wayL; rw [if_pos h1]
      rw [hw, List.append_nil]
      simp [h1, hs0]
    · have hxn : nx t y ∈ t.map (·.a) := (nx_in hp hy).resolve_left h1
      have hw : wayL t (k + 1) y = nx t y :: wayL t k (nx t y) := by conv => lhs; unfold wayL; rw [if_neg h1]
      have he' : ends t k (nx t y) = true := by
        unfold ends at he
        simpa [h1] using he
      obtain ⟨k', rfl⟩ : ∃ k', k = k' + 1 := by
        cases k with
        | zero => cases he'
        | succ k => exact ⟨k, rfl⟩
      have hd : decide (nx t y ≠ []) = true := decide_eq_true h1
      have e1 : s_way_1 s0 = .nx ⟨[x0, x1, some (hD t), some (.loc 0), some (.str (nx t y))], [.lst ((acc ++ [nx t y]).map D.str)]⟩ := by
        have : acc.length < SZ := by rw [SZv]; omega
        rw [hs0]
        simp [s_way_1, this]
      have e2 : s_way_2 ⟨[x0, x1, some (hD t), some (.loc 0), some (.str (nx t y))], [.lst ((acc ++ [nx t y]).map D.str)]⟩ = .nx ⟨[x0, x1, some (hD t), some (.loc 0), some (.str (nx t (nx t y)))], [.lst ((acc ++ [nx t y]).map D.str)]⟩ := by
        have := ix_dict (t := t) (z := nx t y) (x := hD t) (s := ⟨[x0, x1, some (hD t), some (.loc 0), some (.str (nx t y))], [.lst ((acc ++ [nx t y]).map D.str)]⟩) (hD_dct t _) rfl (fun a e => by cases e) hxn
        rw [s_way_2, x_sAsg, x_eOp]
        rw [show eV 2 (⟨[x0, x1, some (hD t), some (.loc 0), some (.str (nx t y))], [.lst ((acc ++ [nx t y]).map D.str)]⟩ : S) = .ok (hD t, ⟨[x0, x1, some (hD t), some (.loc 0), some (.str (nx t y))], [.lst ((acc ++ [nx t y]).map D.str)]⟩) from rfl, VL.R.bind_ok]
        rw [show eV 4 (⟨[x0, x1, some (hD t), some (.loc 0), some (.str (nx t y))], [.lst ((acc ++ [nx t y]).map D.str)]⟩ : S) = .ok (.str (nx t y), ⟨[x0, x1, some (hD t), some (.loc 0), some (.str (nx t y))], [.lst ((acc ++ [nx t y]).map D.str)]⟩) from rfl, VL.R.bind_ok, this]
        rfl
      have hb : b_way_3 s0 = .nx ⟨[x0, x1, some (hD t), some (.loc 0), some (.str (nx t (nx t y)))], [.lst ((acc ++ [nx t y]).map D.str)]⟩ := by
        rw [b_way_3, x_sSeq, e1, VL.C.seq_nx, e2]
      have ih := way_loop k' N (nx t y) (acc ++ [nx t y]) (by omega) hxn he' (by rw [List.length_append]; simp; omega)
      rw [hd]
      simp only [VL.R.to_ok, if_true]
      rw [hb, VL.C.loop_nx, ih, hw]
      simp
theorem way_ok {z : List Nat} (hz : z ∈ t.map (·.a)) {k : Nat} (hk : k ≤ 2000) (he : ends t (k + 1) z = true) : f_way [tabD t, .str z] = .ok (.tup ((wayL t (k + 1) z).map D.str)) := by
  let s0 : S := ⟨[some (tabD t), some (.str z), none, none, none], []⟩
  have e4 : s_way_4 s0 = .nx ⟨[some (tabD t), some (.str z), some (hD t), none, none], []⟩ := by
    have : eFrz (fCB gDict (aCons (eV 0) aNil)) s0 = .ok (hD t, s0) := by
      have g : gDict [tabD t] s0 = .ok (.dct (kvD t), s0) := by
        unfold gDict tabD
        dsimp only
        rw [prs_rows]
        rfl
      rw [x_eFrz, x_fCB, x_aCons, show eV 0 s0 = .ok (tabD t, s0) from rfl]
      simp only [VL.R.bind_ok, x_aNil, g]
      rfl
    rw [s_way_4, x_sAsg, this]
    rfl
  have e5 : s_way_5 ⟨[some (tabD t), some (.str z), some (hD t), none, none], []⟩ = .nx ⟨[some (tabD t), some (.str z), some (hD t), some (.loc 0), none], [.lst []]⟩ := rfl
  have e6 : s_way_6 ⟨[some (tabD t), some (.str z), some (hD t), some (.loc 0), none], [.lst []]⟩ = .nx ⟨[some (tabD t), some (.str z), some (hD t), some (.loc 0), some (.str (nx t z))], [.lst []]⟩ := by
    have := ix_dict (t := t) (z := z) (x := hD t) (s := ⟨[some (tabD t), some (.str z), some (hD t), some (.loc 0), none], [.lst []]⟩) (hD_dct t _) rfl (fun a e => by cases e) hz
    rw [s_way_6, x_sAsg, x_eOp]
    rw [show eV 2 (⟨[some (tabD t), some (.str z), some (hD t), some (.loc 0), none], [.lst []]⟩ : S) = .ok (hD t, ⟨[some (tabD t), some (.str z), some (hD t), some (.loc 0), none], [.lst []]⟩) from rfl, VL.R.bind_ok]
    rw [show eV 1 (⟨[some (tabD t), some (.str z), some (hD t), some (.loc 0), none], [.lst []]⟩ : S) = .ok (.str z, ⟨[some (tabD t), some (.str z), some (hD t), some (.loc 0), none], [.lst []]⟩) from rfl, VL.R.bind_ok, this]
    rfl
  have e7 := way_loop hp (x0 := some (tabD t)) (x1 := some (.str z)) k 1000000 z [] (by omega) hz he (by simp; omega)
  have e7 : s_way_7 ⟨[some (tabD t), some (.str z), some (hD t), some (.loc 0), some (.str (nx t z))], [.lst []]⟩ = .nx ⟨[some (tabD t), some (.str z), some (hD t), some (.loc 0), some (.str [])], [.lst ((wayL t (k + 1) z).map D.str)]⟩ := e7
  refine pure_rt rfl ⟨⟨[some (tabD t), some (.str z), some (hD t), some (.loc 0), some (.str [])], [.lst ((wayL t (k + 1) z).map D.str)]⟩, ?_⟩ (by
    show noLocs ((wayL t (k + 1) z).map D.str) = true
    exact noLocs_all fun d hd => by
      obtain ⟨z, _, rfl⟩ := List.mem_map.mp hd
      rfl)
  show m_way s0 = _
  rw [m_way, x_sSeq, e4, VL.C.seq_nx, x_sSeq, e5, VL.C.seq_nx, x_sSeq, e6, VL.C.seq_nx, x_sSeq, e7, VL.C.seq_nx]
  rfl
end
end K77
namespace K77
open PySem L2 VL
open K76 (Row rowD tabD Fine Ok Pl0 nx hD kvD kvR kS put_len nx_in nx_val ix_dict hD_dct prs_rows noLoc_tab ixT cutP cutS Lim Sgs rng_succ)
theorem fill_ok {x0 x1 : Option D} : ∀ (l : List Row) (acc : List (Key × D)) (q3 q4 : Option D), acc.length + l.length ≤ 2000 →
    ∃ q3' q4', forL (gTupM (gsCons (gN 3) (gsCons (gN 4) gsNil))) b__law_holders_1 (l.map rowD) ⟨[x0, x1, some (.loc 0), q3, q4, none, none, none], [.dct acc]⟩ = .nx ⟨[x0, x1, some (.loc 0), q3', q4', none, none, none], [.dct (mergeD acc (kvR l))]⟩
  | [], acc, q3, q4, _ => ⟨q3, q4, rfl⟩
  | r :: l, acc, q3, q4, h => by
    rw [List.length_cons] at h
    have hz : acc.length < SZ := by rw [SZv]; omega
    obtain ⟨q3', q4', e⟩ := fill_ok (x0 := x0) (x1 := x1) l (putD acc (kS r.a) (.str r.b)) (some (.str r.a)) (some (.str r.b)) (by have := put_len (l := acc) (k := kS r.a) (d := D.str r.b); omega)
    refine ⟨q3', q4', ?_⟩
    have g : (gTupM (gsCons (gN 3) (gsCons (gN 4) gsNil))) (rowD r) ⟨[x0, x1, some (.loc 0), q3, q4, none, none, none], [.dct acc]⟩ = .nx ⟨[x0, x1, some (.loc 0), some (.str r.a), some (.str r.b), none, none, none], [.dct acc]⟩ := by simp [rowD]
    have b : b__law_holders_1 ⟨[x0, x1, some (.loc 0), some (.str r.a), some (.str r.b), none, none, none], [.dct acc]⟩ = .nx ⟨[x0, x1, some (.loc 0), some (.str r.a), some (.str r.b), none, none, none], [.dct (putD acc (kS r.a) (.str r.b))]⟩ := by
      have ek : keyOf (.str r.a) = some (kS r.a) := rfl
      simp [b__law_holders_1, fSet, ek, hz]
    rw [List.map_cons, forL_cons, g, VL.C.seq_nx, b, VL.C.loop_nx, e]
    rfl
section
variable {t : List Row} (hp : Pl0 t) {x0 x1 q3 q4 : Option D}
include hp
theorem hold_loop : ∀ (k : Nat) (lo : Int) (y : List Nat) (acc : List (List Nat)) (q7 : Option D), y ∈ t.map (·.a) → ends t (k + 1) y = true → acc.length + k ≤ 5000 →
    ∃ s', forL (gN 7) b__law_holders_5 (rng lo k) ⟨[x0, x1, some (.loc 0), q3, q4, some (.loc 1), some (.str (nx t y)), q7], [.dct (kvD t), .lst (acc.map D.str)]⟩ = .nx s' ∧ s'.r[5]? = some (some (.loc 1)) ∧ s'.m[1]? = some (.lst ((acc ++ wayL t (k + 1) y).map D.str))
  | 0, lo, y, acc, q7, hy, he, hz => by
    have h1 : nx t y = [] := by
      unfold ends at he
      simpa [ends] using he
    have hw : wayL t 1 y = [] := by unfold wayL; rw [if_pos h1]
    refine ⟨_, rfl, rfl, ?_⟩
    rw [hw, List.append_nil]
    rfl
  | k + 1, lo, y, acc, q7, hy, he, hz => by
    obtain ⟨s1, hs1⟩ : ∃ s1 : S, s1 = ⟨[x0, x1, some (.loc 0), q3, q4, some (.loc 1), some (.str (nx t y)), some (.int lo)], [.dct (kvD t), .lst (acc.map D.str)]⟩ := ⟨_, rfl⟩
    have g : gN 7 (.int lo) ⟨[x0, x1, some (.loc 0), q3, q4, some (.loc 1), some (.str (nx t y)), q7], [.dct (kvD t), .lst (acc.map D.str)]⟩ = .nx s1 := by rw [hs1]; rfl
    have t0 : tBl (eOp fEq (eV 6) (eC (.str []))) s1 = .ok (decide (nx t y = []), s1) := by
      rw [x_tBl, x_eOp, show eV 6 s1 = .ok (.str (nx t y), s1) by rw [hs1]; rfl, VL.R.bind_ok, x_eC, VL.R.bind_ok, fEqS]
      rfl
    rw [rng_succ, forL_cons, g, VL.C.seq_nx]
    by_cases h1 : nx t y = []
    · have hw : wayL t (k + 1 + 1) y = [] := by unfold wayL; rw [if_pos h1]
      have hb : b__law_holders_5 s1 = .bk s1 := by
        rw [b__law_holders_5, x_sSeq, s__law_holders_2, x_sIf, t0]
        simp [h1]
      refine ⟨s1, by rw [hb]; rfl, by rw [hs1]; rfl, ?_⟩
      rw [hw, List.append_nil, hs1]
      rfl
    · have hxn : nx t y ∈ t.map (·.a) := (nx_in hp hy).resolve_left h1
      have hw : wayL t (k + 1 + 1) y = nx t y :: wayL t (k + 1) (nx t y) := by conv => lhs; unfold wayL; rw [if_neg h1]
      have he' : ends t (k + 1) (nx t y) = true := by
        conv at he => lhs; unfold ends
        simpa [h1] using he
      obtain ⟨s2, hs2⟩ : ∃ s2 : S, s2 = ⟨[x0, x1, some (.loc 0), q3, q4, some (.loc 1), some (.str (nx t y)), some (.int lo)], [.dct (kvD t), .lst ((acc ++ [nx t y]).map D.str)]⟩ := ⟨_, rfl⟩
      have e2 : s__law_holders_2 s1 = .nx s1 := by
        rw [s__law_holders_2, x_sIf, t0]
        simp [h1]
      have e3 : s__law_holders_3 s1 = .nx s2 := by
        have : acc.length < SZ := by rw [SZv]; omega
        rw [hs2, hs1]
        simp [s__law_holders_3, this]
      have e4 : s__law_holders_4 s2 = .nx ⟨[x0, x1, some (.loc 0), q3, q4, some (.loc 1), some (.str (nx t (nx t y))), some (.int lo)], [.dct (kvD t), .lst ((acc ++ [nx t y]).map D.str)]⟩ := by
        have := ix_dict (t := t) (z := nx t y) (x := .loc 0) (s := s2) (by rw [hs2]; rfl) (by rw [hs2]; rfl) (fun a e => by cases e) hxn
        rw [s__law_holders_4, x_sAsg, x_eOp, show eV 2 s2 = .ok (.loc 0, s2) by rw [hs2]; rfl, VL.R.bind_ok, show eV 6 s2 = .ok (.str (nx t y), s2) by rw [hs2]; rfl, VL.R.bind_ok, this, hs2]
        rfl
      have hb : b__law_holders_5 s1 = .nx ⟨[x0, x1, some (.loc 0), q3, q4, some (.loc 1), some (.str (nx t (nx t y))), some (.int lo)], [.dct (kvD t), .lst ((acc ++ [nx t y]).map D.str)]⟩ := by
        rw [b__law_holders_5, x_sSeq, e2, VL.C.seq_nx, x_sSeq, e3, VL.C.seq_nx, e4]
      obtain ⟨s', e, h5, hm⟩ := hold_loop k (lo + 1) (nx t y) (acc ++ [nx t y]) (some (.int lo)) hxn he' (by rw [List.length_append]; simp; omega)
      refine ⟨s', by rw [hb, VL.C.loop_nx, e], h5, ?_⟩
      rw [hm, hw]
      simp
end
end K77
namespace K77
open PySem L2 VL
open K76 (Row rowD tabD Fine Ok Pl0 nx hD kvD kvR kS put_len nx_in nx_val ix_dict hD_dct prs_rows noLoc_tab ixT cutP cutS Lim Sgs rng_succ)
section
variable {t : List Row} (hp : Pl0 t)
include hp
theorem holders_ok (hl : t.length ≤ 1000) {z : List Nat} (hz : z ∈ t.map (·.a)) (he : ends t (t.length + 1) z = true) : f__law_holders [tabD t, .str z] = .ok (.tup ((wayL t (t.length + 1) z).map D.str)) := by
  let s0 : S := ⟨[some (tabD t), some (.str z), none, none, none, none, none, none], []⟩
  have e6 : s__law_holders_6 s0 = .nx ⟨[some (tabD t), some (.str z), some (.loc 0), none, none, none, none, none], [.dct []]⟩ := rfl
  obtain ⟨q3, q4, e⟩ := fill_ok (x0 := some (tabD t)) (x1 := some (.str z)) t [] none none (by simp; omega)
  have e7 : s__law_holders_7 ⟨[some (tabD t), some (.str z), some (.loc 0), none, none, none, none, none], [.dct []]⟩ = .nx ⟨[some (tabD t), some (.str z), some (.loc 0), q3, q4, none, none, none], [.dct (kvD t)]⟩ := by
    rw [s__law_holders_7, x_sFor]
    exact e
  have e8 : s__law_holders_8 ⟨[some (tabD t), some (.str z), some (.loc 0), q3, q4, none, none, none], [.dct (kvD t)]⟩ = .nx ⟨[some (tabD t), some (.str z), some (.loc 0), q3, q4, some (.loc 1), none, none], [.dct (kvD t), .lst []]⟩ := rfl
  obtain ⟨s1, hs1⟩ : ∃ s1 : S, s1 = ⟨[some (tabD t), some (.str z), some (.loc 0), q3, q4, some (.loc 1), none, none], [.dct (kvD t), .lst []]⟩ := ⟨_, rfl⟩
  obtain ⟨s2, hs2⟩ : ∃ s2 : S, s2 = ⟨[some (tabD t), some (.str z), some (.loc 0), q3, q4, some (.loc 1), some (.str (nx t z)), none], [.dct (kvD t), .lst []]⟩ := ⟨_, rfl⟩
  have e9 : s__law_holders_9 s1 = .nx s2 := by
    have := ix_dict (t := t) (z := z) (x := .loc 0) (s := s1) (by rw [hs1]; rfl) (by rw [hs1]; rfl) (fun a e => by cases e) hz
    rw [s__law_holders_9, x_sAsg, x_eOp, show eV 2 s1 = .ok (.loc 0, s1) by rw [hs1]; rfl, VL.R.bind_ok, show eV 1 s1 = .ok (.str z, s1) by rw [hs1]; rfl, VL.R.bind_ok, this, hs1, hs2]
    rfl
  have hit : iRg1M (aCons (eCB cLen (aCons (eV 0) aNil)) aNil) s2 = .ok (rng 0 t.length, s2) := by
    have : ((t.length : Nat) : Int) < 4611686018427387904 := by omega
    rw [hs2]
    simp [tabD, this]
  obtain ⟨s', e10, h5, hm⟩ := hold_loop hp (x0 := some (tabD t)) (x1 := some (.str z)) (q3 := q3) (q4 := q4) t.length 0 z [] none hz he (by simp; omega)
  have e10 : s__law_holders_10 s2 = .nx s' := by
    rw [s__law_holders_10, x_sFor, hit, hs2]
    simp only [VL.R.to_ok]
    exact e10
  have e11 : s__law_holders_11 s' = .rt (.tup ((wayL t (t.length + 1) z).map D.str)) s' := by
    rw [s__law_holders_11, x_sRet, x_eCB, x_aCons, x_eV]
    simp only [h5, VL.R.bind_ok, x_aNil, x_c1, gTuple, x_lstLoc, hm, List.nil_append, VL.R.to_ok]
  rw [← hs1] at e8
  refine pure_rt rfl ⟨s', ?_⟩ (by
    show noLocs ((wayL t (t.length + 1) z).map D.str) = true
    exact noLocs_all fun d hd => by
      obtain ⟨z, _, rfl⟩ := List.mem_map.mp hd
      rfl)
  show m__law_holders s0 = _
  rw [m__law_holders, x_sSeq, e6, VL.C.seq_nx, x_sSeq, e7, VL.C.seq_nx, x_sSeq, e8, VL.C.seq_nx, x_sSeq, e9, VL.C.seq_nx, x_sSeq, e10, VL.C.seq_nx, e11]
end
end K77
namespace K77
open PySem L2 VL
open K76 (Row rowD tabD Fine Ok Pl0 nx hD kvD kvR kS put_len nx_in nx_val ix_dict hD_dct prs_rows noLoc_tab ixT cutP cutS Lim Sgs rng_succ)
theorem in_tup (x : List Nat) (l : List (List Nat)) (s : S) : fIn (.str x) (.tup (l.map D.str)) s = .ok (.bl (decide (x ∈ l)), s) := by
  have h : qIn (.str x) (.tup (l.map D.str)) s = some (decide (x ∈ l)) := by
    unfold qIn
    simp only [seqOf]
    have hf : (flatD (.str x) && (l.map D.str).all flatD) = true := by
      simp [flatD]
    rw [if_pos hf, List.any_map]
    congr 1
    rw [Bool.eq_iff_iff, List.any_eq_true]
    simp [eqD]
  unfold fIn
  rw [h]
/-- the things in whose way x stands, in the room's order -/
def heldL (t : List Row) (x : List Nat) : List (List Nat) := (t.filter fun r => decide (x ∈ wayL t (t.length + 1) r.a)).map (·.a)
theorem held_ok {t : List Row} (hp : Pl0 t) (hl : t.length ≤ 1000) (he : ∀ r ∈ t, ends t (t.length + 1) r.a = true) (x : List Nat) : f_held [tabD t, .str x] = .ok (.tup ((heldL t x).map D.str)) := by
  obtain ⟨s0, hs0⟩ : ∃ s0 : S, s0 = ⟨[some (tabD t), some (.str x), none, none], []⟩ := ⟨_, rfl⟩
  have hc : c_held_1 s0 = .ok (.lst ((heldL t x).map D.str), s0) := by
    have hit : iSeqM (eV 0) s0 = .ok (t.map rowD, s0) := by rw [hs0]; simp [tabD]
    rw [c_held_1, x_fLc, hit, VL.R.bind_ok, hs0, lcL_pure (fun d => match d with | .tup [.str a, _] => decide (x ∈ wayL t (t.length + 1) a) | _ => false) (fun d => match d with | .tup [y, _] => y | _ => .non) (t.map rowD) [] (by rw [SZv]; simp; omega) (fun d hd => by
      obtain ⟨q, hq, rfl⟩ := List.mem_map.mp hd
      have hn : q.a ∈ t.map (·.a) := List.mem_map.mpr ⟨q, hq, rfl⟩
      obtain ⟨s1, hs1⟩ : ∃ s1 : S, s1 = ⟨[some (tabD t), some (.str x), some (.str q.a), some (.str q.b)], []⟩ := ⟨_, rfl⟩
      have hw := way_ok hp hn (k := t.length) (by omega) (he q hq)
      have nl : noLocs [tabD t, .str q.a] = true := by simp [noLoc_tab]
      have ec : eCall f_way (aCons (eV 0) (aCons (eV 2) aNil)) s1 = .ok (.tup ((wayL t (t.length + 1) q.a).map D.str), s1) := by
        rw [x_eCall, x_aCons, show eV 0 s1 = .ok (tabD t, s1) by rw [hs1]; rfl, VL.R.bind_ok, x_aCons, show eV 2 s1 = .ok (.str q.a, s1) by rw [hs1]; rfl]
        simp only [VL.R.bind_ok, x_aNil, nl, if_true, hw]
      refine ⟨s1, by rw [hs1]; simp [rowD, wipeD], s1, ?_, fun _ => ⟨s1.r, ?_⟩, by rw [hs1]⟩
      · rw [x_tBl, x_eOp, show eV 1 s1 = .ok (.str x, s1) by rw [hs1]; rfl, VL.R.bind_ok, ec, VL.R.bind_ok, in_tup]
        rfl
      · rw [hs1]; rfl)]
    rw [List.filter_map]
    simp [heldL, rowD, Function.comp_def]
  have hf : eFrz c_held_1 s0 = .ok (.lst ((heldL t x).map D.str), s0) := by rw [x_eFrz, hc]; rfl
  refine pure_rt rfl ⟨s0, ?_⟩ (by
    show noLocs ((heldL t x).map D.str) = true
    exact noLocs_all fun d hd => by
      obtain ⟨z, _, rfl⟩ := List.mem_map.mp hd
      rfl)
  show m_held ⟨[some (tabD t), some (.str x), none, none], []⟩ = _
  rw [← hs0, m_held, x_sRet, x_eCB, x_aCons, hf]
  rfl
end K77
namespace K77
open PySem L2 VL
open K76 (Row rowD tabD Fine Ok Pl0 nx hD kvD kvR kS kS_inj put_len nx_in nx_val ix_dict hD_dct prs_rows noLoc_tab ixT cutP cutS Lim Sgs rng_succ nodup_len)
/-! ### the order of sorted -/
noncomputable def dLe : D → D → Bool := PySem.W.dataLe false toP
theorem dLe_eq (a b : D) : dLe a b = !(PyProof.Rows.lexLt PyProof.Rows.itemOrd (PySem.W.keyToks (toP b)) (PySem.W.keyToks (toP a))) := rfl
theorem dLe_trans (a b c : D) (h1 : dLe a b = true) (h2 : dLe b c = true) : dLe a c = true := by
  rw [dLe_eq] at *
  simp only [Bool.not_eq_true'] at *
  cases h : PyProof.Rows.lexLt PyProof.Rows.itemOrd (PySem.W.keyToks (toP c)) (PySem.W.keyToks (toP a)) with
  | false => rfl
  | true =>
    rcases PyProof.Rows.lex_negTrans _ (PySem.W.keyToks (toP b)) _ h with h | h
    · rw [h2] at h; cases h
    · rw [h1] at h; cases h
theorem dLe_total (a b : D) : (dLe a b || dLe b a) = true := by
  rw [dLe_eq, dLe_eq]
  cases h1 : PyProof.Rows.lexLt PyProof.Rows.itemOrd (PySem.W.keyToks (toP b)) (PySem.W.keyToks (toP a)) with
  | false => rfl
  | true =>
    cases h2 : PyProof.Rows.lexLt PyProof.Rows.itemOrd (PySem.W.keyToks (toP a)) (PySem.W.keyToks (toP b)) with
    | false => rfl
    | true =>
      have := PyProof.Rows.lex_trans _ _ _ h1 h2
      rw [PyProof.Rows.lex_irrefl] at this
      cases this
theorem sortD_pw (l : List D) : (sortD l).Pairwise fun a b => dLe a b = true := List.pairwise_mergeSort dLe_trans dLe_total l
theorem sortD_self {l : List D} (h : l.Pairwise fun a b => dLe a b = true) : sortD l = l := List.mergeSort_of_pairwise h
/-- the order of names -/
noncomputable def nle (a b : List Nat) : Bool := dLe (.str a) (.str b)
theorem toks_row (r : Row) : PySem.W.keyToks (toP (rowD r)) = [.inl 1, .inr r.a, .inl 1, .inr r.b, .inl 0] := by
  simp [rowD, toP, toPs, PySem.W.keyToks, PySem.W.keyToksAll]
theorem toks_str (a : List Nat) : PySem.W.keyToks (toP (.str a)) = [.inr a] := by
  simp [toP, PySem.W.keyToks]
theorem dLe_row {r q : Row} (h : r.a ≠ q.a) : dLe (rowD r) (rowD q) = nle r.a q.a := by
  have h' : (Sum.inr q.a : Int ⊕ List Nat) ≠ .inr r.a := fun e => h (Sum.inr.inj e).symm
  unfold nle
  rw [dLe_eq, dLe_eq, toks_row, toks_row, toks_str, toks_str]
  rw [PyProof.Rows.lex_self (O := PyProof.Rows.itemOrd), PyProof.Rows.lex_diff (O := PyProof.Rows.itemOrd) h', PyProof.Rows.lex_diff (O := PyProof.Rows.itemOrd) h']
/-- in order, no name twice -/
def Srt (t : List Row) : Prop := t.Pairwise fun r q => r.a ≠ q.a ∧ nle r.a q.a = true
theorem srt_rows {t : List Row} (h : Srt t) : sortD (t.map rowD) = t.map rowD := by
  refine sortD_self ?_
  rw [List.pairwise_map]
  exact h.imp fun ⟨h1, h2⟩ => by rw [dLe_row h1]; exact h2
theorem srt_nodup {t : List Row} (h : Srt t) : (t.map (·.a)).Nodup := by
  unfold List.Nodup
  rw [List.pairwise_map]
  exact h.imp fun h => h.1
theorem srt_names {t : List Row} (h : Srt t) : (t.map (·.a)).Pairwise fun a b => nle a b = true := by
  rw [List.pairwise_map]
  exact h.imp fun h => h.2
theorem srt_of {t t' : List Row} (h : (t.map (·.a)).Nodup) (e : sortD (t.map rowD) = t'.map rowD) : Srt t' ∧ t'.Perm t := by
  have hinj : ∀ a b : Row, rowD a = rowD b → a = b := fun a b e => by
    obtain ⟨a1, a2⟩ := a
    obtain ⟨b1, b2⟩ := b
    simp [rowD] at e
    rw [e.1, e.2]
  have hp : t'.Perm t := by
    have := sortD_perm (t.map rowD)
    rw [e] at this
    have h2 := this.map (fun d => match d with | .tup [.str a, .str b] => (⟨a, b⟩ : Row) | _ => ⟨[], []⟩)
    rw [List.map_map, List.map_map] at h2
    have hid : (fun d => match d with | .tup [.str a, .str b] => (⟨a, b⟩ : Row) | _ => ⟨[], []⟩) ∘ rowD = id := by
      funext r
      rfl
    rw [hid, List.map_id, List.map_id] at h2
    exact h2
  have hpw := sortD_pw (t.map rowD)
  rw [e, List.pairwise_map] at hpw
  have hn : (t'.map (·.a)).Nodup := ((hp.map (·.a)).nodup_iff).mpr h
  unfold List.Nodup at hn
  rw [List.pairwise_map] at hn
  refine ⟨?_, hp⟩
  have := hn.and hpw
  exact this.imp fun {a b} ⟨h1, h2⟩ => ⟨h1, by rw [← dLe_row h1]; exact h2⟩
/-! ### the dict of a room without a name twice -/
theorem put_new {A : Type} {l : List (Key × A)} {k : Key} {d : A} (h : k ∉ l.map (·.1)) : putD l k d = l ++ [(k, d)] := by
  unfold putD
  rw [if_neg]
  intro hh
  obtain ⟨p, hp, e⟩ := List.any_eq_true.mp hh
  exact h (List.mem_map.mpr ⟨p, hp, by simpa using e⟩)
theorem merge_new : ∀ {m l : List (Key × D)}, ((l ++ m).map (·.1)).Nodup → mergeD l m = l ++ m
  | [], l, _ => by simp [mergeD]
  | p :: m, l, h => by
    have h1 : p.1 ∉ l.map (·.1) := by
      rw [List.map_append, List.nodup_append] at h
      exact fun hh => h.2.2 _ hh _ (by simp) rfl
    have e : mergeD l (p :: m) = mergeD (putD l p.1 p.2) m := rfl
    rw [e, put_new h1, merge_new (by simpa [List.append_assoc] using h)]
    simp
theorem kvD_eq {t : List Row} (h : (t.map (·.a)).Nodup) : kvD t = kvR t := by
  unfold kvD
  rw [merge_new, List.nil_append]
  rw [List.nil_append]
  have e : (kvR t).map (·.1) = (t.map (·.a)).map kS := by simp [kvR, Function.comp_def]
  rw [e]
  unfold List.Nodup
  rw [List.pairwise_map]
  exact h.imp fun h e => h (kS_inj e)
theorem val_row : ∀ {t : List Row} {r : Row}, (t.map (·.a)).Nodup → r ∈ t → valD (kvR t) (kS r.a) = some (.str r.b)
  | q :: t, r, h, hr => by
    unfold kvR valD
    rw [List.map_cons, List.find?_cons]
    by_cases hq : q.a = r.a
    · have : r = q := by
        rcases List.mem_cons.mp hr with e | hr
        · exact e
        · rw [List.map_cons] at h
          exact absurd (List.mem_map.mpr ⟨r, hr, hq.symm⟩) (List.nodup_cons.mp h).1
      subst this
      simp
    · have : decide (kS q.a = kS r.a) = false := decide_eq_false fun e => hq (kS_inj e)
      rw [this]
      have hr' : r ∈ t := (List.mem_cons.mp hr).resolve_left fun e => hq (by rw [e])
      rw [List.map_cons] at h
      exact val_row (List.nodup_cons.mp h).2 hr'
theorem nx_row {t : List Row} (h : (t.map (·.a)).Nodup) {r : Row} (hr : r ∈ t) : nx t r.a = r.b := by
  unfold nx
  rw [kvD_eq h, val_row h hr]
end K77
namespace K77
open PySem L2 VL
open K76 (Row rowD tabD Fine Ok Pl0 nx hD kvD kvR kS kS_inj put_len nx_in nx_val ix_dict hD_dct prs_rows noLoc_tab ixT cutP cutS Lim Sgs rng_succ nodup_len)
/-! ### ways that end -/
section
variable {t : List Row}
theorem ends_s (k : Nat) (z : List Nat) : ends t (k + 1) z = (decide (nx t z = []) || ends t k (nx t z)) := rfl
theorem way_nil {k : Nat} {z : List Nat} (h : nx t z = []) : wayL t k z = [] := by
  cases k with
  | zero => rfl
  | succ k => unfold wayL; rw [if_pos h]
theorem way_s {k : Nat} {z : List Nat} (h : nx t z ≠ []) : wayL t (k + 1) z = nx t z :: wayL t k (nx t z) := by
  conv => lhs; unfold wayL
  rw [if_neg h]
theorem ends_step {k : Nat} {z : List Nat} (h : ends t (k + 1) z = true) (h1 : nx t z ≠ []) : ends t k (nx t z) = true := by
  rw [ends_s] at h
  simpa [h1] using h
theorem ends_mono : ∀ {k m : Nat} {z : List Nat}, k ≤ m → ends t k z = true → ends t m z = true ∧ wayL t m z = wayL t k z
  | 0, _, _, _, h => by cases h
  | k + 1, 0, _, hm, _ => by omega
  | k + 1, m + 1, z, hm, h => by
    by_cases h1 : nx t z = []
    · rw [ends_s, way_nil h1, way_nil h1]
      simp [h1]
    · obtain ⟨e1, e2⟩ := ends_mono (k := k) (m := m) (by omega) (ends_step h h1)
      rw [ends_s, way_s h1, way_s h1, e1, e2]
      simp
theorem way_sub : ∀ {k : Nat} {z y : List Nat}, ends t k z = true → y ∈ wayL t k z → ∃ k', k' < k ∧ ends t k' y = true
  | 0, _, _, h, _ => by cases h
  | k + 1, z, y, h, hy => by
    by_cases h1 : nx t z = []
    · rw [way_nil h1] at hy
      cases hy
    · have he := ends_step h h1
      rw [way_s h1] at hy
      rcases List.mem_cons.mp hy with rfl | hy
      · exact ⟨k, by omega, he⟩
      · obtain ⟨k', h1, h2⟩ := way_sub he hy
        exact ⟨k', by omega, h2⟩
theorem way_irr (n : Nat) : ∀ k, k ≤ n → ∀ {z : List Nat}, ends t k z = true → z ∉ wayL t k z := by
  induction n with
  | zero =>
    intro k hk z h
    obtain rfl : k = 0 := by omega
    cases h
  | succ n ih =>
    intro k hk z h hz
    obtain ⟨k', h1, h2⟩ := way_sub h hz
    rw [(ends_mono (show k' ≤ k by omega) h2).2] at hz
    exact ih k' (by omega) h2 hz
theorem way_nodup : ∀ {k : Nat} {z : List Nat}, ends t k z = true → (wayL t k z).Nodup
  | 0, _, h => by cases h
  | k + 1, z, h => by
    by_cases h1 : nx t z = []
    · rw [way_nil h1]
      exact List.nodup_nil
    · have he := ends_step h h1
      rw [way_s h1, List.nodup_cons]
      exact ⟨way_irr k k (by omega) he, way_nodup he⟩
theorem way_in (hp : Pl0 t) : ∀ {k : Nat} {z : List Nat}, z ∈ t.map (·.a) → ∀ y ∈ wayL t k z, y ∈ t.map (·.a)
  | 0, _, _, _, h => by cases h
  | k + 1, z, hz, y, h => by
    by_cases h1 : nx t z = []
    · rw [way_nil h1] at h
      cases h
    · have hn := (nx_in hp hz).resolve_left h1
      rw [way_s h1] at h
      rcases List.mem_cons.mp h with rfl | h
      · exact hn
      · exact way_in hp hn y h
theorem ends_len : ∀ {k : Nat} {z : List Nat}, ends t k z = true → ends t ((wayL t k z).length + 1) z = true
  | 0, _, h => by cases h
  | k + 1, z, h => by
    by_cases h1 : nx t z = []
    · rw [ends_s]
      simp [h1]
    · rw [way_s h1, List.length_cons, ends_s, ends_len (ends_step h h1)]
      simp
theorem ends_full (hp : Pl0 t) {k : Nat} {z : List Nat} (hz : z ∈ t.map (·.a)) (h : ends t k z = true) : ends t (t.length + 1) z = true := by
  have h1 := nodup_len (List.nodup_cons.mpr ⟨way_irr k k (by omega) h, way_nodup h⟩) (a := t.map (·.a)) fun c hc => by
    rcases List.mem_cons.mp hc with rfl | hc
    · exact hz
    · exact way_in hp hz c hc
  rw [List.length_cons, List.length_map] at h1
  exact (ends_mono (by omega) (ends_len h)).1
end
/-! ### a good room over names -/
structure G (names : List (List Nat)) (t : List Row) : Prop where
  mem : ∀ z, z ∈ t.map (·.a) ↔ z ∈ names
  srt : Srt t
  hld : ∀ r ∈ t, r.b = [] ∨ r.b ∈ names
  fin : ∀ z ∈ names, ∃ k, ends t k z = true
  sg : ∀ z ∈ names, Sgs 12 z ∧ z ≠ []
  len : t.length ≤ 30
section
variable {names : List (List Nat)} {t : List Row} (g : G names t)
include g
theorem G.pl : Pl0 t := ⟨fun r hr => (g.sg r.a ((g.mem _).mp (List.mem_map.mpr ⟨r, hr, rfl⟩))).2, fun r hr => (g.hld r hr).imp id fun h => (g.mem _).mpr h⟩
theorem G.ends {z : List Nat} (hz : z ∈ names) : ends t (t.length + 1) z = true := by
  obtain ⟨k, h⟩ := g.fin z hz
  exact ends_full g.pl ((g.mem z).mpr hz) h
theorem G.ends' : ∀ r ∈ t, K77.ends t (t.length + 1) r.a = true := fun r hr => g.ends ((g.mem _).mp (List.mem_map.mpr ⟨r, hr, rfl⟩))
theorem G.nd : (t.map (·.a)).Nodup := srt_nodup g.srt
theorem G.fine : ∀ r ∈ t, Fine r := fun r hr => by
  obtain ⟨⟨h1, h2⟩, _⟩ := g.sg r.a ((g.mem _).mp (List.mem_map.mpr ⟨r, hr, rfl⟩))
  refine ⟨⟨by omega, h2⟩, ?_⟩
  rcases g.hld r hr with e | h
  · rw [e]; exact ⟨by simp, by simp⟩
  · obtain ⟨⟨h1, h2⟩, _⟩ := g.sg r.b h
    exact ⟨by omega, h2⟩
end
/-! ### a move -/
def mv (t : List Row) (th h : List Nat) : List Row := t.map fun r => ⟨r.a, if r.a = th then h else r.b⟩
theorem mv_names (t : List Row) (th h : List Nat) : (mv t th h).map (·.a) = t.map (·.a) := by simp [mv, Function.comp_def]
theorem mv_srt {t : List Row} (th h : List Nat) (hs : Srt t) : Srt (mv t th h) := by
  unfold Srt mv
  rw [List.pairwise_map]
  exact hs
theorem mv_nx {t : List Row} (hn : (t.map (·.a)).Nodup) {th h z : List Nat} (hz : z ∈ t.map (·.a)) : nx (mv t th h) z = if z = th then h else nx t z := by
  obtain ⟨r, hr, rfl⟩ := List.mem_map.mp hz
  have h1 := nx_row (t := mv t th h) (by rw [mv_names]; exact hn) (r := ⟨r.a, if r.a = th then h else r.b⟩) (List.mem_map.mpr ⟨r, hr, rfl⟩)
  have h2 := nx_row hn hr
  rw [h2]
  exact h1
section
variable {t : List Row} (hp : Pl0 t) (hn : (t.map (·.a)).Nodup) {th h : List Nat}
include hp hn
theorem mv_free : ∀ {k : Nat} {z : List Nat}, z ∈ t.map (·.a) → z ≠ th → th ∉ wayL t k z → ends t k z = true → ends (mv t th h) k z = true
  | 0, _, _, _, _, he => by cases he
  | k + 1, z, hz, h1, h2, he => by
    rw [ends_s, mv_nx hn hz, if_neg h1]
    by_cases h3 : nx t z = []
    · simp [h3]
    · rw [way_s h3, List.mem_cons, not_or] at h2
      rw [mv_free ((nx_in hp hz).resolve_left h3) (fun e => h2.1 e.symm) h2.2 (ends_step he h3)]
      simp
theorem mv_fin (hh : h = [] ∨ ∃ k, ends (mv t th h) k h = true) : ∀ {k : Nat} {z : List Nat}, z ∈ t.map (·.a) → ends t k z = true → ∃ k', ends (mv t th h) k' z = true
  | 0, _, _, he => by cases he
  | k + 1, z, hz, he => by
    by_cases h1 : z = th
    · rcases hh with e | ⟨k', hk⟩
      · exact ⟨1, by rw [ends_s, mv_nx hn hz, if_pos h1]; simp [e]⟩
      · exact ⟨k' + 1, by rw [ends_s, mv_nx hn hz, if_pos h1, hk]; simp⟩
    · by_cases h3 : nx t z = []
      · exact ⟨1, by rw [ends_s, mv_nx hn hz, if_neg h1]; simp [h3]⟩
      · obtain ⟨k', hk⟩ := mv_fin hh ((nx_in hp hz).resolve_left h3) (ends_step he h3)
        exact ⟨k' + 1, by rw [ends_s, mv_nx hn hz, if_neg h1, hk]; simp⟩
end
theorem G.mv {names : List (List Nat)} {t : List Row} (g : G names t) {th h : List Nat} (hh : h = [] ∨ h ∈ names) (h1 : h ≠ th) (h2 : th ∉ wayL t (t.length + 1) h) : G names (mv t th h) := by
  refine ⟨fun z => by rw [mv_names]; exact g.mem z, mv_srt _ _ g.srt, fun r hr => ?_, fun z hz => ?_, g.sg, by rw [K77.mv, List.length_map]; exact g.len⟩
  · obtain ⟨q, hq, rfl⟩ := List.mem_map.mp hr
    dsimp only
    split
    · exact hh
    · exact g.hld q hq
  · have hz' := (g.mem z).mpr hz
    refine mv_fin g.pl g.nd ?_ hz' (g.ends hz)
    by_cases h3 : h = []
    · exact .inl h3
    · have hn := hh.resolve_left h3
      exact .inr ⟨_, mv_free g.pl g.nd ((g.mem h).mpr hn) h1 h2 (g.ends hn)⟩
end K77
namespace K77
open PySem L2 VL
open K76 (Row rowD tabD Fine Ok Pl0 nx hD kvD kvR kS kS_inj put_len nx_in nx_val ix_dict hD_dct prs_rows noLoc_tab ixT cutP cutS Lim Sgs rng_succ nodup_len)
theorem srt_strs {l : List (List Nat)} (h : ∀ z ∈ l, ∀ c ∈ z, c < 1114112) : srtOk (l.map D.str) = true := by
  unfold srtOk
  have h1 : ∀ (n : Nat) (l : List (List Nat)), (∀ z ∈ l, ∀ c ∈ z, c < 1114112) → okDs (n + 1) (l.map D.str) = true := by
    intro n l
    induction l with
    | nil => intro _; simp [okDs]
    | cons z l ih =>
      intro h
      simp only [List.map_cons, okDs, okD, Bool.and_eq_true, List.all_eq_true, decide_eq_true_eq]
      exact ⟨h z (by simp), ih fun z hz => h z (by simp [hz])⟩
  rw [h1 62 l h, Bool.true_and, Bool.and_eq_true]
  constructor
  · refine List.all_eq_true.mpr fun d hd => List.all_eq_true.mpr fun e he => ?_
    obtain ⟨r, _, rfl⟩ := List.mem_map.mp hd
    obtain ⟨q, _, rfl⟩ := List.mem_map.mp he
    rfl
  · unfold srtKind
    rw [Bool.or_eq_true]
    refine .inr (List.all_eq_true.mpr fun d hd => ?_)
    obtain ⟨r, _, rfl⟩ := List.mem_map.mp hd
    rfl
theorem noLocs_str (l : List (List Nat)) : noLocs (l.map D.str) = true := noLocs_all fun d hd => by
  obtain ⟨z, _, rfl⟩ := List.mem_map.mp hd
  rfl
theorem is_eq (n : Nat) : f__law_is n = isF n := by
  induction n with
  | zero => rfl
  | succ n ih =>
    show pureOf 3 2 (m__law_is (f__law_is n)) = pureOf 3 2 (mIs (isF n))
    rw [ih]; rfl
theorem is_strs {l : List (List Nat)} (hl : l.length ≤ 10000) : f__law_is 6 [.tup (l.map D.str), .tup (l.map D.str)] = .ok (.bl true) := by
  rw [is_eq]
  refine isF_refl ⟨by simp; omega, fun d hd => ?_⟩
  obtain ⟨z, _, rfl⟩ := List.mem_map.mp hd
  trivial
section
variable {names : List (List Nat)} {t : List Row} (g : G names t)
include g
theorem G.l1 : t.length ≤ 1000 := by have := g.len; omega
theorem held_len (x : List Nat) : (heldL t x).length ≤ 30 := by
  have := g.len
  have h := List.length_filter_le (fun r => decide (x ∈ wayL t (t.length + 1) r.a)) t
  unfold heldL
  rw [List.length_map]
  omega
theorem law_held_ok (x : List Nat) : f__law_held [tabD t, .str x] = .ok (.tup ((heldL t x).map D.str)) := by
  obtain ⟨s0, hs0⟩ : ∃ s0 : S, s0 = ⟨[some (tabD t), some (.str x), none, none], []⟩ := ⟨_, rfl⟩
  have hp := g.pl
  have hl := g.l1
  have hc : c__law_held_1 s0 = .ok (.lst ((heldL t x).map D.str), s0) := by
    have hit : iSeqM (eV 0) s0 = .ok (t.map rowD, s0) := by rw [hs0]; simp [tabD]
    rw [c__law_held_1, x_fLc, hit, VL.R.bind_ok, hs0, lcL_pure (fun d => match d with | .tup [.str a, _] => decide (x ∈ wayL t (t.length + 1) a) | _ => false) (fun d => match d with | .tup [y, _] => y | _ => .non) (t.map rowD) [] (by rw [SZv]; simp; omega) (fun d hd => by
      obtain ⟨q, hq, rfl⟩ := List.mem_map.mp hd
      have hn : q.a ∈ t.map (·.a) := List.mem_map.mpr ⟨q, hq, rfl⟩
      obtain ⟨s1, hs1⟩ : ∃ s1 : S, s1 = ⟨[some (tabD t), some (.str x), some (.str q.a), some (.str q.b)], []⟩ := ⟨_, rfl⟩
      have hw := holders_ok hp hl hn (g.ends' q hq)
      have nl : noLocs [tabD t, .str q.a] = true := by simp [noLoc_tab]
      have ec : eCall f__law_holders (aCons (eV 0) (aCons (eV 2) aNil)) s1 = .ok (.tup ((wayL t (t.length + 1) q.a).map D.str), s1) := by
        rw [x_eCall, x_aCons, show eV 0 s1 = .ok (tabD t, s1) by rw [hs1]; rfl, VL.R.bind_ok, x_aCons, show eV 2 s1 = .ok (.str q.a, s1) by rw [hs1]; rfl]
        simp only [VL.R.bind_ok, x_aNil, nl, if_true, hw]
      refine ⟨s1, by rw [hs1]; simp [rowD, wipeD], s1, ?_, fun _ => ⟨s1.r, ?_⟩, by rw [hs1]⟩
      · rw [x_tBl, x_eOp, show eV 1 s1 = .ok (.str x, s1) by rw [hs1]; rfl, VL.R.bind_ok, ec, VL.R.bind_ok, in_tup]
        rfl
      · rw [hs1]; rfl)]
    rw [List.filter_map]
    simp [heldL, rowD, Function.comp_def]
  have hf : eFrz c__law_held_1 s0 = .ok (.lst ((heldL t x).map D.str), s0) := by rw [x_eFrz, hc]; rfl
  have hso : srtOk ((heldL t x).map D.str) = true := srt_strs fun z hz => by
    obtain ⟨r, hr, rfl⟩ := List.mem_map.mp hz
    exact (g.fine r (List.mem_filter.mp hr).1).1.2
  have hsd : sortD ((heldL t x).map D.str) = (heldL t x).map D.str := by
    refine sortD_self ?_
    rw [List.pairwise_map]
    unfold heldL
    have := srt_names g.srt
    exact this.sublist ((List.filter_sublist).map _)
  have hg : eFrz (fCB gSorted (aCons (eFrz c__law_held_1) aNil)) s0 = .ok (.lst ((heldL t x).map D.str), s0) := by
    have e1 : lstOf s0 (.lst ((heldL t x).map D.str)) = some ((heldL t x).map D.str) := rfl
    rw [x_eFrz, x_fCB, x_aCons, hf]
    simp only [VL.R.bind_ok, x_aNil, x_gSorted, e1, hso, if_true, hsd]
  refine pure_rt rfl ⟨s0, ?_⟩ (noLocs_str _)
  show m__law_held ⟨[some (tabD t), some (.str x), none, none], []⟩ = _
  rw [← hs0, m__law_held, x_sRet, x_eCB, x_aCons, hg]
  rfl
/-! ### depth -/
end
def mx (a b : Int) : Int := if b > a then b else a
def wl (t : List Row) (z : List Nat) : Int := ((wayL t (t.length + 1) z).length : Nat)
def dpt (t : List Row) : Int := (t.map fun r => wl t r.a).foldl mx 0
theorem foldl_mx : ∀ (l : List Int) (a : Int), (l.foldl mx a = a ∨ l.foldl mx a ∈ l) ∧ a ≤ l.foldl mx a ∧ ∀ y ∈ l, y ≤ l.foldl mx a
  | [], a => ⟨.inl rfl, Int.le_refl _, by simp⟩
  | b :: l, a => by
    obtain ⟨h1, h2, h3⟩ := foldl_mx l (mx a b)
    rw [List.foldl_cons]
    have hm : a ≤ mx a b ∧ b ≤ mx a b ∧ (mx a b = a ∨ mx a b = b) := by
      unfold mx
      split <;> omega
    refine ⟨?_, by omega, fun y hy => ?_⟩
    · rcases h1 with h1 | h1
      · rcases hm.2.2 with e | e
        · exact .inl (by rw [h1, e])
        · exact .inr (by rw [h1, e]; simp)
      · exact .inr (List.mem_cons_of_mem _ h1)
    · rcases List.mem_cons.mp hy with rfl | hy
      · omega
      · exact h3 y hy
theorem maxL_fold {l : List Int} (h : l ≠ []) (h0 : ∀ y ∈ l, 0 ≤ y) : maxL l = l.foldl mx 0 := by
  obtain ⟨h1, h2⟩ := maxL_spec h
  obtain ⟨h3, h4, h5⟩ := foldl_mx l 0
  have a1 := h5 _ h1
  rcases h3 with h3 | h3
  · have := h0 _ h1; omega
  · have := h2 _ h3; omega
section
variable {names : List (List Nat)} {t : List Row} (g : G names t)
include g
theorem depth_ok : f_depth [tabD t] = .ok (.int (dpt t)) := by
  obtain ⟨s0, hs0⟩ : ∃ s0 : S, s0 = ⟨[some (tabD t), none, none], []⟩ := ⟨_, rfl⟩
  have hp := g.pl
  have hl := g.l1
  have hc : c_depth_1 s0 = .ok (.lst (iL (t.map fun r => wl t r.a)), s0) := by
    have hit : iSeqM (eV 0) s0 = .ok (t.map rowD, s0) := by rw [hs0]; simp [tabD]
    rw [c_depth_1, x_fLc, hit, VL.R.bind_ok, hs0, lcL_pure (fun d => true) (fun d => match d with | .tup [.str a, _] => .int (wl t a) | _ => .non) (t.map rowD) [] (by rw [SZv]; simp; omega) (fun d hd => by
      obtain ⟨q, hq, rfl⟩ := List.mem_map.mp hd
      have hn : q.a ∈ t.map (·.a) := List.mem_map.mpr ⟨q, hq, rfl⟩
      obtain ⟨s1, hs1⟩ : ∃ s1 : S, s1 = ⟨[some (tabD t), some (.str q.a), some (.str q.b)], []⟩ := ⟨_, rfl⟩
      have hw := way_ok hp hn (k := t.length) (by omega) (g.ends' q hq)
      have nl : noLocs [tabD t, .str q.a] = true := by simp [noLoc_tab]
      have ec : eCall f_way (aCons (eV 0) (aCons (eV 1) aNil)) s1 = .ok (.tup ((wayL t (t.length + 1) q.a).map D.str), s1) := by
        rw [x_eCall, x_aCons, show eV 0 s1 = .ok (tabD t, s1) by rw [hs1]; rfl, VL.R.bind_ok, x_aCons, show eV 1 s1 = .ok (.str q.a, s1) by rw [hs1]; rfl]
        simp only [VL.R.bind_ok, x_aNil, nl, if_true, hw]
      have hwl := wayL_len t (t.length + 1) q.a
      have hS : (wayL t (t.length + 1) q.a).length ≤ SZ := by rw [SZv]; omega
      refine ⟨s1, by rw [hs1]; simp [rowD, wipeD], s1, rfl, fun _ => ⟨s1.r, ?_⟩, by rw [hs1]⟩
      rw [x_eCB, x_aCons, ec]
      simp [hS, rowD, wl]
      rw [hs1])]
    rw [List.filter_eq_self.mpr fun _ _ => rfl]
    simp [rowD, Function.comp_def, iL]
  have hf : eFrz c_depth_1 s0 = .ok (.lst (iL (t.map fun r => wl t r.a)), s0) := by rw [x_eFrz, hc]; rfl
  refine pure_rt rfl ⟨s0, ?_⟩ rfl
  show m_depth ⟨[some (tabD t), none, none], []⟩ = _
  rw [← hs0, m_depth, x_sRet, x_eIf]
  cases ht : t with
  | nil =>
    rw [show tTruN (eV 0) s0 = .ok (false, s0) by rw [hs0, ht]; rfl]
    rfl
  | cons r t' =>
    rw [show tTruN (eV 0) s0 = .ok (true, s0) by rw [hs0, ht]; rfl]
    simp only [VL.R.bind_ok, if_true]
    rw [x_eCB, x_aCons, hf]
    have hne : (t.map fun r => wl t r.a) ≠ [] := by rw [ht]; simp
    have hm : gMaxL s0 (.lst (iL (t.map fun r => wl t r.a))) = some (.int (maxL (t.map fun r => wl t r.a))) := by
      unfold gMaxL
      have e1 : lstOf s0 (.lst (iL (t.map fun r => wl t r.a))) = some (iL (t.map fun r => wl t r.a)) := rfl
      simp only [e1, intsD_iL]
      cases hh : (t.map fun r => wl t r.a) with
      | nil => exact absurd hh hne
      | cons a l => rfl
    simp only [VL.R.bind_ok, x_aNil, x_c1, hm]
    rw [maxL_fold hne (fun y hy => by
      obtain ⟨r, _, rfl⟩ := List.mem_map.mp hy
      unfold wl
      omega), ← ht]
    rfl
/-! ### the looks -/
theorem looks_ok {things : List (List Nat)} (hth : ∀ z ∈ things, z ∈ names) : f__law_looks [tabD t, .lst (things.map D.str)] = .ok (.bl true) := by
  have hp := g.pl
  have hl := g.l1
  have h30 := g.len
  obtain ⟨x1, hx1⟩ : ∃ x1, x1 = D.lst (things.map D.str) := ⟨_, rfl⟩
  rw [← hx1]
  have e5 : s__law_looks_5 ⟨[some (tabD t), some x1, none, none, none], []⟩ = .nx ⟨[some (tabD t), some x1, some (.int 0), none, none], []⟩ := rfl
  obtain ⟨s2, e6, q3, q4, hs2⟩ := forL_fold (g := gTupM (gsCons (gN 3) (gsCons (gN 4) gsNil))) (b := b__law_looks_1) (fun (a : Int) s => ∃ q3 q4, s = ⟨[some (tabD t), some x1, some (.int a), q3, q4], []⟩) (fun a d => match d with | .tup [.str z, _] => mx a (wl t z) | _ => a) (t.map rowD) 0 ⟨[some (tabD t), some x1, some (.int 0), none, none], []⟩ ⟨_, _, rfl⟩ (fun l1 d l2 hd s ⟨q3, q4, es⟩ => by
    subst es
    obtain ⟨a, ha⟩ : ∃ a, a = l1.foldl (fun a d => match d with | .tup [.str z, _] => mx a (wl t z) | _ => a) (0 : Int) := ⟨_, rfl⟩
    rw [← ha]
    obtain ⟨q, hq, rfl⟩ := List.mem_map.mp (show d ∈ t.map rowD by rw [hd]; simp)
    have hn : q.a ∈ t.map (·.a) := List.mem_map.mpr ⟨q, hq, rfl⟩
    obtain ⟨s1, hs1⟩ : ∃ s1 : S, s1 = ⟨[some (tabD t), some x1, some (.int a), some (.str q.a), some (.str q.b)], []⟩ := ⟨_, rfl⟩
    have hw := holders_ok hp hl hn (g.ends' q hq)
    have nl : noLocs [tabD t, .str q.a] = true := by simp [noLoc_tab]
    have ec : eCall f__law_holders (aCons (eV 0) (aCons (eV 3) aNil)) s1 = .ok (.tup ((wayL t (t.length + 1) q.a).map D.str), s1) := by
      rw [x_eCall, x_aCons, show eV 0 s1 = .ok (tabD t, s1) by rw [hs1]; rfl, VL.R.bind_ok, x_aCons, show eV 3 s1 = .ok (.str q.a, s1) by rw [hs1]; rfl]
      simp only [VL.R.bind_ok, x_aNil, nl, if_true, hw]
    have hwl := wayL_len t (t.length + 1) q.a
    have hS : (wayL t (t.length + 1) q.a).length ≤ SZ := by rw [SZv]; omega
    have el : eCB cLen (aCons (eCall f__law_holders (aCons (eV 0) (aCons (eV 3) aNil))) aNil) s1 = .ok (.int (wl t q.a), s1) := by
      rw [x_eCB, x_aCons, ec]
      simp [hS, wl]
    refine ⟨s1, by rw [hs1]; simp [rowD], ⟨[some (tabD t), some x1, some (.int (mx a (wl t q.a))), some (.str q.a), some (.str q.b)], []⟩, .inl ?_, _, _, rfl⟩
    rw [b__law_looks_1, x_sAsg, x_eCB, x_aCons, show eV 2 s1 = .ok (.int a, s1) by rw [hs1]; rfl, VL.R.bind_ok, x_aCons, el]
    rw [hs1]
    rfl)
  have hfold : (t.map rowD).foldl (fun a d => match d with | .tup [.str z, _] => mx a (wl t z) | _ => a) (0 : Int) = dpt t := by
    unfold dpt
    rw [List.foldl_map, List.foldl_map]
    rfl
  rw [hfold] at hs2
  have e6 : s__law_looks_6 ⟨[some (tabD t), some x1, some (.int 0), none, none], []⟩ = .nx s2 := by
    rw [s__law_looks_6, x_sFor]
    exact e6
  have hi : f__law_is 6 [.int (dpt t), .int (dpt t)] = .ok (.bl true) := by rw [is_eq]; exact isF_refl trivial
  have nl0 : noLocs [tabD t] = true := by simp [noLoc_tab]
  have e7 : s__law_looks_7 s2 = .nx s2 := by
    have hd := depth_ok g
    have ec : eCall f_depth (aCons (eV 0) aNil) s2 = .ok (.int (dpt t), s2) := by
      rw [x_eCall, x_aCons, show eV 0 s2 = .ok (tabD t, s2) by rw [hs2]; rfl]
      simp only [VL.R.bind_ok, x_aNil, nl0, if_true, hd]
    have ec2 : eCall (f__law_is 6) (aCons (eCall f_depth (aCons (eV 0) aNil)) (aCons (eV 2) aNil)) s2 = .ok (.bl true, s2) := by
      have : noLocs [.int (dpt t), .int (dpt t)] = true := rfl
      rw [x_eCall, x_aCons, ec, VL.R.bind_ok, x_aCons, show eV 2 s2 = .ok (.int (dpt t), s2) by rw [hs2]; rfl]
      simp only [VL.R.bind_ok, x_aNil, this, if_true, hi]
    rw [s__law_looks_7, x_sIf, x_tNotM, x_tTruN, ec2]
    rfl
  obtain ⟨s3, e8, q3', hs3⟩ := forL_inv (g := gN 3) (b := b__law_looks_4) (fun _ s => ∃ q3, s = ⟨[some (tabD t), some x1, some (.int (dpt t)), q3, q4], []⟩) (things.map D.str) 0 s2 ⟨_, hs2⟩ (fun i d s hd ⟨q, e⟩ => by
    subst e
    obtain ⟨z, hz, rfl⟩ := List.mem_map.mp (List.mem_of_getElem? hd)
    have hzn := hth z hz
    have hzt := (g.mem z).mpr hzn
    obtain ⟨s1, hs1⟩ : ∃ s1 : S, s1 = ⟨[some (tabD t), some x1, some (.int (dpt t)), some (.str z), q4], []⟩ := ⟨_, rfl⟩
    have y0 : eV 0 s1 = .ok (tabD t, s1) := by rw [hs1]; rfl
    have y3 : eV 3 s1 = .ok (.str z, s1) := by rw [hs1]; rfl
    have nl : noLocs [tabD t, .str z] = true := by simp [noLoc_tab]
    have c2 : ∀ (f : List D → PR) (L : List (List Nat)), f [tabD t, .str z] = .ok (.tup (L.map D.str)) → eCall f (aCons (eV 0) (aCons (eV 3) aNil)) s1 = .ok (.tup (L.map D.str), s1) := fun f L hf => by
      rw [x_eCall, x_aCons, y0, VL.R.bind_ok, x_aCons, y3]
      simp only [VL.R.bind_ok, x_aNil, nl, if_true, hf]
    have c3 : ∀ (f f' : List D → PR) (L : List (List Nat)), L.length ≤ 10000 → f [tabD t, .str z] = .ok (.tup (L.map D.str)) → f' [tabD t, .str z] = .ok (.tup (L.map D.str)) → tNotM (tTruN (eCall (f__law_is 6) (aCons (eCall f (aCons (eV 0) (aCons (eV 3) aNil))) (aCons (eCall f' (aCons (eV 0) (aCons (eV 3) aNil))) aNil)))) s1 = .ok (false, s1) := fun f f' L hL hf hf' => by
      have hn : noLocs [.tup (L.map D.str), .tup (L.map D.str)] = true := by simp [noLocs_str]
      rw [x_tNotM, x_tTruN, x_eCall, x_aCons, c2 f L hf, VL.R.bind_ok, x_aCons, c2 f' L hf']
      simp only [VL.R.bind_ok, x_aNil, hn, if_true, is_strs hL]
      rfl
    have hwl := wayL_len t (t.length + 1) z
    have w1 := c3 _ _ _ (by omega) (way_ok hp hzt (k := t.length) (by omega) (g.ends hzn)) (holders_ok hp hl hzt (g.ends hzn))
    have w2 := c3 _ _ _ (by have := held_len g z; omega) (held_ok hp hl g.ends' z) (law_held_ok g z)
    refine ⟨s1, by rw [hs1]; rfl, s1, .inl ?_, _, hs1⟩
    have e2 : s__law_looks_2 s1 = .nx s1 := by rw [s__law_looks_2, x_sIf, w1]; rfl
    have e3 : s__law_looks_3 s1 = .nx s1 := by rw [s__law_looks_3, x_sIf, w2]; rfl
    rw [b__law_looks_4, x_sSeq, e2, VL.C.seq_nx, e3])
  have e8 : s__law_looks_8 s2 = .nx s3 := by
    have hit : iSeqM (eV 1) s2 = .ok (things.map D.str, s2) := by rw [hs2, hx1]; rfl
    rw [s__law_looks_8, x_sFor, hit]
    simp only [VL.R.to_ok]
    exact e8
  refine pure_rt rfl ⟨s3, ?_⟩ rfl
  show m__law_looks ⟨[some (tabD t), some x1, none, none, none], []⟩ = _
  rw [m__law_looks, x_sSeq, e5, VL.C.seq_nx, x_sSeq, e6, VL.C.seq_nx, x_sSeq, e7, VL.C.seq_nx, x_sSeq, e8, VL.C.seq_nx]
  rfl
end
end K77
/-! plain helpers: own classes, defs that share own objects -/
namespace VL
open PySem L2
section
variable {s : S} {m : ME} {A : MA} {c f mn : Str}
@[simp] theorem x_eAtt : eAtt c f m s = (m s).bind fun o s => (match o with
  | .loc n => match s.m[n]? with
    | some (.ins c' l) => if c' = c then (match l.lookup f with
      | some d => .ok (d, s)
      | none => .no) else .no
    | _ => .no
  | _ => .no) := id rfl
@[simp] theorem x_eCallI {F : List D → List Ob → IR} : eCallI F A s = (A s).bind fun ds s => (F ds s.m).to s.r := id rfl
@[simp] theorem x_eMet {F : List D → List Ob → IR} : eMet c mn F m A s = (m s).bind fun o s => (match o with
  | .loc n => match s.m[n]? with
    | some (.ins c' l) => if c' = c ∧ l.lookup mn = none then (A s).bind fun ds s => (F (.loc n :: ds) s.m).to s.r else .no
    | _ => .no
  | _ => .no) := id rfl
@[simp] theorem x_sRaise0 : sRaise0 c s = .ex ⟨c, []⟩ s := id rfl
theorem att_ok {n : Nat} {l : List (Str × D)} {d : D} (h : m s = .ok (.loc n, s)) (hm : s.m[n]? = some (.ins c l)) (hl : l.lookup f = some d) : eAtt c f m s = .ok (d, s) := by
  rw [x_eAtt, h]
  simp only [VL.R.bind_ok, hm, if_true, hl]
theorem met_call {n : Nat} {l : List (Str × D)} {F : List D → List Ob → IR} {ds : List D} (h : m s = .ok (.loc n, s)) (hm : s.m[n]? = some (.ins c l)) (hl : l.lookup mn = none) (ha : A s = .ok (ds, s)) : eMet c mn F m A s = (F (.loc n :: ds) s.m).to s.r := by
  rw [x_eMet, h]
  simp only [VL.R.bind_ok, hm, hl, and_self, if_true, ha]
theorem setF_ok {n : Nat} {l : List (Str × D)} {d : D} {mo mv : ME} {s' : S} (hv : mv s = .ok (d, s')) (ho : mo s' = .ok (.loc n, s')) (hm : s'.m[n]? = some (.ins c l)) (hl : l.length < 1000) : sSetF c f mo mv s = .nx { s' with m := s'.m.set n (.ins c (putS f d l)) } := by
  unfold sSetF
  rw [hv]
  simp only [VL.R.to_ok, ho]
  unfold setIns
  rw [hm]
  simp only [hl, and_self, if_true]
theorem gAtt_ok {n : Nat} {l : List (Str × D)} {d : D} {mo : ME} (ho : mo s = .ok (.loc n, s)) (hm : s.m[n]? = some (.ins c l)) (hl : l.length < 1000) : gAtt c f mo d s = .nx { s with m := s.m.set n (.ins c (putS f d l)) } := by
  unfold gAtt
  rw [ho]
  dsimp only
  unfold setIns
  rw [hm]
  simp only [hl, and_self, if_true]
theorem augF_ok {n : Nat} {l : List (Str × D)} {x y z : D} {op : D → D → S → R (D × S)} {mo mv : ME} (ho : mo s = .ok (.loc n, s)) (hm : s.m[n]? = some (.ins c l)) (hx : l.lookup f = some x) (hv : mv s = .ok (y, s)) (hop : op x y s = .ok (z, s)) (hl : l.length < 1000) :
    sAugF c f op mo mv s = .nx { s with m := s.m.set n (.ins c (putS f z l)) } := by
  unfold sAugF
  rw [ho]
  simp only [VL.R.to_ok, hm, if_true, hx, hv, hop]
  unfold setIns
  rw [hm]
  simp only [hl, and_self, if_true]
end
@[simp] theorem x_impOf {n np : Nat} {m : MS} {ds : List D} {ob : List Ob} : impOf n np m ds ob = if ds.length = np then (match m ⟨startD n ds, ob⟩ with
    | .rt d s => .ok d s.m
    | .nx s => .ok .non s.m
    | .ex e s => .ex e s.m
    | _ => .no)
  else .no := id rfl
theorem imp_rt {n np : Nat} {m : MS} {ds : List D} {ob : List Ob} {d : D} {s : S} (h : ds.length = np) (hm : m ⟨startD n ds, ob⟩ = .rt d s) : impOf n np m ds ob = .ok d s.m := by
  rw [x_impOf, if_pos h, hm]
theorem imp_nx {n np : Nat} {m : MS} {ds : List D} {ob : List Ob} {s : S} (h : ds.length = np) (hm : m ⟨startD n ds, ob⟩ = .nx s) : impOf n np m ds ob = .ok .non s.m := by
  rw [x_impOf, if_pos h, hm]
theorem imp_ex {n np : Nat} {m : MS} {ds : List D} {ob : List Ob} {e : Exn} {s : S} (h : ds.length = np) (hm : m ⟨startD n ds, ob⟩ = .ex e s) : impOf n np m ds ob = .ex e s.m := by
  rw [x_impOf, if_pos h, hm]
end VL
namespace K77
open PySem L2 VL
open K76 (Row rowD tabD Fine Ok Pl0 nx hD kvD kvR kS kS_inj put_len nx_in nx_val ix_dict hD_dct prs_rows noLoc_tab ixT cutP cutS Lim Sgs rng_succ nodup_len)
/-- the move is refused -/
def bm (t : List Row) (th h : List Nat) : Bool := decide (h = th) || (decide (h ≠ []) && decide (th ∈ wayL t (t.length + 1) h))
theorem put_row : ∀ {t : List Row} {th : List Nat} (h : List Nat), th ∈ t.map (·.a) → putD (kvR t) (kS th) (.str h) = kvR (mv t th h) := fun {t th} h hth => by
  unfold putD
  rw [if_pos]
  · unfold kvR mv
    rw [List.map_map, List.map_map]
    apply List.map_congr_left
    intro r _
    simp only [Function.comp]
    by_cases hr : r.a = th
    · simp [hr]
    · have : ¬ kS r.a = kS th := fun e => hr (kS_inj e)
      simp [hr, this]
  · obtain ⟨r, hr, rfl⟩ := List.mem_map.mp hth
    exact List.any_eq_true.mpr ⟨(kS r.a, .str r.b), List.mem_map.mpr ⟨r, hr, rfl⟩, by simp⟩
theorem prD_rows (t : List Row) : VL.prD (kvR t) = t.map rowD := by
  unfold VL.prD kvR
  rw [List.map_map]
  apply List.map_congr_left
  intro r _
  rfl
theorem is_tab {t : List Row} (hl : t.length ≤ 1000) : f__law_is 6 [tabD t, tabD t] = .ok (.bl true) := by
  rw [is_eq]
  refine isF_refl ⟨by simp; omega, fun d hd => ?_⟩
  obtain ⟨r, _, rfl⟩ := List.mem_map.mp hd
  refine ⟨by simp, fun d hd => ?_⟩
  simp only [List.mem_cons, List.not_mem_nil, or_false] at hd
  rcases hd with rfl | rfl <;> trivial
section
variable {names : List (List Nat)} {t : List Row} (g : G names t) {th h : List Nat} (hth : th ∈ names) (hh : h = [] ∨ h ∈ names)
include g hth hh
theorem mv_fine : (∀ r ∈ mv t th h, Fine r) ∧ (mv t th h).length ≤ 1000 := by
  refine ⟨fun r hr => ?_, by rw [mv, List.length_map]; exact g.l1⟩
  obtain ⟨q, hq, rfl⟩ := List.mem_map.mp hr
  have := g.fine q hq
  refine ⟨this.1, ?_⟩
  dsimp only
  split
  · rcases hh with e | e
    · rw [e]; exact ⟨by simp, by simp⟩
    · obtain ⟨⟨h1, h2⟩, _⟩ := g.sg h e
      exact ⟨by omega, h2⟩
  · exact this.2
theorem moved_ok : f_moved [tabD t, .str th, .str h] = if bm t th h = true then .ex ⟨"BadMove", []⟩ else .ok (tabD (mv t th h)) := by
  obtain ⟨s0, hs0⟩ : ∃ s0 : S, s0 = ⟨[some (tabD t), some (.str th), some (.str h), none], []⟩ := ⟨_, rfl⟩
  have hp := g.pl
  have hl := g.l1
  have y0 : eV 0 s0 = .ok (tabD t, s0) := by rw [hs0]; rfl
  have y1 : eV 1 s0 = .ok (.str th, s0) := by rw [hs0]; rfl
  have y2 : eV 2 s0 = .ok (.str h, s0) := by rw [hs0]; rfl
  have tt : tOrM (tBl (eOp fEq (eV 2) (eV 1))) (tAndM (tBl (eOp fNe (eV 2) (eC (.str [])))) (tBl (eOp fIn (eV 1) (eCall f_way (aCons (eV 0) (aCons (eV 2) aNil)))))) s0 = .ok (bm t th h, s0) := by
    have t1 : tBl (eOp fEq (eV 2) (eV 1)) s0 = .ok (decide (h = th), s0) := by
      rw [x_tBl, x_eOp, y2, VL.R.bind_ok, y1, VL.R.bind_ok, fEqS]
      rfl
    have t2 : tBl (eOp fNe (eV 2) (eC (.str []))) s0 = .ok (decide (h ≠ []), s0) := by
      rw [x_tBl, x_eOp, y2, VL.R.bind_ok, x_eC, VL.R.bind_ok, fNeS]
      simp
    rw [x_tOrM, t1]
    unfold bm
    by_cases h1 : h = th
    · simp [h1]
    · simp only [h1, decide_false, VL.R.bind_ok, Bool.false_eq_true, if_false, Bool.false_or]
      rw [x_tAndM, t2]
      by_cases h2 : h = []
      · simp [h2]
      · have hn := hh.resolve_left h2
        have hnt := (g.mem h).mpr hn
        have hw := way_ok hp hnt (k := t.length) (by omega) (g.ends hn)
        have nl : noLocs [tabD t, .str h] = true := by simp [noLoc_tab]
        have ec : eCall f_way (aCons (eV 0) (aCons (eV 2) aNil)) s0 = .ok (.tup ((wayL t (t.length + 1) h).map D.str), s0) := by
          rw [x_eCall, x_aCons, y0, VL.R.bind_ok, x_aCons, y2]
          simp only [VL.R.bind_ok, x_aNil, nl, if_true, hw]
        have hd : decide (h ≠ []) = true := decide_eq_true h2
        rw [hd]
        simp only [VL.R.bind_ok, if_true, Bool.true_and]
        rw [x_tBl, x_eOp, y1, VL.R.bind_ok, ec, VL.R.bind_ok, in_tup]
        rfl
  have hm : m_moved ⟨startD 4 [tabD t, .str th, .str h], []⟩ = m_moved s0 := by rw [hs0]; rfl
  by_cases hb : bm t th h = true
  · rw [if_pos hb]
    refine pure_ex rfl ⟨s0, ?_⟩ rfl
    rw [hm, m_moved, x_sSeq, s_moved_1, x_sIf, tt, hb]
    rfl
  · rw [if_neg hb]
    have hb' : bm t th h = false := by simpa using hb
    have e1 : s_moved_1 s0 = .nx s0 := by rw [s_moved_1, x_sIf, tt, hb']; rfl
    obtain ⟨s1, hs1⟩ : ∃ s1 : S, s1 = ⟨[some (tabD t), some (.str th), some (.str h), some (.loc 0)], [.dct (kvR t)]⟩ := ⟨_, rfl⟩
    have e2 : s_moved_2 s0 = .nx s1 := by
      have gd : gDict [tabD t] s0 = .ok (.dct (kvR t), s0) := by
        unfold gDict tabD
        dsimp only
        rw [prs_rows]
        show R.ok (Ob.dct (kvD t), s0) = _
        rw [kvD_eq g.nd]
      have : fCB gDict (aCons (eV 0) aNil) s0 = .ok (.dct (kvR t), s0) := by
        rw [x_fCB, x_aCons, y0]
        simp only [VL.R.bind_ok, x_aNil, gd]
      rw [s_moved_2, x_sAsg, x_eOwn, this, hs0, hs1]
      rfl
    obtain ⟨s2, hs2⟩ : ∃ s2 : S, s2 = ⟨[some (tabD t), some (.str th), some (.str h), some (.loc 0)], [.dct (kvR (mv t th h))]⟩ := ⟨_, rfl⟩
    have htt := (g.mem th).mpr hth
    have e3 : s_moved_3 s1 = .nx s2 := by
      have hz : (kvR t).length < SZ := by rw [SZv, K76.kvR_len]; omega
      have ek : keyOf (.str th) = some (kS th) := rfl
      have : fSet (.loc 0) (.str th) (.str h) s1 = .nx s2 := by
        rw [hs1, hs2, ← put_row h htt]
        simp [fSet, ek, hz]
      rw [s_moved_3, x_sAsg, show eV 2 s1 = .ok (.str h, s1) by rw [hs1]; rfl]
      show gSet (eV 3) (eV 1) (.str h) s1 = _
      unfold gSet
      rw [show eV 3 s1 = .ok (.loc 0, s1) by rw [hs1]; rfl]
      dsimp only
      rw [show eV 1 s1 = .ok (.str th, s1) by rw [hs1]; rfl]
      exact this
    have e4 : s_moved_4 s2 = .rt (tabD (mv t th h)) s2 := by
      have so : srtOk ((mv t th h).map rowD) = true := K76.srt_rows (mv_fine g hth hh).1
      have sd := srt_rows (mv_srt th h g.srt)
      have hf : eFrz (fSortItems (eV 3)) s2 = .ok (.lst ((mv t th h).map rowD), s2) := by
        have : fSortItems (eV 3) s2 = .ok (.lst ((mv t th h).map rowD), s2) := by
          unfold fSortItems
          rw [show eV 3 s2 = .ok (.loc 0, s2) by rw [hs2]; rfl, VL.R.bind_ok]
          have hm0 : s2.m[0]? = some (.dct (kvR (mv t th h))) := by rw [hs2]; rfl
          simp only [hm0, prD_rows, so, if_true, sd]
        rw [x_eFrz, this]
        rfl
      rw [s_moved_4, x_sRet, x_eCB, x_aCons, hf]
      rfl
    refine pure_rt rfl ⟨s2, ?_⟩ (noLoc_tab _)
    rw [hm, m_moved, x_sSeq, e1, VL.C.seq_nx, x_sSeq, e2, VL.C.seq_nx, x_sSeq, e3, VL.C.seq_nx, e4]
theorem held_bm : (decide (h = th) || decide (h ∈ heldL t th)) = bm t th h := by
  unfold bm
  congr 1
  rw [Bool.eq_iff_iff]
  simp only [decide_eq_true_eq, Bool.and_eq_true]
  unfold heldL
  rw [List.mem_map]
  constructor
  · rintro ⟨r, hr, rfl⟩
    obtain ⟨h1, h2⟩ := List.mem_filter.mp hr
    exact ⟨(g.sg r.a ((g.mem _).mp (List.mem_map.mpr ⟨r, h1, rfl⟩))).2, by simpa using h2⟩
  · rintro ⟨h1, h2⟩
    obtain ⟨r, hr, e⟩ := List.mem_map.mp ((g.mem h).mpr (hh.resolve_left h1))
    have e : r.a = h := e
    exact ⟨r, List.mem_filter.mpr ⟨hr, by rw [e]; exact decide_eq_true h2⟩, e⟩
theorem due_ok : f__law_due [tabD t, .str th, .str h] = .ok (if bm t th h = true then .non else tabD (mv t th h)) := by
  obtain ⟨s0, hs0⟩ : ∃ s0 : S, s0 = ⟨[some (tabD t), some (.str th), some (.str h), none, none], []⟩ := ⟨_, rfl⟩
  have y0 : eV 0 s0 = .ok (tabD t, s0) := by rw [hs0]; rfl
  have y1 : eV 1 s0 = .ok (.str th, s0) := by rw [hs0]; rfl
  have y2 : eV 2 s0 = .ok (.str h, s0) := by rw [hs0]; rfl
  have z2 : 2 ≤ SZ := by rw [SZv]; omega
  have tt : tOrM (tBl (eOp fEq (eV 2) (eV 1))) (tBl (eOp fIn (eV 2) (eCall f__law_held (aCons (eV 0) (aCons (eV 1) aNil))))) s0 = .ok (bm t th h, s0) := by
    have t1 : tBl (eOp fEq (eV 2) (eV 1)) s0 = .ok (decide (h = th), s0) := by
      rw [x_tBl, x_eOp, y2, VL.R.bind_ok, y1, VL.R.bind_ok, fEqS]
      rfl
    rw [← held_bm g hth hh, x_tOrM, t1]
    by_cases h1 : h = th
    · simp [h1]
    · simp only [h1, decide_false, VL.R.bind_ok, Bool.false_eq_true, if_false, Bool.false_or]
      have nl : noLocs [tabD t, .str th] = true := by simp [noLoc_tab]
      have ec : eCall f__law_held (aCons (eV 0) (aCons (eV 1) aNil)) s0 = .ok (.tup ((heldL t th).map D.str), s0) := by
        rw [x_eCall, x_aCons, y0, VL.R.bind_ok, x_aCons, y1]
        simp only [VL.R.bind_ok, x_aNil, nl, if_true, law_held_ok g]
      rw [x_tBl, x_eOp, y2, VL.R.bind_ok, ec, VL.R.bind_ok, in_tup]
      rfl
  have hm : m__law_due ⟨startD 5 [tabD t, .str th, .str h], []⟩ = m__law_due s0 := by rw [hs0]; rfl
  by_cases hb : bm t th h = true
  · rw [if_pos hb]
    refine pure_rt rfl ⟨s0, ?_⟩ rfl
    rw [hm, m__law_due, x_sSeq, s__law_due_2, x_sIf, tt, hb]
    rfl
  · rw [if_neg hb]
    have hb' : bm t th h = false := by simpa using hb
    have e1 : s__law_due_2 s0 = .nx s0 := by rw [s__law_due_2, x_sIf, tt, hb']; rfl
    have hl := g.l1
    have hc : c__law_due_1 s0 = .ok (.lst ((mv t th h).map rowD), s0) := by
      have hit : iSeqM (eV 0) s0 = .ok (t.map rowD, s0) := by rw [hs0]; simp [tabD]
      rw [c__law_due_1, x_fLc, hit, VL.R.bind_ok, hs0, lcL_pure (fun d => true) (fun d => match d with | .tup [.str a, b] => .tup [.str a, if a = th then .str h else b] | _ => .non) (t.map rowD) [] (by rw [SZv]; simp; omega) (fun d hd => by
        obtain ⟨q, hq, rfl⟩ := List.mem_map.mp hd
        obtain ⟨s1, hs1⟩ : ∃ s1 : S, s1 = ⟨[some (tabD t), some (.str th), some (.str h), some (.str q.a), some (.str q.b)], []⟩ := ⟨_, rfl⟩
        refine ⟨s1, by rw [hs1]; simp [rowD, wipeD], s1, rfl, fun _ => ⟨s1.r, ?_⟩, by rw [hs1]⟩
        have x3 : eV 3 s1 = .ok (.str q.a, s1) := by rw [hs1]; rfl
        have tq : tBl (eOp fEq (eV 3) (eV 1)) s1 = .ok (decide (q.a = th), s1) := by
          rw [x_tBl, x_eOp, x3, VL.R.bind_ok, show eV 1 s1 = .ok (.str th, s1) by rw [hs1]; rfl, VL.R.bind_ok, fEqS]
          rfl
        have ei : eIf (tBl (eOp fEq (eV 3) (eV 1))) (eV 2) (eV 4) s1 = .ok (if q.a = th then .str h else .str q.b, s1) := by
          rw [x_eIf, tq]
          by_cases hq : q.a = th
          · simp only [hq, decide_true, VL.R.bind_ok, if_true]
            rw [hs1]; rfl
          · simp only [hq, decide_false, VL.R.bind_ok, Bool.false_eq_true, if_false]
            rw [hs1]; rfl
        rw [x_eTup, x_aCons, x3, VL.R.bind_ok, x_aCons, ei]
        simp only [VL.R.bind_ok, x_aNil, List.length_cons, List.length_nil, Nat.zero_add, Nat.reduceAdd, z2, if_true, rowD]
        rw [hs1])]
      rw [List.filter_eq_self.mpr fun _ _ => rfl]
      simp only [List.nil_append, List.map_map, VL.R.bind_ok]
      have : (t.map ((fun d => match d with | .tup [.str a, b] => .tup [.str a, if a = th then .str h else b] | _ => .non) ∘ rowD)) = (mv t th h).map rowD := by
        unfold mv
        rw [List.map_map]
        apply List.map_congr_left
        intro r _
        simp only [Function.comp, rowD]
        by_cases hr : r.a = th <;> simp [hr]
      rw [this]
    have hf : eFrz c__law_due_1 s0 = .ok (.lst ((mv t th h).map rowD), s0) := by rw [x_eFrz, hc]; rfl
    refine pure_rt rfl ⟨s0, ?_⟩ (noLoc_tab _)
    rw [hm, m__law_due, x_sSeq, e1, VL.C.seq_nx, s__law_due_3, x_sRet, x_eCB, x_aCons, hf]
    rfl
theorem tried_ok : f__law_tried [tabD t, .str th, .str h] = .ok (if bm t th h = true then .tup [.bl true, .non] else .tup [.bl false, tabD (mv t th h)]) := by
  obtain ⟨s0, hs0⟩ : ∃ s0 : S, s0 = ⟨[some (tabD t), some (.str th), some (.str h), none, none], []⟩ := ⟨_, rfl⟩
  have y0 : eV 0 s0 = .ok (tabD t, s0) := by rw [hs0]; rfl
  have y1 : eV 1 s0 = .ok (.str th, s0) := by rw [hs0]; rfl
  have y2 : eV 2 s0 = .ok (.str h, s0) := by rw [hs0]; rfl
  have z2 : 2 ≤ SZ := by rw [SZv]; omega
  have hmo := moved_ok g hth hh
  have nl : noLocs [tabD t, .str th, .str h] = true := by simp [noLoc_tab]
  have hm : m__law_tried ⟨startD 5 [tabD t, .str th, .str h], []⟩ = m__law_tried s0 := by rw [hs0]; rfl
  by_cases hb : bm t th h = true
  · rw [if_pos hb] at hmo ⊢
    have hbd : sRet (eTup (aCons (eC (.bl false)) (aCons (eCall f_moved (aCons (eV 0) (aCons (eV 1) (aCons (eV 2) aNil)))) aNil))) s0 = .ex ⟨"BadMove", []⟩ s0 := by
      have ec : eCall f_moved (aCons (eV 0) (aCons (eV 1) (aCons (eV 2) aNil))) s0 = .ex ⟨"BadMove", []⟩ s0 := by
        rw [x_eCall, x_aCons, y0, VL.R.bind_ok, x_aCons, y1, VL.R.bind_ok, x_aCons, y2]
        simp only [VL.R.bind_ok, x_aNil, nl, if_true, hmo]
      rw [x_sRet, x_eTup, x_aCons, x_eC, VL.R.bind_ok, x_aCons, ec]
      rfl
    refine pure_rt rfl ⟨⟨[some (tabD t), some (.str th), some (.str h), none, some (.bl true)], []⟩, ?_⟩ rfl
    rw [hm, m__law_tried]
    refine tryAs_ex hbd rfl fun a d => ?_
    rw [hs0]
    simp [hotS, eIsE, cutC, VL.cutS, SZv]
  · rw [if_neg hb] at hmo ⊢
    have hbd : sRet (eTup (aCons (eC (.bl false)) (aCons (eCall f_moved (aCons (eV 0) (aCons (eV 1) (aCons (eV 2) aNil)))) aNil))) s0 = .rt (.tup [.bl false, tabD (mv t th h)]) s0 := by
      have ec : eCall f_moved (aCons (eV 0) (aCons (eV 1) (aCons (eV 2) aNil))) s0 = .ok (tabD (mv t th h), s0) := by
        rw [x_eCall, x_aCons, y0, VL.R.bind_ok, x_aCons, y1, VL.R.bind_ok, x_aCons, y2]
        simp only [VL.R.bind_ok, x_aNil, nl, if_true, hmo]
      rw [x_sRet, x_eTup, x_aCons, x_eC, VL.R.bind_ok, x_aCons, ec]
      simp only [VL.R.bind_ok, x_aNil, List.length_cons, List.length_nil, Nat.zero_add, Nat.reduceAdd, z2, if_true]
      rfl
    refine pure_rt rfl ⟨s0, ?_⟩ (by simp [noLoc_tab])
    rw [hm, m__law_tried]
    exact tryAs_rt hbd
end
theorem moves_ok {names : List (List Nat)} {t : List Row} (g : G names t) {th : List Nat} (hth : th ∈ names) {hs : List (List Nat)} (hh : ∀ h ∈ hs, h = [] ∨ h ∈ names) : f__law_moves [tabD t, .str th, .tup (hs.map D.str)] = .ok (.bl true) := by
  obtain ⟨x2, hx2⟩ : ∃ x2, x2 = D.tup (hs.map D.str) := ⟨_, rfl⟩
  rw [← hx2]
  have hl := g.l1
  have nl : ∀ h : List Nat, noLocs [tabD t, .str th, .str h] = true := fun h => by simp [noLoc_tab]
  obtain ⟨s3, e, q3, q4, q5, q6, hs3⟩ := forL_inv (g := gN 3) (b := b__law_moves_4) (fun _ s => ∃ q3 q4 q5 q6, s = ⟨[some (tabD t), some (.str th), some x2, q3, q4, q5, q6], []⟩) (hs.map D.str) 0 ⟨[some (tabD t), some (.str th), some x2, none, none, none, none], []⟩ ⟨_, _, _, _, rfl⟩ (fun i d s hd ⟨q3, q4, q5, q6, e⟩ => by
    subst e
    obtain ⟨h, hhs, rfl⟩ := List.mem_map.mp (List.mem_of_getElem? hd)
    have hh' := hh h hhs
    have hdu := due_ok g hth hh'
    have htr := tried_ok g hth hh'
    obtain ⟨dd, hdd⟩ : ∃ dd, dd = (if bm t th h = true then D.non else tabD (mv t th h)) := ⟨_, rfl⟩
    rw [← hdd] at hdu
    have htr : f__law_tried [tabD t, .str th, .str h] = .ok (.tup [.bl (bm t th h), dd]) := by
      rw [htr, hdd]
      cases bm t th h <;> rfl
    have hnd : noLoc dd = true := by
      rw [hdd]
      split
      · rfl
      · exact noLoc_tab _
    obtain ⟨s1, hs1⟩ : ∃ s1 : S, s1 = ⟨[some (tabD t), some (.str th), some x2, some (.str h), q4, q5, q6], []⟩ := ⟨_, rfl⟩
    obtain ⟨s2, hs2⟩ : ∃ s2 : S, s2 = ⟨[some (tabD t), some (.str th), some x2, some (.str h), some dd, q5, q6], []⟩ := ⟨_, rfl⟩
    obtain ⟨s4, hs4⟩ : ∃ s4 : S, s4 = ⟨[some (tabD t), some (.str th), some x2, some (.str h), some dd, some (.bl (bm t th h)), some dd], []⟩ := ⟨_, rfl⟩
    have e1 : s__law_moves_1 s1 = .nx s2 := by
      rw [s__law_moves_1, x_sAsg, x_eCall, x_aCons, show eV 0 s1 = .ok (tabD t, s1) by rw [hs1]; rfl, VL.R.bind_ok, x_aCons, show eV 1 s1 = .ok (.str th, s1) by rw [hs1]; rfl, VL.R.bind_ok, x_aCons, show eV 3 s1 = .ok (.str h, s1) by rw [hs1]; rfl]
      simp only [VL.R.bind_ok, x_aNil, nl, if_true, hdu]
      rw [hs1, hs2]
      rfl
    have e2 : s__law_moves_2 s2 = .nx s4 := by
      rw [s__law_moves_2, x_sAsg, x_eCall, x_aCons, show eV 0 s2 = .ok (tabD t, s2) by rw [hs2]; rfl, VL.R.bind_ok, x_aCons, show eV 1 s2 = .ok (.str th, s2) by rw [hs2]; rfl, VL.R.bind_ok, x_aCons, show eV 3 s2 = .ok (.str h, s2) by rw [hs2]; rfl]
      simp only [VL.R.bind_ok, x_aNil, nl, if_true, htr]
      rw [hs2, hs4]
      rfl
    have e3 : s__law_moves_3 s4 = .nx s4 := by
      have t1 : tBl (eOp fNe (eV 5) (eOp fIs (eV 4) (eC .non))) s4 = .ok (false, s4) := by
        have ei : eOp fIs (eV 4) (eC .non) s4 = .ok (.bl (bm t th h), s4) := by
          rw [x_eOp, show eV 4 s4 = .ok (dd, s4) by rw [hs4]; rfl, VL.R.bind_ok, x_eC, VL.R.bind_ok, hdd]
          cases bm t th h <;> rfl
        rw [x_tBl, x_eOp, show eV 5 s4 = .ok (.bl (bm t th h), s4) by rw [hs4]; rfl, VL.R.bind_ok, ei, VL.R.bind_ok]
        cases bm t th h <;> rfl
      have hi : f__law_is 6 [dd, dd] = .ok (.bl true) := by
        rw [hdd]
        split
        · rw [is_eq]; exact isF_refl trivial
        · exact is_tab (by rw [mv, List.length_map]; exact hl)
      have hn2 : noLocs [dd, dd] = true := by simp [hnd]
      have t2 : tNotM (tTruN (eCall (f__law_is 6) (aCons (eV 6) (aCons (eV 4) aNil)))) s4 = .ok (false, s4) := by
        rw [x_tNotM, x_tTruN, x_eCall, x_aCons, show eV 6 s4 = .ok (dd, s4) by rw [hs4]; rfl, VL.R.bind_ok, x_aCons, show eV 4 s4 = .ok (dd, s4) by rw [hs4]; rfl]
        simp only [VL.R.bind_ok, x_aNil, hn2, if_true, hi]
        rfl
      rw [s__law_moves_3, x_sIf, x_tOrM, t1]
      simp only [VL.R.bind_ok, Bool.false_eq_true, if_false, t2]
      rfl
    refine ⟨s1, by rw [hs1]; rfl, s4, .inl ?_, _, _, _, _, hs4⟩
    rw [b__law_moves_4, x_sSeq, e1, VL.C.seq_nx, x_sSeq, e2, VL.C.seq_nx, e3])
  have e5 : s__law_moves_5 ⟨[some (tabD t), some (.str th), some x2, none, none, none, none], []⟩ = .nx s3 := by
    have hit : iSeqM (eV 2) (⟨[some (tabD t), some (.str th), some x2, none, none, none, none], []⟩ : S) = .ok (hs.map D.str, ⟨[some (tabD t), some (.str th), some x2, none, none, none, none], []⟩) := by rw [hx2]; rfl
    rw [s__law_moves_5, x_sFor, hit]
    simp only [VL.R.to_ok]
    exact e
  refine pure_rt rfl ⟨s3, ?_⟩ rfl
  show m__law_moves ⟨[some (tabD t), some (.str th), some x2, none, none, none, none], []⟩ = _
  rw [m__law_moves, x_sSeq, e5, VL.C.seq_nx]
  rfl
end K77
namespace K77
open PySem L2 VL
open K76 (Row rowD tabD Fine Ok Pl0 nx hD kvD kvR kS kS_inj put_len nx_in nx_val ix_dict hD_dct prs_rows noLoc_tab ixT cutP cutS Lim Sgs rng_succ nodup_len)
theorem room_G {names : List (List Nat)} {t t0 : List Row} (hnd : names.Nodup) (hsg : ∀ z ∈ names, Sgs 12 z ∧ z ≠ []) (hl : names.length ≤ 30) (es : sortD (t0.map rowD) = t.map rowD) (ha : t0.map (·.a) = names) (hb : ∀ (i : Nat) (r : Row), t0[i]? = some r → r.b = [] ∨ ∃ j, j < i ∧ names[j]? = some r.b) : G names t := by
  obtain ⟨hs, hp⟩ := srt_of (by rw [ha]; exact hnd) es
  have hm : ∀ z, z ∈ t.map (·.a) ↔ z ∈ names := fun z => by
    rw [← ha]
    exact (hp.map (·.a)).mem_iff
  refine ⟨hm, hs, fun r hr => ?_, fun z hz => ?_, hsg, ?_⟩
  · obtain ⟨i, hi⟩ := List.mem_iff_getElem?.mp (hp.mem_iff.mp hr)
    rcases hb i r hi with h | ⟨j, _, h⟩
    · exact .inl h
    · exact .inr (List.mem_of_getElem? h)
  · have key : ∀ (n i : Nat), i < n → ∀ z, names[i]? = some z → ∃ k, ends t k z = true := by
      intro n
      induction n with
      | zero => intro i hi; omega
      | succ n ih =>
        intro i hi z hz
        rw [← ha, List.getElem?_map] at hz
        obtain ⟨r, hr, rfl⟩ : ∃ r, t0[i]? = some r ∧ r.a = z := by
          cases e : t0[i]? with
          | none => rw [e] at hz; cases hz
          | some r => rw [e] at hz; exact ⟨r, rfl, by simpa using hz⟩
        have hrt := hp.mem_iff.mpr (List.mem_of_getElem? hr)
        have hnx := nx_row (srt_nodup hs) hrt
        rcases hb i r hr with h | ⟨j, hj, h⟩
        · exact ⟨1, by rw [ends_s, hnx]; simp [h]⟩
        · obtain ⟨k, hk⟩ := ih j (by omega) r.b h
          exact ⟨k + 1, by rw [ends_s, hnx, hk]; simp⟩
    obtain ⟨i, hi⟩ := List.mem_iff_getElem?.mp hz
    exact key (i + 1) i (by omega) z hi
  · have h1 : t.length = t0.length := hp.length_eq
    have h2 : t0.length = names.length := by rw [← ha, List.length_map]
    omega
theorem G_nil : G [] [] := ⟨fun z => Iff.rfl, List.Pairwise.nil, by simp, by simp, by simp, by simp⟩
theorem cut_map {α β : Type} (f : α → β) (l : List α) (a b : Option Int) : cut (l.map f) a b = (cut l a b).map f := by
  unfold cut
  rw [List.length_map, List.map_take, List.map_drop]
theorem cut_mem {α : Type} {l : List α} {a b : Option Int} {x : α} (h : x ∈ cut l a b) : x ∈ l := List.mem_of_mem_drop (List.mem_of_mem_take h)
theorem cut_len {α : Type} {l : List α} {a b : Option Int} : (cut l a b).length ≤ l.length := by
  unfold cut
  rw [List.length_take, List.length_drop]
  omega
def stD (l : List (List Nat)) : D := .tup (l.map D.str)
theorem cutS_ {l : List (List Nat)} {a b : Option Int} {s : S} : fCut (stD l) a b s = .ok (stD (cut l a b), s) := by
  unfold stD
  rw [x_fCutT, cut_map]
theorem addS {e1 e2 : ME} {a b : List (List Nat)} {s : S} (h1 : e1 s = .ok (stD a, s)) (h2 : e2 s = .ok (stD b, s)) (hl : a.length + b.length ≤ 10000) : eOp fAdd e1 e2 s = .ok (stD (a ++ b), s) := by
  have z : a.length + b.length ≤ SZ := by rw [SZv]; omega
  rw [x_eOp, h1, VL.R.bind_ok, h2, VL.R.bind_ok]
  unfold stD
  rw [x_fAddT, if_pos (by simpa using z), List.map_append]
theorem ixN {names : List (List Nat)} {i : Int} (h0 : 0 ≤ i) (h : i < names.length) : ∃ z ∈ names, ∀ s, fIx (.lst (names.map D.str)) (.int i) s = .ok (.str z, s) := by
  obtain ⟨j, rfl⟩ : ∃ j : Nat, i = j := ⟨i.toNat, by omega⟩
  have hj : j < names.length := by omega
  exact ⟨names[j], List.getElem_mem hj, fun s => K76.ixN hj s⟩
/-- what stands fixed in the loop -/
structure FX (ds : List Int) (names : List (List Nat)) (v : L_law) : Prop where
  d : v.v_draws = some (.lst (iL ds))
  n : v.v_names = some (.lst (names.map D.str))
  c : v.v_count = some (.int (names.length : Nat))
  m : v.mm = []
theorem turn {ds : List Int} {names : List (List Nat)} (hD : ds.length = 16 ∧ ∀ x ∈ ds, 0 ≤ x ∧ x < 5040) {v : L_law} (fx : FX ds names v) (hn : names ≠ []) (hn30 : names.length ≤ 30) {t : List Row} (g : G names t) (hr : v.v_room = some (tabD t)) {k : Nat} (hk : k < 5) (w6 : v.v_k = some (.int k)) :
    ∃ v' t', FX ds names v' ∧ G names t' ∧ v'.v_room = some (tabD t') ∧ v'.v_begun = v.v_begun ∧ b_law_9 v.S = .nx v'.S := by
  have hnl : (0 : Int) < (names.length : Int) := by have := List.length_pos_iff.mpr hn; omega
  have hl := g.l1
  have z3 : 3 ≤ SZ := by rw [SZv]; omega
  have z2 : 2 ≤ SZ := by rw [SZv]; omega
  have m2 : mulOk 2 (k : Int) = true := mulOk_l (by omega) (by omega)
  have pick : ∀ c : Int, 1 ≤ c → c ≤ 2 → ∃ z ∈ names, ∀ s : S, s.r[1]? = some (some (.lst (iL ds))) → s.r[2]? = some (some (.int (names.length : Nat))) → s.r[3]? = some (some (.lst (names.map D.str))) → s.r[6]? = some (some (.int k)) → eOp fIx (eV 3) (eOp fMod (eCB (c1 gInt) (aCons (eOp fIx (eV 1) (eOp fAdd (eC (.int c)) (eOp fMul (eC (.int 2)) (eV 6)))) aNil)) (eV 2)) s = .ok (.str z, s) := fun c hc1 hc2 => by
    obtain ⟨x, hx⟩ : ∃ x, x = datI ds (c + 2 * (k : Int)) := ⟨_, rfl⟩
    have hx0 : 0 ≤ x := by rw [hx]; exact (datI_in (l := ds) (P := fun x => 0 ≤ x ∧ x < 5040) hD.2 (by omega) (by omega)).1
    have ix : ∀ s, fIx (.lst (iL ds)) (.int (c + 2 * (k : Int))) s = .ok (.int x, s) := fun s => by rw [hx]; exact fIx_L (by omega) (by omega)
    obtain ⟨z, hz, ez⟩ := ixN (names := names) (i := x % (names.length : Int)) (Int.emod_nonneg _ (by omega)) (Int.emod_lt_of_pos _ hnl)
    refine ⟨z, hz, fun s h1 h2 h3 h6 => ?_⟩
    have y1 : eV 1 s = .ok (.lst (iL ds), s) := by rw [x_eV]; simp only [h1]
    have y2 : eV 2 s = .ok (.int (names.length : Nat), s) := by rw [x_eV]; simp only [h2]
    have y3 : eV 3 s = .ok (.lst (names.map D.str), s) := by rw [x_eV]; simp only [h3]
    have y6 : eV 6 s = .ok (.int k, s) := by rw [x_eV]; simp only [h6]
    have ea : eOp fAdd (eC (.int c)) (eOp fMul (eC (.int 2)) (eV 6)) s = .ok (.int (c + 2 * (k : Int)), s) := by
      rw [x_eOp, x_eC, VL.R.bind_ok, x_eOp, x_eC, VL.R.bind_ok, y6, VL.R.bind_ok, x_fMul, m2]
      rfl
    have ei : eCB (c1 gInt) (aCons (eOp fIx (eV 1) (eOp fAdd (eC (.int c)) (eOp fMul (eC (.int 2)) (eV 6)))) aNil) s = .ok (.int x, s) := by
      rw [x_eCB, x_aCons, x_eOp, y1, VL.R.bind_ok, ea, VL.R.bind_ok, ix]
      rfl
    rw [x_eOp, y3, VL.R.bind_ok, x_eOp, ei, VL.R.bind_ok, y2, VL.R.bind_ok, fMod_p hnl, VL.R.bind_ok, ez]
  obtain ⟨th, hth, e1⟩ := pick 1 (by omega) (by omega)
  obtain ⟨h, hh, e2⟩ := pick 2 (by omega) (by omega)
  obtain ⟨V1, hV1⟩ : ∃ V : L_law, V = { v with v_thing := some (.str th) } := ⟨_, rfl⟩
  have s1 : s_law_1 v.S = .nx V1.S := by
    rw [s_law_1, x_sAsg, e1 v.S (by simp [L_law.S, fx.d]) (by simp [L_law.S, fx.c]) (by simp [L_law.S, fx.n]) (by simp [L_law.S, w6]), hV1]
    rfl
  obtain ⟨V2, hV2⟩ : ∃ V : L_law, V = { V1 with v_other := some (.str h) } := ⟨_, rfl⟩
  have s2 : s_law_2 V1.S = .nx V2.S := by
    rw [s_law_2, x_sAsg, e2 V1.S (by rw [hV1]; simp [L_law.S, fx.d]) (by rw [hV1]; simp [L_law.S, fx.c]) (by rw [hV1]; simp [L_law.S, fx.n]) (by rw [hV1]; simp [L_law.S, w6]), hV2]
    rfl
  have nl2 : noLocs [tabD t, .str th] = true := by simp [noLoc_tab]
  obtain ⟨V3, hV3⟩ : ∃ V : L_law, V = { V2 with v_below := some (stD (heldL t th)) } := ⟨_, rfl⟩
  have s3 : s_law_3 V2.S = .nx V3.S := by
    have y4 : eV 4 V2.S = .ok (tabD t, V2.S) := by rw [hV2, hV1]; simp [L_law.S, hr]
    have y7 : eV 7 V2.S = .ok (.str th, V2.S) := by rw [hV2, hV1]; simp [L_law.S]
    rw [s_law_3, x_sAsg, x_eCall, x_aCons, y4, VL.R.bind_ok, x_aCons, y7]
    simp only [VL.R.bind_ok, x_aNil, nl2, if_true, law_held_ok g]
    rw [hV3]
    rfl
  obtain ⟨wy, hwy⟩ : ∃ wy, wy = wayL t (t.length + 1) th := ⟨_, rfl⟩
  obtain ⟨bl, hbl⟩ : ∃ bl, bl = heldL t th := ⟨_, rfl⟩
  obtain ⟨hs, hhs⟩ : ∃ hs : List (List Nat), hs = [h, [], th] ++ cut bl none (some 1) ++ cut bl (some ((bl.length : Int) - 1)) none ++ cut wy none (some 1) := ⟨_, rfl⟩
  have htt := (g.mem th).mpr hth
  obtain ⟨V4, hV4⟩ : ∃ V : L_law, V = { V3 with v_holders := some (stD hs) } := ⟨_, rfl⟩
  have hbl30 : bl.length ≤ 30 := by rw [hbl]; exact held_len g th
  have hwl : wy.length ≤ t.length + 1 := by rw [hwy]; exact wayL_len _ _ _
  have s4 : s_law_4 V3.S = .nx V4.S := by
    have y4 : eV 4 V3.S = .ok (tabD t, V3.S) := by rw [hV3, hV2, hV1]; simp [L_law.S, hr]
    have y7 : eV 7 V3.S = .ok (.str th, V3.S) := by rw [hV3, hV2, hV1]; simp [L_law.S]
    have y8 : eV 8 V3.S = .ok (.str h, V3.S) := by rw [hV3, hV2]; simp [L_law.S]
    have y9 : eV 9 V3.S = .ok (stD bl, V3.S) := by rw [hV3, hbl]; simp [L_law.S]
    have a1 : eTup (aCons (eV 8) (aCons (eC (.str [])) (aCons (eV 7) aNil))) V3.S = .ok (stD [h, [], th], V3.S) := by
      rw [x_eTup, x_aCons, y8, VL.R.bind_ok, x_aCons, x_eC, VL.R.bind_ok, x_aCons, y7]
      simp only [VL.R.bind_ok, x_aNil, List.length_cons, List.length_nil, Nat.zero_add, Nat.reduceAdd, z3, if_true]
      rfl
    have a2 : eCut (eV 9) oNone (oSome (eC (.int 1))) V3.S = .ok (stD (cut bl none (some 1)), V3.S) := by
      rw [x_eCut, y9, VL.R.bind_ok, x_oNone, VL.R.bind_ok, x_oSome, x_eC, VL.R.bind_ok]
      exact cutS_
    have el : eOp fSub (eCB cLen (aCons (eV 9) aNil)) (eC (.int 1)) V3.S = .ok (.int ((bl.length : Int) - 1), V3.S) := by
      have hS : bl.length ≤ SZ := by rw [SZv]; omega
      rw [x_eOp, x_eCB, x_aCons, y9]
      simp [stD, hS]
    have a3 : eCut (eV 9) (oSome (eOp fSub (eCB cLen (aCons (eV 9) aNil)) (eC (.int 1)))) oNone V3.S = .ok (stD (cut bl (some ((bl.length : Int) - 1)) none), V3.S) := by
      rw [x_eCut, y9, VL.R.bind_ok, x_oSome, el, VL.R.bind_ok]
      exact cutS_
    have ho := holders_ok g.pl hl htt (g.ends hth)
    have a4 : eCut (eCall f__law_holders (aCons (eV 4) (aCons (eV 7) aNil))) oNone (oSome (eC (.int 1))) V3.S = .ok (stD (cut wy none (some 1)), V3.S) := by
      have ec : eCall f__law_holders (aCons (eV 4) (aCons (eV 7) aNil)) V3.S = .ok (stD wy, V3.S) := by
        rw [x_eCall, x_aCons, y4, VL.R.bind_ok, x_aCons, y7]
        simp only [VL.R.bind_ok, x_aNil, nl2, if_true, ho, hwy]
        rfl
      rw [x_eCut, ec, VL.R.bind_ok, x_oNone, VL.R.bind_ok, x_oSome, x_eC, VL.R.bind_ok]
      exact cutS_
    have l1 := cut_len (l := bl) (a := none) (b := some 1)
    have l2 := cut_len (l := bl) (a := some ((bl.length : Int) - 1)) (b := none)
    have l3 := cut_len (l := wy) (a := none) (b := some 1)
    rw [s_law_4, x_sAsg, addS (addS (addS a1 a2 (by simp; omega)) a3 (by simp; omega)) a4 (by simp; omega), hV4, hhs]
    rfl
  have hhin : ∀ z ∈ hs, z = [] ∨ z ∈ names := fun z hz => by
    rw [hhs] at hz
    have hblm : ∀ z ∈ bl, z ∈ names := fun z hz => by
      rw [hbl] at hz
      obtain ⟨r, hr, rfl⟩ := List.mem_map.mp hz
      exact (g.mem _).mp (List.mem_map.mpr ⟨r, (List.mem_filter.mp hr).1, rfl⟩)
    rcases List.mem_append.mp hz with hz | hz
    · rcases List.mem_append.mp hz with hz | hz
      · rcases List.mem_append.mp hz with hz | hz
        · simp only [List.mem_cons, List.not_mem_nil, or_false] at hz
          rcases hz with rfl | rfl | rfl
          · exact .inr hh
          · exact .inl rfl
          · exact .inr hth
        · exact .inr (hblm z (cut_mem hz))
      · exact .inr (hblm z (cut_mem hz))
    · have := cut_mem hz
      rw [hwy] at this
      exact .inr ((g.mem z).mp (way_in g.pl htt z this))
  have hmv : f__law_moves [tabD t, .str th, stD hs] = .ok (.bl true) := moves_ok g hth hhin
  have nlh : noLoc (stD hs) = true := noLocs_str hs
  have s5 : s_law_5 V4.S = .nx V4.S := by
    have y4 : eV 4 V4.S = .ok (tabD t, V4.S) := by rw [hV4, hV3, hV2, hV1]; simp [L_law.S, hr]
    have y7 : eV 7 V4.S = .ok (.str th, V4.S) := by rw [hV4, hV3, hV2, hV1]; simp [L_law.S]
    have y10 : eV 10 V4.S = .ok (stD hs, V4.S) := by rw [hV4]; simp [L_law.S]
    have nl : noLocs [tabD t, .str th, stD hs] = true := by simp [noLoc_tab, nlh]
    rw [s_law_5, x_sIf, x_tNotM, x_tTruN, x_eCall, x_aCons, y4, VL.R.bind_ok, x_aCons, y7, VL.R.bind_ok, x_aCons, y10]
    simp only [VL.R.bind_ok, x_aNil, nl, if_true, hmv]
    rfl
  obtain ⟨aft, haft⟩ : ∃ aft, aft = (if bm t th h = true then D.non else tabD (mv t th h)) := ⟨_, rfl⟩
  obtain ⟨V5, hV5⟩ : ∃ V : L_law, V = { V4 with v_after := some aft } := ⟨_, rfl⟩
  have s6 : s_law_6 V4.S = .nx V5.S := by
    have y4 : eV 4 V4.S = .ok (tabD t, V4.S) := by rw [hV4, hV3, hV2, hV1]; simp [L_law.S, hr]
    have y7 : eV 7 V4.S = .ok (.str th, V4.S) := by rw [hV4, hV3, hV2, hV1]; simp [L_law.S]
    have y8 : eV 8 V4.S = .ok (.str h, V4.S) := by rw [hV4, hV3, hV2]; simp [L_law.S]
    have nl : noLocs [tabD t, .str th, .str h] = true := by simp [noLoc_tab]
    rw [s_law_6, x_sAsg, x_eCall, x_aCons, y4, VL.R.bind_ok, x_aCons, y7, VL.R.bind_ok, x_aCons, y8]
    simp only [VL.R.bind_ok, x_aNil, nl, if_true, due_ok g hth (.inr hh), ← haft]
    rw [hV5]
    rfl
  obtain ⟨t', ht', gt', hroom⟩ : ∃ t', t' = (if bm t th h = true then t else mv t th h) ∧ G names t' ∧ s_law_7 V5.S = .nx (L_law.S { V5 with v_room := some (tabD t') }) := by
    have y11 : eV 11 V5.S = .ok (aft, V5.S) := by rw [hV5]; simp [L_law.S]
    by_cases hb : bm t th h = true
    · refine ⟨_, rfl, by rw [if_pos hb]; exact g, ?_⟩
      rw [if_pos hb] at haft ⊢
      have ev : L_law.S { V5 with v_room := some (tabD t) } = V5.S := by rw [hV5, hV4, hV3, hV2, hV1, ← hr]
      rw [ev, s_law_7, x_sIf, x_tBl, x_eOp, y11, VL.R.bind_ok, x_eC, VL.R.bind_ok, haft]
      rfl
    · have hb' : bm t th h = false := by simpa using hb
      unfold bm at hb'
      simp only [Bool.or_eq_false_iff, Bool.and_eq_false_imp, decide_eq_false_iff_not, decide_eq_true_eq] at hb'
      refine ⟨_, rfl, by rw [if_neg hb]; exact g.mv (.inr hh) hb'.1 (hb'.2 (g.sg h hh).2), ?_⟩
      rw [if_neg hb] at haft ⊢
      rw [s_law_7, x_sIf, x_tBl, x_eOp, y11, VL.R.bind_ok, x_eC, VL.R.bind_ok, haft]
      have : fIsn (tabD (mv t th h)) .non V5.S = .ok (.bl true, V5.S) := rfl
      rw [this]
      simp only [VL.R.bind_ok, VL.R.to_ok]
      show sAsg (eV 11) (gN 4) V5.S = _
      rw [x_sAsg, y11, haft]
      rfl
  obtain ⟨V6, hV6⟩ : ∃ V : L_law, V = { V5 with v_room := some (tabD t') } := ⟨_, rfl⟩
  rw [← hV6] at hroom
  have s8 : s_law_8 V6.S = .nx V6.S := by
    have y4 : eV 4 V6.S = .ok (tabD t', V6.S) := by rw [hV6]; simp [L_law.S]
    have y7 : eV 7 V6.S = .ok (.str th, V6.S) := by rw [hV6, hV5, hV4, hV3, hV2, hV1]; simp [L_law.S]
    have y8 : eV 8 V6.S = .ok (.str h, V6.S) := by rw [hV6, hV5, hV4, hV3, hV2]; simp [L_law.S]
    have el : eFrz (fLst (aCons (eV 7) (aCons (eV 8) aNil))) V6.S = .ok (.lst ([th, h].map D.str), V6.S) := by
      rw [x_eFrz, x_fLst, x_aCons, y7, VL.R.bind_ok, x_aCons, y8]
      simp [z2]
    have hk := looks_ok gt' (things := [th, h]) (fun z hz => by
      simp only [List.mem_cons, List.not_mem_nil, or_false] at hz
      rcases hz with rfl | rfl
      · exact hth
      · exact hh)
    have nl : noLocs [tabD t', .lst ([th, h].map D.str)] = true := by simp [noLoc_tab]
    rw [s_law_8, x_sIf, x_tNotM, x_tTruN, x_eCall, x_aCons, y4, VL.R.bind_ok, x_aCons, el]
    simp only [VL.R.bind_ok, x_aNil, nl, if_true, hk]
    rfl
  refine ⟨V6, t', by rw [hV6, hV5, hV4, hV3, hV2, hV1]; exact ⟨fx.d, fx.n, fx.c, fx.m⟩, gt', by rw [hV6], by rw [hV6, hV5, hV4, hV3, hV2, hV1], ?_⟩
  rw [b_law_9, x_sSeq, s1, VL.C.seq_nx, x_sSeq, s2, VL.C.seq_nx, x_sSeq, s3, VL.C.seq_nx, x_sSeq, s4, VL.C.seq_nx, x_sSeq, s5, VL.C.seq_nx, x_sSeq, s6, VL.C.seq_nx, x_sSeq, hroom, VL.C.seq_nx, s8]
end K77
namespace K77
open PySem L2 VL
open K76 (Row rowD tabD Sgs noLoc_tab things_ok room_ok2 Lim)
theorem law_true (ns : List Int) (h : ns.length ≤ 63) : f_law [.scr ns] = .ok (.bl true) := by
  obtain ⟨c, hc⟩ := cell_ok ns 0 h (by omega)
  obtain ⟨cA, hc1⟩ := cell_ok ns 1 h (by omega)
  obtain ⟨cB, hc2⟩ := cell_ok ns 2 h (by omega)
  obtain ⟨ds, d1, d2, hd⟩ := draws_ok c 16 (by omega)
  have hc : f__law_cell [.scr ns, .int 0] = .ok (.int c) := hc
  have hc1 : f__law_cell [.scr ns, .int 1] = .ok (.int cA) := hc1
  have hc2 : f__law_cell [.scr ns, .int 2] = .ok (.int cB) := hc2
  have hd : f__law_draws [.int c, .int 16] = .ok (.lst (iL ds)) := hd
  have i0 : ∀ s, fIx (.lst (iL ds)) (.int 0) s = .ok (.int (datI ds 0), s) := fun s => fIx_L (by omega) (by omega)
  have z10 : 10 ≤ SZ := by rw [SZv]; omega
  obtain ⟨V0, hV0⟩ : ∃ V : L_law, V = { v_script := some (.scr ns) } := ⟨_, rfl⟩
  obtain ⟨V1, hV1⟩ : ∃ V : L_law, V = { V0 with v_draws := some (.lst (iL ds)) } := ⟨_, rfl⟩
  have e10 : s_law_10 V0.S = .nx V1.S := by rw [hV1, hV0]; simp [s_law_10, L_law.S, hc, hd]
  obtain ⟨n, en, n1, n30⟩ : ∃ n : Nat, datI [4, 3, 6, 2, 8, 1, 5, 7, 4, 30] (datI ds 0 % 10) = n ∧ 1 ≤ n ∧ n ≤ 30 := by
    have := datI_in (l := [4, 3, 6, 2, 8, 1, 5, 7, 4, 30]) (P := fun x => 1 ≤ x ∧ x ≤ 30) (by decide) (i := datI ds 0 % 10) (by omega) (by simp; omega)
    exact ⟨(datI [4, 3, 6, 2, 8, 1, 5, 7, 4, 30] (datI ds 0 % 10)).toNat, by omega, by omega, by omega⟩
  obtain ⟨V2, hV2⟩ : ∃ V : L_law, V = { V1 with v_count := some (.int (n : Nat)) } := ⟨_, rfl⟩
  have e11 : s_law_11 V1.S = .nx V2.S := by
    have tt : ∀ s, fIx (.tup [.int 4, .int 3, .int 6, .int 2, .int 8, .int 1, .int 5, .int 7, .int 4, .int 30]) (.int (datI ds 0 % 10)) s = .ok (.int n, s) := fun s => by
      rw [← en]; exact fIx_T (l := [4, 3, 6, 2, 8, 1, 5, 7, 4, 30]) (by omega) (by simp; omega)
    rw [hV2, hV1, hV0]
    simp [s_law_11, L_law.S, i0, z10, tt]
  obtain ⟨dt, t1, t2, hdt⟩ := draws_ok cA (2 * n) (by omega)
  have hdt : f__law_draws [.int cA, .int ((2 * n : Nat) : Int)] = .ok (.lst (iL dt)) := hdt
  have e2n : ((2 * n : Nat) : Int) = 2 * (n : Int) := by omega
  rw [e2n] at hdt
  obtain ⟨names, nl, nsg, ⟨nnd, nn0⟩, hth⟩ := things_ok t1 t2 n30
  have hth : f__law_things [.lst (iL dt), .int (n : Nat)] = .ok (.lst (names.map D.str)) := hth
  obtain ⟨V3, hV3⟩ : ∃ V : L_law, V = { V2 with v_names := some (.lst (names.map D.str)) } := ⟨_, rfl⟩
  have e12 : s_law_12 V2.S = .nx V3.S := by
    have m2 : mulOk 2 (n : Int) = true := mulOk_l (by omega) (by omega)
    rw [hV3, hV2, hV1, hV0]
    simp [s_law_12, L_law.S, hc1, m2, hdt, hth]
  obtain ⟨du, u1, u2, hdu⟩ := draws_ok cB n (by omega)
  have hdu : f__law_draws [.int cB, .int (n : Int)] = .ok (.lst (iL du)) := hdu
  obtain ⟨t, hlim, ⟨t0, hs, ha, hb⟩, hroom⟩ := room_ok2 (ds := du) (names := names) (by omega) u2 nsg (by omega)
  have hroom : f__law_room [.lst (iL du), .lst (names.map D.str)] = .ok (tabD t) := hroom
  have g : G names t := room_G nnd (fun z hz => ⟨nsg z hz, nn0 z hz⟩) (by omega) hs ha hb
  have hne : names ≠ [] := fun e => by rw [e] at nl; simp at nl; omega
  obtain ⟨V4, hV4⟩ : ∃ V : L_law, V = { V3 with v_room := some (tabD t) } := ⟨_, rfl⟩
  have nln := noLocs_str names
  have e13 : s_law_13 V3.S = .nx V4.S := by
    rw [hV4, hV3, hV2, hV1, hV0]
    simp [s_law_13, L_law.S, hc2, hdu, hroom, nln]
  have lk := looks_ok g (things := names) (fun z hz => hz)
  have lk0 : f__law_looks [tabD [], .lst []] = .ok (.bl true) := looks_ok G_nil (things := []) (fun z hz => hz)
  have nl1 : ∀ (t : List Row) (l : List (List Nat)), noLocs [tabD t, .lst (l.map D.str)] = true := fun t l => by
    simp [noLoc_tab, noLocs_str]
  have looks : ∀ (s : S) (e1 e2 : ME) (t : List Row) (l : List (List Nat)), e1 s = .ok (tabD t, s) → e2 s = .ok (.lst (l.map D.str), s) → f__law_looks [tabD t, .lst (l.map D.str)] = .ok (.bl true) → eCall f__law_looks (aCons e1 (aCons e2 aNil)) s = .ok (.bl true, s) := fun s e1 e2 t l h1 h2 hl => by
    rw [x_eCall, x_aCons, h1, VL.R.bind_ok, x_aCons, h2]
    simp only [VL.R.bind_ok, x_aNil, nl1, if_true, hl]
  have e14 : s_law_14 V4.S = .nx V4.S := by
    have y4 : eV 4 V4.S = .ok (tabD t, V4.S) := by rw [hV4]; simp [L_law.S]
    have y3 : eV 3 V4.S = .ok (.lst (names.map D.str), V4.S) := by rw [hV4, hV3]; simp [L_law.S]
    have l1 := looks V4.S _ _ t names y4 y3 lk
    have yt : eTup aNil V4.S = .ok (tabD [], V4.S) := by
      rw [x_eTup, x_aNil]
      simp
      rfl
    have yl : eFrz (fLst aNil) V4.S = .ok (.lst (([] : List (List Nat)).map D.str), V4.S) := by
      rw [x_eFrz, x_fLst, x_aNil]
      simp
    have l2 := looks V4.S _ _ [] [] yt yl lk0
    rw [s_law_14, x_sIf, x_tOrM, x_tNotM, x_tTruN, l1]
    simp only [VL.R.bind_ok, x_truB, Bool.not_true, Bool.false_eq_true, if_false]
    rw [x_tNotM, x_tTruN, l2]
    rfl
  obtain ⟨V5, hV5⟩ : ∃ V : L_law, V = { V4 with v_begun := some (tabD t) } := ⟨_, rfl⟩
  have e15 : s_law_15 V4.S = .nx V5.S := by rw [hV5, hV4]; simp [s_law_15, L_law.S]
  have nc : ((n : Nat) : Int) = (names.length : Nat) := by rw [nl]
  obtain ⟨s', e16', v, t', rfl, fx, g', hr, hbg⟩ := forL_rng (g := gN 6) (b := b_law_9) (n := 5) (s := V5.S) (fun i s => ∃ (v : L_law) (t' : List Row), s = v.S ∧ FX ds names v ∧ G names t' ∧ v.v_room = some (tabD t') ∧ v.v_begun = some (tabD t))
    ⟨V5, t, rfl, by rw [hV5, hV4, hV3, hV2, hV1, hV0]; exact ⟨rfl, rfl, by rw [← nc], rfl⟩, g, by rw [hV5, hV4], by rw [hV5]⟩ (fun i s hi ⟨v, t', e, fx, g', hr, hbg⟩ => by
    subst e
    obtain ⟨v', t2, fx', g2, hr', hbg', e⟩ := turn ⟨d1, d2⟩ (v := { v with v_k := some (.int i) }) ⟨fx.d, fx.n, fx.c, fx.m⟩ hne (by omega) g' hr (k := i) hi rfl
    exact ⟨L_law.S { v with v_k := some (.int i) }, rfl, v'.S, .inl e, v', t2, rfl, fx', g2, hr', by rw [hbg']; exact hbg⟩)
  have e16 : s_law_16 V5.S = .nx v.S := by
    have hit : iRg1M (aCons (eC (.int 5)) aNil) V5.S = .ok (rng 0 5, V5.S) := by simp
    rw [s_law_16, x_sFor, hit]
    simp only [VL.R.to_ok]
    exact e16'
  obtain ⟨z0, hz0, ez0⟩ := ixN (names := names) (i := 0) (by omega) (by have := List.length_pos_iff.mpr hne; omega)
  have e17 : s_law_17 v.S = .rt (.bl true) v.S := by
    have y5 : eV 5 v.S = .ok (tabD t, v.S) := by simp [L_law.S, hbg]
    have y4 : eV 4 v.S = .ok (tabD t', v.S) := by simp [L_law.S, hr]
    have y3 : eV 3 v.S = .ok (.lst (names.map D.str), v.S) := by simp [L_law.S, fx.n]
    have c4 : eCut (eV 3) oNone (oSome (eC (.int 4))) v.S = .ok (.lst ((cut names none (some 4)).map D.str), v.S) := by
      rw [x_eCut, y3, VL.R.bind_ok, x_oNone, VL.R.bind_ok, x_oSome, x_eC, VL.R.bind_ok]
      show fCut (.lst (names.map D.str)) none (some 4) v.S = _
      rw [x_fCutL, cut_map]
    have c6 : eCut (eV 3) oNone (oSome (eC (.int 6))) v.S = .ok (.lst ((cut names none (some 6)).map D.str), v.S) := by
      rw [x_eCut, y3, VL.R.bind_ok, x_oNone, VL.R.bind_ok, x_oSome, x_eC, VL.R.bind_ok]
      show fCut (.lst (names.map D.str)) none (some 6) v.S = _
      rw [x_fCutL, cut_map]
    have l1 := looks v.S _ _ t _ y5 c4 (looks_ok g fun z hz => cut_mem hz)
    have l3 := looks v.S _ _ t' names y4 y3 (looks_ok g' fun z hz => hz)
    have ct : eCB (c1 gTuple) (aCons (eCut (eV 3) oNone (oSome (eC (.int 6)))) aNil) v.S = .ok (.tup ((cut names none (some 6)).map D.str), v.S) := by
      rw [x_eCB, x_aCons, c6]
      rfl
    have ei : eOp fIx (eV 3) (eC (.int 0)) v.S = .ok (.str z0, v.S) := by
      rw [x_eOp, y3, VL.R.bind_ok, x_eC, VL.R.bind_ok, ez0]
    have mv := moves_ok g hz0 (hs := cut names none (some 6)) fun z hz => .inr (cut_mem hz)
    have nlm : noLocs [tabD t, .str z0, .tup ((cut names none (some 6)).map D.str)] = true := by simp [noLoc_tab, noLocs_str]
    have l2 : eCall f__law_moves (aCons (eV 5) (aCons (eOp fIx (eV 3) (eC (.int 0))) (aCons (eCB (c1 gTuple) (aCons (eCut (eV 3) oNone (oSome (eC (.int 6)))) aNil)) aNil))) v.S = .ok (.bl true, v.S) := by
      rw [x_eCall, x_aCons, y5, VL.R.bind_ok, x_aCons, ei, VL.R.bind_ok, x_aCons, ct]
      simp only [VL.R.bind_ok, x_aNil, nlm, if_true, mv]
    rw [s_law_17, x_sRet, x_eAndV, l1]
    simp only [VL.R.bind_ok]
    rw [x_eAndV, l2]
    simp only [VL.R.bind_ok]
    rw [l3]
    rfl
  refine pure_rt rfl ⟨v.S, ?_⟩ rfl
  show m_law (L_law.S { v_script := some (.scr ns) }) = _
  rw [← hV0, m_law, x_sSeq, e10, VL.C.seq_nx, x_sSeq, e11, VL.C.seq_nx, x_sSeq, e12, VL.C.seq_nx, x_sSeq, e13, VL.C.seq_nx, x_sSeq, e14, VL.C.seq_nx, x_sSeq, e15, VL.C.seq_nx, x_sSeq, e16, VL.C.seq_nx, e17]
end K77
namespace K77
open PySem PySem.Spec PyProof.Rows L2 VL
def dd_way : He.DefD := ⟨("way", none), "way", "way", defArgs st_way, defBody st_way, defScope st_way, [], []⟩
def dd_held : He.DefD := ⟨("held", none), "held", "held", defArgs st_held, defBody st_held, defScope st_held, [], []⟩
def dd_depth : He.DefD := ⟨("depth", none), "depth", "depth", defArgs st_depth, defBody st_depth, defScope st_depth, [], []⟩
def dd_moved : He.DefD := ⟨("moved", none), "moved", "moved", defArgs st_moved, defBody st_moved, defScope st_moved, [], []⟩
def dd__law_cell : He.DefD := ⟨("_law_cell", none), "_law_cell", "_law_cell", defArgs st__law_cell, defBody st__law_cell, defScope st__law_cell, [], []⟩
def dd__law_draws : He.DefD := ⟨("_law_draws", none), "_law_draws", "_law_draws", defArgs st__law_draws, defBody st__law_draws, defScope st__law_draws, [], []⟩
def dd__law_is_integer : He.DefD := ⟨("_law_is_integer", none), "_law_is_integer", "_law_is_integer", defArgs st__law_is_integer, defBody st__law_is_integer, defScope st__law_is_integer, [], []⟩
def dd__law_name : He.DefD := ⟨("_law_name", none), "_law_name", "_law_name", defArgs st__law_name, defBody st__law_name, defScope st__law_name, [], []⟩
def dd__law_is : He.DefD := ⟨("_law_is", none), "_law_is", "_law_is", defArgs st__law_is, defBody st__law_is, defScope st__law_is, [], []⟩
def dd__law_things : He.DefD := ⟨("_law_things", none), "_law_things", "_law_things", defArgs st__law_things, defBody st__law_things, defScope st__law_things, [], []⟩
def dd__law_room : He.DefD := ⟨("_law_room", none), "_law_room", "_law_room", defArgs st__law_room, defBody st__law_room, defScope st__law_room, [], []⟩
def dd__law_holders : He.DefD := ⟨("_law_holders", none), "_law_holders", "_law_holders", defArgs st__law_holders, defBody st__law_holders, defScope st__law_holders, [], []⟩
def dd__law_held : He.DefD := ⟨("_law_held", none), "_law_held", "_law_held", defArgs st__law_held, defBody st__law_held, defScope st__law_held, [], []⟩
def dd__law_looks : He.DefD := ⟨("_law_looks", none), "_law_looks", "_law_looks", defArgs st__law_looks, defBody st__law_looks, defScope st__law_looks, [], []⟩
def dd__law_tried : He.DefD := ⟨("_law_tried", none), "_law_tried", "_law_tried", defArgs st__law_tried, defBody st__law_tried, defScope st__law_tried, [], []⟩
def dd__law_due : He.DefD := ⟨("_law_due", none), "_law_due", "_law_due", defArgs st__law_due, defBody st__law_due, defScope st__law_due, [], []⟩
def dd__law_moves : He.DefD := ⟨("_law_moves", none), "_law_moves", "_law_moves", defArgs st__law_moves, defBody st__law_moves, defScope st__law_moves, [], []⟩
def dd_law : He.DefD := ⟨("law", none), "law", "law", defArgs st_law, defBody st_law, defScope st_law, [], []⟩
def fn : List He.DefD := [dd_way, dd_held, dd_depth, dd_moved, dd__law_cell, dd__law_draws, dd__law_is_integer, dd__law_name, dd__law_is, dd__law_things, dd__law_room, dd__law_holders, dd__law_held, dd__law_looks, dd__law_tried, dd__law_due, dd__law_moves, dd_law]
def fa : List He.Fa := [.glo "way", .glo "held", .glo "depth", .glo "moved", .glo "_law_cell", .glo "_law_draws", .glo "_law_is_integer", .glo "_law_name", .glo "_law_is", .glo "_law_things", .glo "_law_room", .glo "_law_holders", .glo "_law_held", .glo "_law_looks", .glo "_law_tried", .glo "_law_due", .glo "_law_moves", .glo "law", .free "ValueError", .free "abs", .free "all", .free "bool", .free "dict", .free "int", .free "isinstance", .free "len", .free "max", .free "range", .free "sorted", .free "str", .free "super", .free "tuple", .str "FLOOR" "", .glo "BadMove", .glo "BadRoom", .glo "MailwaysError", .glo "NoLane", .glo "NothingToUndo"]
def tf : List He.Defn := []
def i_BadMove : IniD := ⟨"BadMove", "BadMove.__init__", XI.iAs [XI.iArg "self" ⟨20, 17, 20, 21⟩], [XI.iR (.Constant (.str "a thing would hold itself") 0 ⟨21, 25, 21, 52⟩) ⟨21, 8, 21, 13⟩ ⟨21, 8, 21, 15⟩ ⟨21, 8, 21, 24⟩ ⟨21, 8, 21, 53⟩ ⟨21, 8, 21, 53⟩], XI.iSc ["self"]⟩
abbrev fileN : Str := PySem.Challenge.pw_mailways_k77_whole_bags_in_bags.main.file
def ex (K : PySem.W.Frag) : Bool := excB K "BadMove" && iniB K "BadMove" "BadMove.__init__" fileN && decide (PySem.W.kitOne K (.ref (He.ga K "BadMove")) (.ref (He.ga K "BadRoom")) = some false) && decide (PySem.W.kitOne K (.ref (He.ga K "BadMove")) (.ref (He.ga K "MailwaysError")) = some true) && decide (PySem.W.kitOne K (.ref (He.ga K "BadMove")) (.ref (He.ga K "NoLane")) = some false) && decide (PySem.W.kitOne K (.ref (He.ga K "BadMove")) (.ref (He.ga K "NothingToUndo")) = some false) && decide (PySem.W.kitOne K (.ref (He.ga K "BadMove")) (.type "ValueError") = some true)
def fi : List IniD := [i_BadMove]
abbrev R : PySem.W.OpenRow := PySem.W.OpenLaw.row PySem.Challenge.rw_mailways_k77_whole_bags_in_bags
abbrev hk : PySem.W.Hook := hookY 4 fa fn [] tf ex fi
def ob (s : PySem.W.SharedT) : AlY := obsY 4 fa fn [] tf ex fi (HandSHeadRun.getT s)
theorem ob_eq (s : PySem.W.SharedT) : ob s = hk.obs s.abs := obsY_eq (HandSHeadRun.getT_eq s)
abbrev loose : List Str := ["MailwaysError", "NoLane", "NothingToUndo", "BadRoom", "BadMove", "FLOOR", "way", "held", "depth", "moved", "_law_cell", "_law_draws", "_law_is_integer", "_law_name", "_law_is", "_law_things", "_law_room", "_law_holders", "_law_held", "_law_looks", "_law_tried", "_law_due", "_law_moves"]
theorem run (w : World) : HandSHeadRun.RunEq R (PySem.W.view R.prog [26]) hk ob 4700 loose w := by
  intro os
  kernel_rfl
theorem law_at {w : World} {mg : Str → Option Value} {fadr : Addr} {h : Heap} (Y : hk.says w h) (G : h.Ns mainGlobals mg) (hfa : mg "law" = some (.ref fadr)) : ∃ K : PySem.W.Frag, K.In h ∧ LamX.LawAtS PySem.Challenge.rw_mailways_k77_whole_bags_in_bags w K (L2.CX (PySem.Challenge.rw_mailways_k77_whole_bags_in_bags).prog w) 30 63 "script" mg fadr h := by
  obtain ⟨K, X, cY⟩ := Y
  have c := cY.1
  have sd := c.t.d
  obtain ⟨fd_way, F_way⟩ := sd.def_ 0 (d := dd_way) rfl
  obtain ⟨fd_held, F_held⟩ := sd.def_ 1 (d := dd_held) rfl
  obtain ⟨fd_depth, F_depth⟩ := sd.def_ 2 (d := dd_depth) rfl
  obtain ⟨fd_moved, F_moved⟩ := sd.def_ 3 (d := dd_moved) rfl
  obtain ⟨fd__law_cell, F__law_cell⟩ := sd.def_ 4 (d := dd__law_cell) rfl
  obtain ⟨fd__law_draws, F__law_draws⟩ := sd.def_ 5 (d := dd__law_draws) rfl
  obtain ⟨fd__law_is_integer, F__law_is_integer⟩ := sd.def_ 6 (d := dd__law_is_integer) rfl
  obtain ⟨fd__law_name, F__law_name⟩ := sd.def_ 7 (d := dd__law_name) rfl
  obtain ⟨fd__law_is, F__law_is⟩ := sd.def_ 8 (d := dd__law_is) rfl
  obtain ⟨fd__law_things, F__law_things⟩ := sd.def_ 9 (d := dd__law_things) rfl
  obtain ⟨fd__law_room, F__law_room⟩ := sd.def_ 10 (d := dd__law_room) rfl
  obtain ⟨fd__law_holders, F__law_holders⟩ := sd.def_ 11 (d := dd__law_holders) rfl
  obtain ⟨fd__law_held, F__law_held⟩ := sd.def_ 12 (d := dd__law_held) rfl
  obtain ⟨fd__law_looks, F__law_looks⟩ := sd.def_ 13 (d := dd__law_looks) rfl
  obtain ⟨fd__law_tried, F__law_tried⟩ := sd.def_ 14 (d := dd__law_tried) rfl
  obtain ⟨fd__law_due, F__law_due⟩ := sd.def_ 15 (d := dd__law_due) rfl
  obtain ⟨fd__law_moves, F__law_moves⟩ := sd.def_ 16 (d := dd__law_moves) rfl
  obtain ⟨fd_law, F_law⟩ := sd.def_ 17 (d := dd_law) rfl
  have m_way := He.glo_ok X G (sd.fact 0 (f := .glo "way") rfl)
  have m_held := He.glo_ok X G (sd.fact 1 (f := .glo "held") rfl)
  have m_depth := He.glo_ok X G (sd.fact 2 (f := .glo "depth") rfl)
  have m_moved := He.glo_ok X G (sd.fact 3 (f := .glo "moved") rfl)
  have m__law_cell := He.glo_ok X G (sd.fact 4 (f := .glo "_law_cell") rfl)
  have m__law_draws := He.glo_ok X G (sd.fact 5 (f := .glo "_law_draws") rfl)
  have m__law_is_integer := He.glo_ok X G (sd.fact 6 (f := .glo "_law_is_integer") rfl)
  have m__law_name := He.glo_ok X G (sd.fact 7 (f := .glo "_law_name") rfl)
  have m__law_is := He.glo_ok X G (sd.fact 8 (f := .glo "_law_is") rfl)
  have m__law_things := He.glo_ok X G (sd.fact 9 (f := .glo "_law_things") rfl)
  have m__law_room := He.glo_ok X G (sd.fact 10 (f := .glo "_law_room") rfl)
  have m__law_holders := He.glo_ok X G (sd.fact 11 (f := .glo "_law_holders") rfl)
  have m__law_held := He.glo_ok X G (sd.fact 12 (f := .glo "_law_held") rfl)
  have m__law_looks := He.glo_ok X G (sd.fact 13 (f := .glo "_law_looks") rfl)
  have m__law_tried := He.glo_ok X G (sd.fact 14 (f := .glo "_law_tried") rfl)
  have m__law_due := He.glo_ok X G (sd.fact 15 (f := .glo "_law_due") rfl)
  have m__law_moves := He.glo_ok X G (sd.fact 16 (f := .glo "_law_moves") rfl)
  have m_law := He.glo_ok X G (sd.fact 17 (f := .glo "law") rfl)
  have f_ValueError := He.free_ok X G (sd.fact 18 (f := .free "ValueError") rfl)
  have f_abs := He.free_ok X G (sd.fact 19 (f := .free "abs") rfl)
  have f_all := He.free_ok X G (sd.fact 20 (f := .free "all") rfl)
  have f_bool := He.free_ok X G (sd.fact 21 (f := .free "bool") rfl)
  have f_dict := He.free_ok X G (sd.fact 22 (f := .free "dict") rfl)
  have f_int := He.free_ok X G (sd.fact 23 (f := .free "int") rfl)
  have f_isinstance := He.free_ok X G (sd.fact 24 (f := .free "isinstance") rfl)
  have f_len := He.free_ok X G (sd.fact 25 (f := .free "len") rfl)
  have f_max := He.free_ok X G (sd.fact 26 (f := .free "max") rfl)
  have f_range := He.free_ok X G (sd.fact 27 (f := .free "range") rfl)
  have f_sorted := He.free_ok X G (sd.fact 28 (f := .free "sorted") rfl)
  have f_str := He.free_ok X G (sd.fact 29 (f := .free "str") rfl)
  have f_super := He.free_ok X G (sd.fact 30 (f := .free "super") rfl)
  have f_tuple := He.free_ok X G (sd.fact 31 (f := .free "tuple") rfl)
  have g_FLOOR := He.str_ok X G (sd.fact 32 (f := .str "FLOOR" "") rfl)
  have n_BadMove := He.glo_ok X G (sd.fact 33 (f := .glo "BadMove") rfl)
  have n_BadRoom := He.glo_ok X G (sd.fact 34 (f := .glo "BadRoom") rfl)
  have n_MailwaysError := He.glo_ok X G (sd.fact 35 (f := .glo "MailwaysError") rfl)
  have n_NoLane := He.glo_ok X G (sd.fact 36 (f := .glo "NoLane") rfl)
  have n_NothingToUndo := He.glo_ok X G (sd.fact 37 (f := .glo "NothingToUndo") rfl)
  have hex := c.more
  simp only [ex, Bool.and_eq_true, decide_eq_true_eq] at hex
  obtain ⟨⟨⟨⟨⟨⟨b_BadMove, ib_BadMove⟩, k_BadMove_BadRoom⟩, k_BadMove_MailwaysError⟩, k_BadMove_NoLane⟩, k_BadMove_NothingToUndo⟩, k_BadMove_ValueError⟩ := hex
  have T_BadMove := excB_ok b_BadMove
  have x_BadMove : ExcMk (PySem.Challenge.rw_mailways_k77_whole_bags_in_bags).prog w K mg "BadMove" (He.ga K "BadMove") [] := mk0 T_BadMove (cY.ini 0 (d := i_BadMove) rfl) ib_BadMove rfl (by kernel_rfl) f_super n_BadMove (fun _ => rfl) rfl (fun _ => rfl) (fun cc cda A E L m => tells_c)
  have xf : XF (PySem.Challenge.rw_mailways_k77_whole_bags_in_bags).prog w K mg (bsOf K tf) := ⟨n_BadMove, n_BadRoom, n_MailwaysError, n_NoLane, n_NothingToUndo, x_BadMove, T_BadMove.te, T_BadMove.e, k_BadMove_BadRoom, k_BadMove_MailwaysError, k_BadMove_NoLane, k_BadMove_NothingToUndo, k_BadMove_ValueError⟩
  have e0 := hfa.symm.trans m_law
  cases e0
  refine ⟨K, X, fd_law, tf.map (He.cT K), spP K (bsOf K tf) f_law, fun p hp => ?_, fun p hp => ?_, fun p hp => ?_, fun s u => FunD.bindsA (ps := ["script"]) F_law (fun _ _ _ _ _ _ us hl => match us, hl with | [_], _ => rfl) s [u] rfl, fun H a ns hl hb hT hS => law_sp (law_true ns hl) (fun P hP => ?_) hS, fun base KB NB TB => ?_⟩
  · obtain ⟨d, hd, rfl⟩ := List.mem_map.mp hp
    exact c.empty d hd
  · obtain ⟨d, hd, rfl⟩ := List.mem_map.mp hp
    exact c.out d hd
  · obtain ⟨d, hd, rfl⟩ := List.mem_map.mp hp
    exact PySem.W.codeHd_of_K X (c.hd d hd)
  · obtain ⟨d, hd, rfl⟩ := hP
    exact ⟨#[], hT _ (List.mem_map.mpr ⟨d, hd, rfl⟩), trivial⟩
  have c_way := call_ok (P := (PySem.Challenge.rw_mailways_k77_whole_bags_in_bags).prog) (w := w) (base := base) (ps := P_way) F_way m_way (ok_way (B := bsOf K tf) F_way f_dict f_tuple g_FLOOR) (fun _ _ _ _ _ _ us hl => match us, hl with | [_, _], _ => rfl)
  have c_held := call_ok (P := (PySem.Challenge.rw_mailways_k77_whole_bags_in_bags).prog) (w := w) (base := base) (ps := P_held) F_held m_held (ok_held (B := bsOf K tf) F_held f_tuple c_way) (fun _ _ _ _ _ _ us hl => match us, hl with | [_, _], _ => rfl)
  have c_depth := call_ok (P := (PySem.Challenge.rw_mailways_k77_whole_bags_in_bags).prog) (w := w) (base := base) (ps := P_depth) F_depth m_depth (ok_depth (B := bsOf K tf) F_depth f_len f_max c_way) (fun _ _ _ _ _ _ us hl => match us, hl with | [_], _ => rfl)
  have c_moved := call_ok (P := (PySem.Challenge.rw_mailways_k77_whole_bags_in_bags).prog) (w := w) (base := base) (ps := P_moved) F_moved m_moved (ok_moved (B := bsOf K tf) F_moved f_dict f_sorted f_tuple g_FLOOR c_way xf) (fun _ _ _ _ _ _ us hl => match us, hl with | [_, _, _], _ => rfl)
  have c__law_cell := call_ok (P := (PySem.Challenge.rw_mailways_k77_whole_bags_in_bags).prog) (w := w) (base := base) (ps := P__law_cell) F__law_cell m__law_cell (ok__law_cell (B := bsOf K tf) F__law_cell f_len) (fun _ _ _ _ _ _ us hl => match us, hl with | [_, _], _ => rfl)
  have c__law_draws := call_ok (P := (PySem.Challenge.rw_mailways_k77_whole_bags_in_bags).prog) (w := w) (base := base) (ps := P__law_draws) F__law_draws m__law_draws (ok__law_draws (B := bsOf K tf) F__law_draws f_abs f_int f_range) (fun _ _ _ _ _ _ us hl => match us, hl with | [_, _], _ => rfl)
  have c__law_is_integer := call_ok (P := (PySem.Challenge.rw_mailways_k77_whole_bags_in_bags).prog) (w := w) (base := base) (ps := P__law_is_integer) F__law_is_integer m__law_is_integer (ok__law_is_integer (B := bsOf K tf) F__law_is_integer f_bool f_int f_isinstance) (fun _ _ _ _ _ _ us hl => match us, hl with | [_], _ => rfl)
  have c__law_name := call_ok (P := (PySem.Challenge.rw_mailways_k77_whole_bags_in_bags).prog) (w := w) (base := base) (ps := P__law_name) F__law_name m__law_name (ok__law_name (B := bsOf K tf) F__law_name f_int f_range) (fun _ _ _ _ _ _ us hl => match us, hl with | [_, _], _ => rfl)
  have c__law_is := call_ok (P := (PySem.Challenge.rw_mailways_k77_whole_bags_in_bags).prog) (w := w) (base := base) (ps := P__law_is) F__law_is m__law_is (ok__law_is (B := bsOf K tf) F__law_is f_all f_bool f_int f_isinstance f_len f_range f_str f_tuple c__law_is_integer m__law_is (FunD.bindsN F__law_is (fun _ _ _ _ _ _ us hl => match us, hl with | [_, _], _ => rfl))) (fun _ _ _ _ _ _ us hl => match us, hl with | [_, _], _ => rfl)
  have c__law_things := call_ok (P := (PySem.Challenge.rw_mailways_k77_whole_bags_in_bags).prog) (w := w) (base := base) (ps := P__law_things) F__law_things m__law_things (ok__law_things (B := bsOf K tf) F__law_things f_range c__law_name) (fun _ _ _ _ _ _ us hl => match us, hl with | [_, _], _ => rfl)
  have c__law_room := call_ok (P := (PySem.Challenge.rw_mailways_k77_whole_bags_in_bags).prog) (w := w) (base := base) (ps := P__law_room) F__law_room m__law_room (ok__law_room (B := bsOf K tf) F__law_room f_int f_len f_range f_sorted f_tuple) (fun _ _ _ _ _ _ us hl => match us, hl with | [_, _], _ => rfl)
  have c__law_holders := call_ok (P := (PySem.Challenge.rw_mailways_k77_whole_bags_in_bags).prog) (w := w) (base := base) (ps := P__law_holders) F__law_holders m__law_holders (ok__law_holders (B := bsOf K tf) F__law_holders f_len f_range f_tuple) (fun _ _ _ _ _ _ us hl => match us, hl with | [_, _], _ => rfl)
  have c__law_held := call_ok (P := (PySem.Challenge.rw_mailways_k77_whole_bags_in_bags).prog) (w := w) (base := base) (ps := P__law_held) F__law_held m__law_held (ok__law_held (B := bsOf K tf) F__law_held f_sorted f_tuple c__law_holders) (fun _ _ _ _ _ _ us hl => match us, hl with | [_, _], _ => rfl)
  have c__law_looks := call_ok (P := (PySem.Challenge.rw_mailways_k77_whole_bags_in_bags).prog) (w := w) (base := base) (ps := P__law_looks) F__law_looks m__law_looks (ok__law_looks (B := bsOf K tf) F__law_looks f_len f_max c__law_held c__law_holders c__law_is c_depth c_held c_way) (fun _ _ _ _ _ _ us hl => match us, hl with | [_, _], _ => rfl)
  have c__law_tried := call_ok (P := (PySem.Challenge.rw_mailways_k77_whole_bags_in_bags).prog) (w := w) (base := base) (ps := P__law_tried) F__law_tried m__law_tried (ok__law_tried (B := bsOf K tf) F__law_tried f_ValueError f_isinstance c_moved xf) (fun _ _ _ _ _ _ us hl => match us, hl with | [_, _, _], _ => rfl)
  have c__law_due := call_ok (P := (PySem.Challenge.rw_mailways_k77_whole_bags_in_bags).prog) (w := w) (base := base) (ps := P__law_due) F__law_due m__law_due (ok__law_due (B := bsOf K tf) F__law_due f_tuple c__law_held) (fun _ _ _ _ _ _ us hl => match us, hl with | [_, _, _], _ => rfl)
  have c__law_moves := call_ok (P := (PySem.Challenge.rw_mailways_k77_whole_bags_in_bags).prog) (w := w) (base := base) (ps := P__law_moves) F__law_moves m__law_moves (ok__law_moves (B := bsOf K tf) F__law_moves c__law_due c__law_is c__law_tried) (fun _ _ _ _ _ _ us hl => match us, hl with | [_, _, _], _ => rfl)
  exact (ok_law (P := (PySem.Challenge.rw_mailways_k77_whole_bags_in_bags).prog) (w := w) (mg := mg) (base := base) F_law f_int f_len f_range f_tuple c__law_cell c__law_draws c__law_due c__law_held c__law_holders c__law_looks c__law_moves c__law_room c__law_things).mono (by decide)
end K77
open PySem PySem.W PySem.Calls PyProof.Rows
theorem PySem.Challenge.cw_mailways_k77_whole_bags_in_bags_holds : PySem.Challenge.rw_mailways_k77_whole_bags_in_bags.Holds := by
  w_on; o_law
  refine HandSHeadRun.head_any (r := OpenLaw.row PySem.Challenge.rw_mailways_k77_whole_bags_in_bags) (q := view (OpenLaw.row PySem.Challenge.rw_mailways_k77_whole_bags_in_bags).prog [26]) (H := K77.hk) (ob := K77.ob) (M := 4700) (loose := K77.loose) (d := HandSHeadRun.topDef (OpenLaw.row PySem.Challenge.rw_mailways_k77_whole_bags_in_bags).prog 26) (kwd := []) K77.ob_eq
    (by kernel_rfl) (fun s => by kernel_rfl) K77.run (by kernel_rfl) (by kernel_rfl) (by kernel_rfl) (by rfl) (by first | assumption | decide +kernel) (by decide +kernel) ⟨rfl, rfl, rfl, rfl, rfl, by decide +kernel⟩ ?hw ?hc
  case hw => w_witness2
  case hc =>
    refine VL.walk_ofET (l := PySem.Challenge.rw_mailways_k77_whole_bags_in_bags) (n := 63) (k := 30) (x := "script") (CX := fun w => L2.CX (PySem.Challenge.rw_mailways_k77_whole_bags_in_bags).prog w) rfl (by decide) (by kernel_rfl) VL.callerRoom ?F (fun _ _ _ _ _ z => VL.cx_end z)
    intro w mg fa h Y G hmg0
    have hmg : mg ("law" : PySem.Str) = some (.ref fa) := by
      have e : (HandSHeadRun.topDef (OpenLaw.row PySem.Challenge.rw_mailways_k77_whole_bags_in_bags).prog 26).name = ("law" : PySem.Str) := by kernel_rfl
      rw [← e]
      exact hmg0
    exact K77.law_at Y G hmg
