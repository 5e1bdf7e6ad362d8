import PyProof.Rows.All
import Wide.All
import OpenK.AllK
import Wide.FinOn
import KE.KExcSuper
import HandS.Base
import HandS.Call
import HandS.Exc
import HandS.ExcInit
import HandS.HeadWalk
import HandS.Defaults
import KE.KExcIs
import HandS.ExcOwn
import HandS.IsInst
import HandS.ExcValue
import HandS.ForMost
import HandS.ForExc
import HandS.WideBits
import HandS.Ends
import HandS.More
import HandS.Words
import HandS.Head0
import HandS.Head1
import HandS.Head2
import HandS.HeadEnd
import HandS.HeadHook1
import HandS.HeadHook2
import HandS.List
import HandS.Dict
import HandS.Style
import HandS.Small
import PySem.Challenge.RW_kindspreads_k01_errors_made
set_option Elab.async false
set_option linter.all false
set_option maxRecDepth 100000
set_option maxHeartbeats 4000000
/-! Exm: an own exception class over an own class over ValueError, whose __init__(self, value=None) says super().__init__() and keeps value: made by a call. -/
namespace PySem
namespace XM
open PySem.W PySem.Calls PyProof.Rows PySem.HandSPX
/-! ### the text of __init__, its line l -/
def iA (l : Nat) : Arguments := { posonlyargs := [], args := [{ arg := "self", annotation := none, pos := ⟨l, 17, l, 21⟩ }, { arg := "value", annotation := none, pos := ⟨l, 23, l, 28⟩ }], vararg := none, kwonlyargs := [], kw_defaults := [], kwarg := none, defaults := [.Constant .none 0 ⟨l, 29, l, 33⟩] }
def iB1 (m : Nat) : Stmt := .Expr (.Call (.Attribute (.Call (.Name "super" ⟨m, 8, m, 13⟩) [] [] ⟨m, 8, m, 15⟩) "__init__" ⟨m, 8, m, 24⟩) [] [] ⟨m, 8, m, 26⟩) ⟨m, 8, m, 26⟩
def iB2 (n : Nat) : Stmt := .Assign [.Attribute (.Name "self" ⟨n, 8, n, 12⟩) "value" ⟨n, 8, n, 18⟩] (.Name "value" ⟨n, 21, n, 26⟩) ⟨n, 8, n, 26⟩
def iB (m n : Nat) : List Stmt := [iB1 m, iB2 n]
def iS : Scope := { kind := .function, names := [(PySem.Str.ofString "self", .local), (PySem.Str.ofString "value", .local), (PySem.Str.ofString "__class__", .free), (PySem.Str.ofString "super", .globalImplicit)], isGenerator := false, isCoroutine := false, more := [] }
/-- what the written part says of such a class at C and of its __init__ at fI -/
structure XTxt (P : Program) (K : Frag) (C fI : Addr) : Prop where
  cls : ∃ nm q N bs bm sn sub ab col dd k0 k1 k2 k3 k5, K.lookup C = some (excClassObj nm q C N bs bm true sn sub ab col dd k0 k1 k2 k3 k5 "ValueError.__new__") ∧ refsVE bm = true
  sa : findIn K (.ref C) "__setattr__" = some (some (.builtin "object.__setattr__"))
  noV : findIn K (.ref C) "value" = some none
  iC : findIn K (.ref C) "__init__" = some (some (.ref fI))
  tI : typeIn K (.ref fI) = some (.type "function")
  kC : keepIn K (.ref C) = true
  exC : subIn K (.ref C) (.type "BaseException") = some true
  tyC : typeIn K (.ref C) = some (.type "type")
  veC : subIn K (.ref C) (.type "ValueError") = some true
  own : mroIn K C (.ref C) = some true
  sup : ks_superIn K C C "__init__" = some (some (.builtin "ValueError.__init__"))
  opq : nsIn K cStatics "thirdparty.any" = some none
  noS : nsIn K mainGlobals "super" = some none
  top : (P.main.scope.names.lookup ("super" : Str)).isSome = false
  fn : ∃ (l m n : Nat) (qual : Str) (oc ocd occ : Value) (od odd occd an : Option Addr) (T : Addr) (oT : Obj) (kV doc pm ct : Value) (cda cc : Addr) (vs : Array Value) (file : Str) (tf : Tok) (osl osd osc : Array (Option Value)) (nT : Nat),
    K.lookup fI = some ⟨oc, od, .func (fnX "__init__" qual (iA l) (iB m n) iS [("__class__", cc)] (.ref T) kV doc pm an (.ref cda) ct), osl⟩ ∧ codeIn K (.ref cda) qual = true ∧
    K.lookup cda = some ⟨ocd, odd, .fields vs, osd⟩ ∧ vs[2]? = some (.str file tf) ∧ ((P.main.file : Str) == file) = true ∧
    K.lookup cc = some ⟨occ, occd, .cell (some (.ref C)), osc⟩ ∧ K.lookup T = some oT ∧ oT.data = .seq #[.none] nT
/-- what __init__ leaves of a fresh exception at x -/
structure InitEnd (h h' : Heap) (x C dx : Addr) (v : Value) : Prop where
  keep : ∀ b o, b ≠ x → h.get? b = some o → h'.get? b = some o
  obj : ∃ t1 : Addr, h'.get? x = some { cls := .ref C, dict := some dx, data := .fields #[.ref t1, .none, .none, .none, .bool false, .none] }
  dbig : h.objs.size ≤ dx
  dne : dx ≠ x
  ns : h'.Ns1 dx (fun y => if y = "value" then some v else none)
theorem boot_super : bootBuiltins "super" = some (.type "super") := by decide +kernel
theorem call_eq (m : Nat) (env : Env) : eval (.Call (.Attribute (.Call (.Name "super" ⟨m, 8, m, 13⟩) [] [] ⟨m, 8, m, 15⟩) "__init__" ⟨m, 8, m, 24⟩) [] [] ⟨m, 8, m, 26⟩) env = (do
      let ov ← attributeBase (.Call (.Name "super" ⟨m, 8, m, 13⟩) [] [] ⟨m, 8, m, 15⟩) "__init__" env (eval (.Call (.Name "super" ⟨m, 8, m, 13⟩) [] [] ⟨m, 8, m, 15⟩) env)
      standAt (Pos.atName ⟨m, 8, m, 24⟩)
      let (f, first) ← holding [ov] (getMethod ov "__init__" (L2.plainOf (.Call (.Name "super" ⟨m, 8, m, 13⟩) [] [] ⟨m, 8, m, 15⟩) env))
      callWith ⟨m, 8, m, 26⟩ f first (backTo ⟨m, 8, m, 26⟩ (starEach [] env)) []) := by
  show (do
      let ov ← attributeBase _ _ env _
      standAt _
      methodCall (.Call (.Name "super" ⟨m, 8, m, 13⟩) [] [] ⟨m, 8, m, 15⟩) "__init__" ⟨m, 8, m, 24⟩ ⟨m, 8, m, 26⟩ env ov 0 [] []) = _
  simp only [L2.mcall_line (args := []) (kws := []) (n := 0) (apos := ⟨m, 8, m, 24⟩) (pos := ⟨m, 8, m, 26⟩) rfl (beq_self_eq_true m)]
  rfl
theorem names_ok : ∀ x ∈ iS.names, x.2 ≠ .cell := by decide +kernel
theorem binds_ok (a b : Value) : ∀ y ∈ [(("self" : Str), a), (("value" : Str), b)], iS.names.lookup y.1 = some .local := by
  intro y hy
  rcases List.mem_cons.mp hy with rfl | hy
  · show iS.names.lookup ("self" : Str) = some .local
    decide +kernel
  · rcases List.mem_cons.mp hy with rfl | hy
    · show iS.names.lookup ("value" : Str) = some .local
      decide +kernel
    · cases hy
section
variable {prog : Program} {w : World} {A : Around} {E : Value → Shared → Prop} {R : Result → Shared → Prop} {s : Shared} {K : Frag} {mg mb : Str → Option Value} {C fI : Addr}
theorem init_run (T : XTxt prog K C fI) {x t0 : Addr} {v : Value} {args : Args} (X : K.In s.heap) (G : s.heap.Ns mainGlobals mg) (B : s.heap.Ns builtinsNs mb) (hB : ∀ x : Str, x ≠ "__name__" → mb x = bootBuiltins x)
    (hlim : s.heap.NoLimit) (hx : s.heap.get? x = some (excO C t0)) (hnx : K.lookup x = none) (hroom : A.depth < recursionLimit)
    (hbind : ∀ fd : FuncData, (∃ o, K.lookup fI = some o ∧ o.data = .func fd) → BindsTo s fd args [("self", .ref x), ("value", v)])
    (hq : ∀ h' tk dx, InitEnd s.heap h' x C dx v → R (.ok (.ret .none)) { s with heap := h', toks := tk }) :
    codeAny (model prog w) A (.call (.ref fI) args) R s := by
  obtain ⟨nm, q, N, bs, bm, sn, sub, ab, col, dd, k0, k1, k2, k3, k5, hC, hbm⟩ := T.cls
  obtain ⟨l, m, n, qual, oc, ocd, occ, od, odd, occd, an, TT, oT, kV, doc, pm, ct, cda, cc, vs, file, tf, osl, osd, osc, nT, hf, hcode, hcd, hvs, hfile, hcell, hT, hTd⟩ := T.fn
  have hcl : clsIn K C = some { name := nm, bases := bs, mro := .ref C :: bm, ns := N, qualname := q, hasDict := true, slotNames := sn, subclasses := sub, abstract := ab, collection := col, hasDel := false } := by unfold clsIn; rw [hC] <;> rfl
  obtain ⟨hp, g, d, tk0, os⟩ := s
  refine ks_codeAny_call_defAt (fd := fnX "__init__" qual (iA l) (iB m n) iS [("__class__", cc)] (.ref TT) kV doc pm an (.ref cda) ct) (body := iB m n) (binds := [("self", .ref x), ("value", v)]) hroom (X _ _ hf) rfl hlim (codeRec_of X hcode) rfl (hbind _ ⟨_, hf, rfl⟩) names_ok (binds_ok _ _) (fun h₁ hns k => ?_)
  have X₁ : K.In h₁ := X.keeps k
  have hx₁ := k _ _ hx
  have hsz : hp.objs.size < h₁.objs.size := hns.lt
  have hself : (fun y => ([(("self" : Str), Value.ref x), (("value" : Str), v)] : List (Str × Value)).reverse.lookup y) ("self" : Str) = some (.ref x) := by
    simp [List.lookup, show (("self" : Str) == ("value" : Str)) = false by decide +kernel]
  have hval : (fun y => ([(("self" : Str), Value.ref x), (("value" : Str), v)] : List (Str × Value)).reverse.lookup y) ("value" : Str) = some v := by
    simp [List.lookup]
  have hI : ∀ {h : Heap}, K.In h → h.get? x = some (excO C t0) → PySem.W.InstAt h x (excO C t0) C none := fun _ e => ⟨e, rfl, rfl, trivial⟩
  have hxC : x ≠ C := fun z => by rw [z, hC] at hnx; cases hnx
  obtain ⟨oD, hD1, hD2⟩ : ∃ oD : Obj, h₁.get? C = some oD ∧ ∃ cd, oD.data = .cls cd := ⟨_, X₁ _ _ hC, _, rfl⟩
  obtain ⟨cdD, hD2⟩ := hD2
  obtain ⟨s1, e1⟩ : ∃ s1 : Shared, s1 = ⟨h₁, g, d, tk0 + 2, os⟩ := ⟨_, rfl⟩
  have kHp : ∀ {b o}, hp.get? b = some o → b ≠ hp.objs.size := fun e => Nat.ne_of_lt (Heap.lt_size e)
  -- super().__init__()
  show wpAt _ _ _ (execs (iB m n) _) _ _ _
  refine ks_wpAt_execs_cons (ks_wpAt_Expr_any (ks_wpAt_MethodCall (pl := L2.plainOf _ _) ?_ (call_eq _ _)) (by rfl) (by rfl))
  refine ks_wpAt_super_base (f := fI) (cc := cda) (file := file) (tf := tf) (by rfl) (by rfl) (by decide +kernel) rfl (X₁ _ _ hf) rfl rfl rfl (X₁ _ _ hcd) rfl hvs hfile T.top ?_
  refine ks_loadName_global (by rfl) (by rfl) (loadGlobal_builtin (G.keeps k) (mg_none_of X₁ (G.keeps k) T.noS) (B.keeps k) ((hB _ (by decide +kernel)).trans boot_super) ⟨rfl, ?_⟩)
  refine wpAny_loadName_free (by rfl) (by rfl) rfl ⟨_, X₁ _ _ hcell, rfl⟩ ?_
  refine wpAny_loadName_local (by rfl) (by rfl) hns hself ?_
  refine ks_wpAny_isType_cls hD1 hD2 ⟨rfl, ?_⟩
  refine ks_wpAny_call_super hD1 hD2 hx₁ rfl (fun c e => by cases e) (looks_mroIn X₁ T.own) (fun h₂ hso k₂ => ?_)
  have X₂ : K.In h₂ := X₁.keeps k₂
  have hx₂ := k₂ _ _ hx₁
  have hsup : alongIn K "__init__" (((Value.ref C :: bm).dropWhile (· != .ref C)).drop 1) = some (some (.builtin "ValueError.__init__")) := by
    have z := T.sup
    unfold ks_superIn at z
    rw [hcl] at z
    exact z
  have hVE : ∀ {h : Heap}, K.In h → h.get? x = some (excO C t0) → Looks (model prog w) h (isInstance (.ref x) (.type "ValueError")) true := fun X' e => (hI X' e).type.andThen (looks_subIn X' T.veC)
  refine kxs_getMethod kxs_ValueError (l₀ := .ref C :: bm) hso (looks_opaque X₂ T.opq) (fun A Q E s k q => wpAny_bind ((looks_clsIn X₂ hcl) A _ E s k (wpAny_pure q))) rfl X₂ hsup (hVE X₂ hx₂) hxC (by decide +kernel) ?_
  have hu : (h₂.push (kxs_mw "ValueError.__init__" x)).get? h₂.objs.size = some (kxs_mw "ValueError.__init__" x) := Heap.get?_push_at rfl rfl
  have k₃ : ∀ b o, h₂.get? b = some o → (h₂.push (kxs_mw "ValueError.__init__" x)).get? b = some o := fun b o e => Heap.get?_push_of_some _ e
  have X₃ := X₂.keeps k₃
  have hx₃ := k₃ _ _ hx₂
  refine kxs_callWith (i := "ValueError.__init__") (x := x) rfl (evalArgs_empty ⟨hu, ?_⟩)
  refine wpAny_call (codeAny_of_tree ?_)
  show wpAny _ _ (callAny (.ref h₂.objs.size) ⟨[], []⟩) _ _ _
  simp only [callAny]
  refine wpAny_bind (wpAny_load hu ?_)
  simp only [kxs_mw, show (Value.type "method-wrapper" == Value.type "method" || Value.type "method-wrapper" == Value.type "builtin_function_or_method" || Value.type "method-wrapper" == Value.type "method-wrapper") = true by decide, if_true]
  refine KFB.if_so (by decide) ?_
  refine wpAny_bind (check_bound_init F.excBase_ValueError.toExcCallFacts (X₃ _ _ hC) hx₃ rfl ?_)
  refine wpAny_bind (wpAny_pure (wpAny_pure ?_))
  refine ⟨plainId_quiet F.excBase_ValueError.init.plain _, codeAny_builtin F.excBase_ValueError.initEntry ?_⟩
  refine exc_init_tree (cls := .ref C) (t0 := t0) (dv := none) (c2 := .none) (c3 := .none) (b4 := .bool false) hx₃ (Nat.zero_le _) (fun h₄ k₄ hx₄ _ => ?_)
  -- self.value = value
  have kk : ∀ b o, b ≠ x → h₁.get? b = some o → h₄.get? b = some o := fun b o hb e => k₄ b o hb (k₃ b o (k₂ b o e))
  have X₄ : K.In h₄ := fun a o e => kk a o (fun z => by rw [z, hnx] at e; cases e) (X₁ a o e)
  have hxL : hp.objs.size ≠ x := Nat.ne_of_gt (Heap.lt_size hx)
  have hn₄ := hns.at (h' := h₄) fun o e => kk _ o hxL e
  show wpAt _ _ _ (execs [iB2 n] _) _ _ _
  refine wpAt_of_wpAny (wpAny_execs_cons (plainObj_wpAny_Assign_Attribute ?_))
  refine wpAny_Name (wpAny_loadName_local (by rfl) (by rfl) hn₄ hval ?_)
  refine wpAny_Name (wpAny_loadName_local (by rfl) (by rfl) hn₄ hself ?_)
  refine set_plain X₄ (ox := excO C (h₂.push (kxs_mw "ValueError.__init__" x)).objs.size) (od := none) ⟨hx₄, rfl, rfl, trivial⟩ T.sa ?_
  refine exc_osa X₄ hx₄ hcl (show refsVE (.ref C :: bm) = true from hbm) rfl T.noV (fun h₅ tk₅ dx k₅ dn dne hx₅ hn₅ => ?_)
  have size_le : ∀ {a b : Heap}, (∀ c o, c ≠ x → a.get? c = some o → b.get? c = some o) → True := fun _ => trivial
  refine wpAny_execs_nil (hq h₅ tk₅ dx ⟨fun b o hb e => k₅ b o hb (kk b o hb (k b o e)), ⟨_, hx₅⟩, ?_, dne, hn₅⟩)
  have z4 := hn₄.lt
  exact Nat.le_of_lt (Nat.lt_of_lt_of_le z4 dn)
end
end XM
end PySem
set_option Elab.async false
set_option linter.all false
set_option maxRecDepth 100000
set_option maxHeartbeats 4000000
/-! Exm2: the class of Exm called: one argument by place or by name, or none. -/
namespace PySem
namespace XM
open PySem.W PySem.Calls PyProof.Rows PySem.HandSPX
section
variable {prog : Program} {w : World} {M : Model} {A : Around} {E : Value → Shared → Prop} {R : Result → Shared → Prop} {h : Heap} {g : Array GenState} {d : Drawn} {t : Nat} {os : OsState}
variable {nm q : Str} {C N : Addr} {bs bm bmB : List Value} {hdct : Bool} {sn : List Str} {sub : List Value} {ab : Bool} {col : Option Bool} {dd : Option Addr} {k0 k1 k2 k3 k5 : Option Value} {B newId initId : String}
variable {rest : List Value} {kw : List (Str × Value)}
theorem chk_new (F : ExcBaseFacts B newId initId bmB) (hT : ∀ X : String, bm.contains (.type X) = bmB.contains (.type X)) {Q : Unit → Shared → Prop}
    (hC : h.get? C = some (excClassObj nm q C N bs bm hdct sn sub ab col dd k0 k1 k2 k3 k5 newId)) (hq : Q () ⟨h, g, d, t, os⟩) : wpAny M A (checkBuiltinCall newId ⟨.ref C :: rest, kw⟩) Q E ⟨h, g, d, t, os⟩ := by
  have hB : (Value.ref C :: bm).contains (.type B) = true := by rw [List.contains_cons, hT, F.hasB, Bool.or_true]
  have hs := F.noStar
  simp only [checkBuiltinCall, F.newKind, F.newSplit, F.newRow]
  repeat (first | refine wpAny_loadPart_at hC ?_ | (refine wpAny_isSubtype_exc hC ?_; rw [hB]) | refine wpAny_staticBase_exc hC ?_ | refine wpAny_madeBy_exc hC ?_ | simp only [bne_self_eq_false, Bool.false_eq_true, if_false] | wp_step)
  exact hq
theorem new_any (F : ExcBaseFacts B newId initId bmB) (hT : ∀ X : String, bm.contains (.type X) = bmB.contains (.type X))
    (hC : h.get? C = some (excClassObj nm q C N bs bm hdct sn sub ab col dd k0 k1 k2 k3 k5 newId)) (hrest : rest.length ≤ sizeLine)
    (hq : R (.ok (.ret (.ref (h.objs.size + 1)))) ⟨(h.push (excTup rest)).push (excO C h.objs.size), g, d, t, os⟩) :
    codeAny (model prog w) A (.builtin newId ⟨.ref C :: rest, kw⟩) R ⟨h, g, d, t, os⟩ := by
  have he := F.ends
  have c1 : (Value.ref C :: bm).contains (.type B) = true := by rw [List.contains_cons, hT, F.hasB, Bool.or_true]
  have c2 : (Value.ref C :: bm).contains (.type "AttributeError") = false := by rw [List.contains_cons, hT, F.noAttr]; rfl
  have c3 : (Value.ref C :: bm).contains (.type "NameError") = false := by rw [List.contains_cons, hT, F.noName]; rfl
  refine codeAny_builtinAt F.entry ?_
  unfold Builtin.«BaseException.__new__»
  refine wpAt_bind ?_
  show wpAt _ _ _ (stack >>= _) _ _ _
  refine wpAt_bind (wpAt_stack fun p below => wpAt_of_wpAny ?_)
  wp_walk
  refine wpAt_of_wpAny ?_
  rw [F.owner]
  repeat (first | with_reducible refine wpAny_madeHere_exc F.canon hC ?_ | with_reducible refine wpAny_loadPart_at hC ?_ | (with_reducible refine wpAny_isSubtype_exc hC ?_; first | rw [c1] | rw [c2] | rw [c3]) | wp_step)
  show R _ _
  rw [Heap.size_push]
  exact hq
theorem tcall_any (F : ExcBaseFacts B newId initId bmB) (hT : ∀ X : String, bm.contains (.type X) = bmB.contains (.type X)) {fI : Addr} {Q : Fin → Shared → Prop}
    (hC : h.get? C = some (excClassObj nm q C N bs bm hdct sn sub ab col dd k0 k1 k2 k3 k5 newId))
    (hi : W.Looks (model prog w) h (typeLookup (.ref C) "__init__") (some (.ref fI))) (hb : ∀ self, W.Looks (model prog w) h (bindSpecial (.ref fI) self) (.ref fI, [self])) (hrest : rest.length ≤ sizeLine)
    (hq : codeAny (model prog w) A (.call (.ref fI) ⟨.ref (h.objs.size + 1) :: rest, kw⟩)
      (fun r s' => match r with | .ok (.ret v) => v = .none ∧ Q (.done (.ret (.ref (h.objs.size + 1)))) s' | .ok _ => False | .error e => E e s')
      ⟨(h.push (excTup rest)).push (excO C h.objs.size), g, d, t, os⟩) :
    wpAny (model prog w) A (Builtin.«type.__call__» ⟨.ref C :: rest, kw⟩) Q E ⟨h, g, d, t, os⟩ := by
  repeat (first | with_reducible refine wpAny_loadPart_at hC ?_ | with_reducible refine wpAny_madeBy_exc hC ?_ | wp_step)
  refine codeAny_call_builtin_code (Code.quiet_builtin _ F.quiet) (chk_new F hT hC ?_)
  refine new_any F hT hC hrest ?_
  show wpAny _ _ _ _ _ _
  have k : ∀ b o, h.get? b = some o → ((h.push (excTup rest)).push (excO C h.objs.size)).get? b = some o := fun b o e => Heap.get?_push_of_some _ (Heap.get?_push_of_some _ e)
  have g1 : ((h.push (excTup rest)).push (excO C h.objs.size)).get? (h.objs.size + 1) = some (excO C h.objs.size) := by heap_get
  have c1 : (Value.ref C :: bm).contains (.ref C) = true := by simp
  have hC1 := k _ _ hC
  have i1 := hi.keeps k
  have b1 := (hb (.ref (h.objs.size + 1))).keeps k
  unfold isInstance
  repeat (first | with_reducible refine wpAny_loadPart_at g1 ?_ | (with_reducible refine wpAny_isSubtype_exc hC1 ?_; rw [c1]) | wp_step)
  show wpAny _ _ (typeLookup (.ref C) _) _ _ _
  refine i1.at ?_
  refine wpAny_holding (wpAny_bind (b1.at ?_))
  refine wpAny_bind (wpAny_call (codeAny_mono hq fun r s' z => ?_))
  rcases r with e | (v | _ | _ | _) <;> first | exact z | exact z.elim | skip
  obtain ⟨rfl, z⟩ := z
  first
    | exact wpAny_pure (wpAny_pure z)
    | (wp_walk; exact z)
theorem chk_tc {M : Model} {Q : Unit → Shared → Prop} (hC : h.get? C = some (excClassObj nm q C N bs bm hdct sn sub ab col dd k0 k1 k2 k3 k5 newId))
    (hq : Q () ⟨h, g, d, t, os⟩) : wpAny M A (checkBuiltinCall "type.__call__" ⟨.ref C :: rest, kw⟩) Q E ⟨h, g, d, t, os⟩ := by
  have f3 := tc_sub
  have hT : (⟨h, g, d, t, os⟩ : Shared).TypeIs (.ref C) "type" := ⟨_, hC, rfl⟩
  simp only [checkBuiltinCall, tc_kind, tc_split]
  repeat (any_goals (first | assumption | with_reducible refine wpAny_loadPart_at hC ?_ | with_reducible refine wpAny_onRaise ?_ | with_reducible refine wpAny_map ?_ | wp_step))
theorem call_any (F : ExcBaseFacts B newId initId bmB) (hT : ∀ X : String, bm.contains (.type X) = bmB.contains (.type X)) {fI : Addr}
    (hC : h.get? C = some (excClassObj nm q C N bs bm hdct sn sub ab col dd k0 k1 k2 k3 k5 newId))
    (hi : W.Looks (model prog w) h (typeLookup (.ref C) "__init__") (some (.ref fI))) (hb : ∀ self, W.Looks (model prog w) h (bindSpecial (.ref fI) self) (.ref fI, [self])) (hrest : rest.length ≤ sizeLine)
    (hq : codeAny (model prog w) (A.under (.builtin "type.__call__" ⟨.ref C :: rest, kw⟩)) (.call (.ref fI) ⟨.ref (h.objs.size + 1) :: rest, kw⟩) (W.InitBack (h.objs.size + 1) R)
      ⟨(h.push (excTup rest)).push (excO C h.objs.size), g, d, t, os⟩) :
    codeAny (model prog w) A (.call (.ref C) ⟨rest, kw⟩) R ⟨h, g, d, t, os⟩ := by
  have f1 := tc_lookup
  have f2 := tc_bind (.ref C)
  have hTy : (⟨h, g, d, t, os⟩ : Shared).TypeIs (.ref C) "type" := ⟨_, hC, rfl⟩
  refine codeAny_of_tree ?_
  show wpAny _ _ (callAny (.ref C) _) _ _ _
  repeat (any_goals (first | assumption | with_reducible refine wpAny_loadPart_at hC ?_ | wp_step))
  refine ⟨rfl, ?_⟩
  refine codeAny_call_builtin_at (Code.quiet_builtin _ (by decide +kernel)) entry_typeCall (chk_tc hC (tcall_any F hT hC hi hb hrest ?_))
  refine codeAny_mono hq fun r s' z => ?_
  rcases r with e | (v | _ | _ | _) <;> exact z
end
theorem kwc1 : ((["self", "value"] : List Str).contains ("value" : Str) || ([] : List Str).contains ("value" : Str)) = true := by decide +kernel
theorem kwc2 (a : Value) : (List.lookup ("value" : Str) (List.zipWith Prod.mk [("self" : Str), ("value" : Str)] [a])).isSome = false := by
  simp [List.lookup, show (("value" : Str) == ("self" : Str)) = false by decide +kernel]
theorem bind_kw {qual : Str} {l m n : Nat} {cc TT cda : Addr} {kV doc pm ct a v : Value} {an : Option Addr} : ∃ kk, bindArgs (fnX "__init__" qual (iA l) (iB m n) iS [("__class__", cc)] (.ref TT) kV doc pm an (.ref cda) ct) ⟨[a], [("value", v)]⟩ = seqItems? (.ref TT) >>= kk ∧ kk (some #[.none]) = pure [(("self" : Str), a), ("value", v)] := by
  unfold bindArgs
  dsimp only [fnX, iA, List.map, List.append, List.zip, List.zipWith, List.length]
  simp only [List.forIn_cons, List.forIn_nil, kwc1, if_true, List.nil_append, show (List.lookup ("value" : Str) (List.zipWith Prod.mk [("self" : Str), ("value" : Str)] [a])).isSome = false from kwc2 a, Bool.false_eq_true, if_false, pure_bind, bind_pure_comp]
  exact ⟨_, rfl, by kernel_rfl⟩
/-- a made exception at e, its dict at dx -/
structure Made (h h' : Heap) (e C dx : Addr) (v : Value) : Prop where
  keep : ∀ b o, h.get? b = some o → h'.get? b = some o
  new : h.objs.size ≤ e
  obj : ∃ t1 : Addr, h'.get? e = some { cls := .ref C, dict := some dx, data := .fields #[.ref t1, .none, .none, .none, .bool false, .none] }
  dbig : h.objs.size ≤ dx
  dne : dx ≠ e
  ns : h'.Ns1 dx (fun y => if y = "value" then some v else none)
section
variable {prog : Program} {w : World} {A : Around} {R : Result → Shared → Prop} {s : Shared} {K : Frag} {mg mb : Str → Option Value} {C fI : Addr}
/-- how the call's arguments bind: v is what value becomes -/
inductive Val1 : List Value → List (Str × Value) → Value → Prop
  | pos (v : Value) : Val1 [v] [] v
  | kw (v : Value) : Val1 [] [("value", v)] v
  | none : Val1 [] [] .none
theorem made (T : XTxt prog K C fI) {rest : List Value} {kw : List (Str × Value)} {v : Value} (hv : Val1 rest kw v) (X : K.In s.heap) (G : s.heap.Ns mainGlobals mg) (B : s.heap.Ns builtinsNs mb) (hB : ∀ x : Str, x ≠ "__name__" → mb x = bootBuiltins x)
    (hlim : s.heap.NoLimit) (hroom : A.depth + 1 < recursionLimit)
    (hq : ∀ h' tk e dx, Made s.heap h' e C dx v → R (.ok (.ret (.ref e))) { s with heap := h', toks := tk }) :
    codeAny (model prog w) A (.call (.ref C) ⟨rest, kw⟩) R s := by
  obtain ⟨nm, q, N, bs, bm, sn, sub, ab, col, dd, k0, k1, k2, k3, k5, hC, hbm⟩ := T.cls
  obtain ⟨hp, g, dr, tk, os⟩ := s
  have k : ∀ b o, hp.get? b = some o → ((hp.push (excTup rest)).push (excO C hp.objs.size)).get? b = some o := fun b o e => Heap.get?_push_of_some _ (Heap.get?_push_of_some _ e)
  have hget : ((hp.push (excTup rest)).push (excO C hp.objs.size)).get? (hp.objs.size + 1) = some (excO C hp.objs.size) := by heap_get
  have hnx : K.lookup (hp.objs.size + 1) = none := by
    cases e : K.lookup (hp.objs.size + 1) with
    | none => rfl
    | some o => exact absurd (Nat.lt_of_succ_lt (Heap.lt_size (X _ _ e))) (Nat.lt_irrefl _)
  have hl : rest.length ≤ sizeLine := by cases hv <;> simp [sizeLine_eq]
  refine call_any F.excBase_ValueError (fun X => refsVE_contains X bm hbm) (X _ _ hC) (looks_findIn X T.iC) (fun self => bind_fn X self T.tI) hl ?_
  refine init_run (s := ⟨(hp.push (excTup rest)).push (excO C hp.objs.size), g, dr, tk, os⟩) (v := v) T (X.keeps k) (G.keeps k) (B.keeps k) hB (hlim.keeps k) hget hnx ?_ ?_ fun h' tk' dx I => ?_
  · show A.depth + 1 < recursionLimit
    exact hroom
  · intro fd hfd
    obtain ⟨l, m, n, qual, oc, ocd, occ, od, odd, occd, an, TT, oT, kV, doc, pm, ct, cda, cc, vs, file, tf, osl, osd, osc, nT, hf, hcode, hcd, hvs, hfile, hcell, hT, hTd⟩ := T.fn
    obtain ⟨o, ho, hod⟩ := hfd
    rw [hf] at ho
    cases ho
    cases hod
    cases hv with
    | pos v =>
      refine L2.BindsTo.of_looks fun M => ?_
      obtain ⟨kk, e1, e2⟩ : ∃ kk, bindArgs (fnX "__init__" qual (iA l) (iB m n) iS [("__class__", cc)] (.ref TT) kV doc pm an (.ref cda) ct) ⟨[.ref (hp.objs.size + 1), v], []⟩ = seqItems? (.ref TT) >>= kk ∧ kk (some #[.none]) = pure [(("self" : Str), Value.ref (hp.objs.size + 1)), ("value", v)] := ⟨_, rfl, by kernel_rfl⟩
      rw [e1]
      exact L2.looks_items (X.keeps k) hT hTd (.of_pure e2)
    | kw v =>
      refine L2.BindsTo.of_looks fun M => ?_
      obtain ⟨kk, e1, e2⟩ := bind_kw (qual := qual) (l := l) (m := m) (n := n) (cc := cc) (TT := TT) (cda := cda) (kV := kV) (doc := doc) (pm := pm) (ct := ct) (a := .ref (hp.objs.size + 1)) (v := v) (an := an)
      rw [e1]
      exact L2.looks_items (X.keeps k) hT hTd (.of_pure e2)
    | none =>
      refine L2.BindsTo.of_looks fun M => ?_
      obtain ⟨kk, e1, e2⟩ : ∃ kk, bindArgs (fnX "__init__" qual (iA l) (iB m n) iS [("__class__", cc)] (.ref TT) kV doc pm an (.ref cda) ct) ⟨[.ref (hp.objs.size + 1)], []⟩ = seqItems? (.ref TT) >>= kk ∧ kk (some #[.none]) = pure [(("self" : Str), Value.ref (hp.objs.size + 1)), ("value", .none)] := ⟨_, rfl, by kernel_rfl⟩
      rw [e1]
      exact L2.looks_items (X.keeps k) hT hTd (.of_pure e2)
  · obtain ⟨k', ⟨t1, hx⟩, dn, dne, hns⟩ := I
    have z : hp.objs.size + 2 ≤ dx := by
      rw [Heap.size_push, Heap.size_push] at dn
      exact dn
    have old : ∀ b o, hp.get? b = some o → h'.get? b = some o := fun b o e => k' b o (Nat.ne_of_lt (Nat.lt_succ_of_lt (Heap.lt_size e))) (k b o e)
    exact ⟨rfl, hq h' tk' (hp.objs.size + 1) dx ⟨old, Nat.le_succ _, ⟨t1, hx⟩, Nat.le_trans (Nat.le_trans (Nat.le_succ _) (Nat.le_succ _)) z, dne, hns⟩⟩
end
end XM
end PySem
set_option Elab.async false
set_option linter.all false
set_option maxRecDepth 100000
set_option maxHeartbeats 4000000
/-! Exm3: exceptions as values over the layer: made, asked by isinstance, their value read. -/
namespace XM
open PySem PySem.Spec PyProof.Rows L2
/-- tracked at a: an exception of the class at C whose value is v, its dict at dx -/
def ExA (H : Hp) (a C dx : Addr) (v : V) : Prop := H a = some (exo a C (some dx)) ∧ H dx = some (exd dx [("value", v)]) ∧ dx ≠ a
def put1 (H : Hp) (a C dx : Addr) (v : V) : Hp := upd (upd H dx (exd dx [("value", v)])) a (exo a C (some dx))
theorem put1_ex {H : Hp} {a C dx : Addr} {v : V} (n : dx ≠ a) : ExA (put1 H a C dx v) a C dx v := ⟨upd_same, (upd_ne n).trans upd_same, n⟩
theorem put1_ne {H : Hp} {a C dx b : Addr} {v : V} (h1 : b ≠ a) (h2 : b ≠ dx) : put1 H a C dx v b = H b := (upd_ne h1).trans (upd_ne h2)
theorem put1_old {H : Hp} {a C dx b : Addr} {v : V} {o : HO} (ha : H a = none) (hd : H dx = none) (h : H b = some o) : put1 H a C dx v b = some o := by
  rw [put1_ne (ne_of_none h ha) (ne_of_none h hd)]
  exact h
/-- of a list of one value -/
def one1 (k : V → Hp → Prop) : List V → Hp → Prop := fun vs H => match vs with
  | [v] => k v H
  | _ => False
def tMkX (C : Addr) (v : V) : TE := fun _ H Q => ∀ a dx, H a = none → H dx = none → dx ≠ a → Q (.ref a) (put1 H a C dx v)
section
variable {X : Cx} {C fI : Addr} {x : Str} {p pos : Pos} {e : Expr} {te : TE}
/-- the call itself -/
theorem run_mk {pins : List (Addr × Obj)} {σ : L2.St} {H : Hp} {s : Shared} {rest : List Value} {kw : List (Str × Value)} {v : V} {u : Value} {Q : VK} (T : PySem.XM.XTxt X.prog X.K C fI) (hv : PySem.XM.Val1 rest kw u) (rv : RelV v u) (hd : X.A.depth + 1 < recursionLimit)
    (I : Inv X pins σ H s) (h : ∀ a dx, H a = none → H dx = none → dx ≠ a → Q (.ref a) (put1 H a C dx v)) : wpAny (model X.prog X.w) X.A (call (.ref C) rest kw) (EP X pins σ Q) X.xe s := by
  obtain ⟨mb, hb1, hb2⟩ := I.mod.blt
  refine wpAny_call (PySem.XM.made T hv I.kIn (I.mod.glob.keeps I.bk) (hb1.keeps I.bk) hb2 I.nolimit hd fun h' tk a dx M => ?_)
  have na : H a = none := I.hok.fresh M.new
  have nd : H dx = none := I.hok.fresh M.dbig
  obtain ⟨t1, hobj⟩ := M.obj
  have rel : ∀ g : Str, RelO (List.lookup g [(("value" : Str), v)]) (if g = "value" then some u else none) := relO_put (fs := []) rv fun g => True.intro
  obtain ⟨G, g1, g2⟩ := restrict h' fun b => decide (b ≠ a)
  have gk : ∀ b, b ≠ a → G.get? b = h'.get? b := fun b hb => g1 b (decide_eq_true hb)
  have kG : ∀ b o, s.heap.get? b = some o → G.get? b = some o := fun b o q => (gk b (Nat.ne_of_lt (Nat.lt_of_lt_of_le (Heap.lt_size q) M.new))).trans (M.keep b o q)
  have okd : ObjOk X.prog X.w (upd H dx (exd dx [("value", v)])) G dx (exd dx [("value", v)]) := exd_ok (M.ns.at fun o q => (gk dx M.dne).trans q) rel
  have J : Inv X pins σ (upd H dx (exd dx [("value", v)])) { s with heap := G, toks := tk } := I.laid (t' := tk) kG M.dbig okd
  have gs : ∀ b o, G.get? b = some o → h'.get? b = some o := fun b o q => by
    by_cases hb : b = a
    · rw [hb, g2 a (by simp)] at q; cases q
    · exact (gk b hb).symm.trans q
  have na2 : upd H dx (exd dx [("value", v)]) a = none := by rw [upd_ne (Ne.symm M.dne)]; exact na
  have J2 : Inv X pins σ (put1 H a C dx v) { s with heap := h', toks := tk } := J.laidN (t' := tk) (a := a) (o := exo a C (some dx)) (h' := h') gs (g2 a (by simp)) na2 (exo_ok hobj)
  exact ⟨.ref a, _, J2, rfl, h a dx na nd M.dne⟩
theorem pe_mkx1 (T : PySem.XM.XTxt X.prog X.K C fI) (hd : X.A.depth + 1 < recursionLimit) (hg : Gl X x) (hm : X.mg x = some (.ref C)) (he : PE X e te) (hdb : (x == ("__debug__" : Str)) = false := by decide)
    (hs : starEach [e] X.env = (false, eval e X.env) :: starEach [] X.env := by rfl) : PE X (.Call (.Name x p) [e] [] pos) (fun σ H Q => te σ H fun v H1 => tMkX C v σ H1 Q) := by
  refine ⟨fun pins s σ H Q I h => ?_⟩
  refine wpAny_Call_Name_kw (ld_glob I hg hm ?_ hdb)
  refine PySem.W.callWith_K (h₀ := X.base) I.ok.mod.kin T.kC ?_ hs (by rfl)
  rw [hs]
  show wpAny _ _ (spliced ((false, eval e X.env) :: backTo pos (starEach [] X.env))) _ _ s
  refine Calls.spliced_cons (thn (he.run pins s σ H _ I h) fun u s1 ⟨v, H1, I1, r1, q1⟩ => ?_)
  refine Calls.spliced_nil ⟨I1.kIn, ?_⟩
  exact run_mk T (.pos u) r1 hd I1 q1
theorem pe_mkx0 (T : PySem.XM.XTxt X.prog X.K C fI) (hd : X.A.depth + 1 < recursionLimit) (hg : Gl X x) (hm : X.mg x = some (.ref C)) (hdb : (x == ("__debug__" : Str)) = false := by decide) :
    PE X (.Call (.Name x p) [] [] pos) (tMkX C .non) := by
  refine ⟨fun pins s σ H Q I h => ?_⟩
  refine wpAny_Call_Name_kw (ld_glob I hg hm ?_ hdb)
  exact PySem.W.callWith_K0 I.kIn T.kC (run_mk (v := .non) T .none rfl hd I h)
theorem pe_mkxk {kp : Pos} (T : PySem.XM.XTxt X.prog X.K C fI) (hd : X.A.depth + 1 < recursionLimit) (hg : Gl X x) (hm : X.mg x = some (.ref C)) (he : PE X e te) (hdb : (x == ("__debug__" : Str)) = false := by decide) :
    PE X (.Call (.Name x p) [] [⟨some "value", e, kp⟩] pos) (fun σ H Q => te σ H fun v H1 => tMkX C v σ H1 Q) := by
  refine ⟨fun pins s σ H Q I h => ?_⟩
  refine wpAny_Call_Name_kw (ld_glob I hg hm ?_ hdb)
  refine PySem.W.callWith_KW0 (h₀ := X.base) (kws := [⟨some "value", e, kp⟩]) I.ok.mod.kin T.kC (by rfl) ?_ (by rfl)
  refine thn ((pk_cons (nm := some "value") (kpos := kp) he pk_nil).run pos pins s σ H (one1 fun v H1 => tMkX C v σ H1 Q) I h) fun us s1 ⟨vs, H1, I1, r1, q1⟩ => ⟨I1.kIn, ?_⟩
  cases r1 with
  | nil => exact q1.elim
  | @cons v u vs' us' ru rn =>
    cases rn with
    | nil => exact run_mk T (.kw u) ru hd I1 q1
    | cons _ _ => exact q1.elim
/-- X(), an own exception class without own __init__ -/
theorem pe_mkxn {bmB : List Value} {B newId initId : String} (F : ExcBaseFacts B newId initId bmB) (q : PySem.W.excIn X.K C bmB newId = true) (gC : X.mg x = some (.ref C)) (kC : PySem.W.keepIn X.K (.ref C) = true) (hg : Gl X x)
    (hdb : (x == ("__debug__" : Str)) = false := by decide) : PE X (.Call (.Name x p) [] [] pos) (fun _ H Q => ∀ a, H a = none → Q (.ref a) (upd H a (exo a C none))) := by
  refine ⟨fun pins s σ H Q I h => ?_⟩
  refine wpAny_Call_Name_kw (ld_glob I hg gC ?_ hdb)
  refine PySem.W.callWith_K0 I.kIn kC ?_
  show wpAny _ _ (call (.ref C) []) _ _ _
  obtain ⟨bm, N, nm, qn, bs, hdct, sn, sub, ab, col, dd, k0, k1, k2, k3, k5, mN, hC, hN, hni, T⟩ := exc_obj I.kIn q
  refine wpAny_call_exc_subT F T hC hN hni (fun h' a hm => ?_) (by simp [sizeLine_eq])
  have hn : H a = none := I.hok.gone hm.new
  obtain ⟨t, ht, _, _⟩ := hm.there
  exact ⟨.ref a, upd H a (exo a C none), I.laidN hm.keeps hm.new hn (exo_ok ht), rfl, h a hn⟩
end
/-! ### isinstance and the value -/
/-- what a class says of its instances -/
structure AskC (K : PySem.W.Frag) (C : Addr) : Prop where
  cl : (PySem.W.clsIn K C).isSome = true
  ga : PySem.W.findIn K (.ref C) "__getattribute__" = some (some (.builtin "BaseException.__getattribute__"))
  gg : PySem.W.findIn K (.ref C) "__getattr__" = some none
  ex : PySem.W.subIn K (.ref C) (.type "BaseException") = some true
  hd : PySem.W.hasDictIn K C = true
  cc : PySem.W.findIn K (.ref C) "__class__" = some (some (.builtin "object.__class__"))
  cg : PySem.W.specialIn K (.builtin "object.__class__") "__get__" = some (some (.builtin "getset_descriptor.__get__"))
  ct : PySem.W.takesIn K (.builtin "object.__class__") = some true
  ob : PySem.W.mroIn K C (.type "object") = some true
/-- at a an exception of the class at C is tracked -/
def IsEx (H : Hp) (a C : Addr) : Prop := H a = some (exo a C none) ∨ ∃ dx v, ExA H a C dx v
section
variable {X : Cx} {C a : Addr}
theorem inst_of {pins : List (Addr × Obj)} {σ : L2.St} {H : Hp} {s : Shared} (I : Inv X pins σ H s) (h : IsEx H a C) : ∃ (o : Obj) (od : Option Obj), PySem.W.InstAt s.heap a o C od := by
  rcases h with h | ⟨dx, v, h1, h2, _⟩
  · obtain ⟨t1, e⟩ := exo_at I.hok h
    exact ⟨_, none, e, rfl, rfl, trivial⟩
  · obtain ⟨t1, e⟩ := exo_at I.hok h1
    obtain ⟨mA, ⟨o, es, ep, ho, _⟩, _⟩ := exd_at I.hok h2
    exact ⟨_, some o, e, rfl, rfl, ho⟩
/-- isinstance(e, c) -/
def rIsX (K : PySem.W.Frag) : List V → Hp → VK → Prop := fun xs H Q => ∃ (a C : Addr) (c : V) (cv : Value) (b : Bool), xs = [.ref a, c] ∧ IsEx H a C ∧ AskC K C ∧ (∀ u, RelV c u → u = cv) ∧ PySem.W.kitOne K (.ref C) cv = some b ∧ Q (.bl b) H
theorem call_isX : CallR X (.builtin "isinstance") (rIsX X.K) := by
  intro pins s σ H xs us Q I r h
  obtain ⟨a, C, c, cv, b, rfl, hx, T, hcv, e, q⟩ := h
  cases r with
  | cons rx rr =>
    cases rr with
    | cons rt rr =>
      cases rr
      cases rx
      have ec := hcv _ rt
      subst ec
      obtain ⟨o, od, J⟩ := inst_of I hx
      exact PySem.W.kia_one (PySem.W.kitx_exc T.cl T.ga T.gg T.ex T.cc T.cg T.ct T.ob) I.kIn J e (fun z => nomatch z) fun tk => ⟨.bl b, H, I.kept (t' := tk) fun _ _ z => z, rfl, q⟩
/-- e.value -/
def tXv (K : PySem.W.Frag) (te : TE) : TE := fun σ H Q => te σ H fun x H1 => ∃ (a C dx : Addr) (v : V), x = .ref a ∧ ExA H1 a C dx v ∧ AskC K C ∧ PySem.W.findIn K (.ref C) "value" = some none ∧ Q v H1
theorem pe_xv {e : Expr} {te : TE} {pos : Pos} (he : PE X e te) (hb : attributeBase e "value" X.env (eval e X.env) = eval e X.env := by rfl) : PE X (.Attribute e "value" pos) (tXv X.K te) := by
  refine ⟨fun pins s σ H Q I h => ?_⟩
  refine attr_of hb (thn (he.run pins s σ H _ I h) fun u s1 hh => ?_)
  obtain ⟨x, H1, I1, rx, a, C, dx, v, ex, ⟨e1, e2, _⟩, T, hno, q⟩ := hh
  subst ex
  obtain rfl : u = Value.ref a := rx
  obtain ⟨t1, ho⟩ := exo_at I1.hok e1
  obtain ⟨mA, hns, hr⟩ := exd_at I1.hok e2
  obtain ⟨od, hod, hl⟩ := lookIn_ns hns
  obtain ⟨u, hu, ru⟩ := RelO.some_of (v := v) (o := mA "value") (by have z := hr "value"; rwa [show List.lookup ("value" : Str) [(("value" : Str), v)] = some v by simp [List.lookup]] at z)
  exact HandSPX.exc_get I1.kIn ⟨ho, rfl, rfl, hod⟩ T.ga T.gg T.ex (PySem.W.findObj_own T.hd hno rfl (by rw [hl, hu])) (handed_of ru) ⟨v, H1, I1.tok _, ru, q⟩
end
end XM
set_option Elab.async false
set_option linter.all false
set_option maxRecDepth 100000
set_option maxHeartbeats 4000000
/-! K1p: the draws of law k01: a purse, a draw, one of a list, a word. -/
namespace K1
open PySem PySem.Spec PyProof.Rows L2
def top (i : Nat) : Stmt := PySem.Challenge.pw_kindspreads_k01_errors_made.main.body.getD i (.Pass ⟨0, 0, 0, 0⟩)
abbrev FnP (K : PySem.W.Frag) (x : Str) (st : Stmt) (f : Addr) (fd : FuncData) : Prop := FunD K x x (defArgs st) (defBody st) (defScope st) [] [] f fd
abbrev sPurse : Stmt := top 33
abbrev sMixed : Stmt := top 34
abbrev sDraw : Stmt := top 35
abbrev sPurses : Stmt := top 36
abbrev sOne : Stmt := top 37
abbrev sWord : Stmt := top 38
/-- a purse: the great number, the seed, the spins, the place -/
def big : Int := (10 ^ 60) ^ 8
def Pu (H : Hp) (p : Addr) (n : Nat) : Prop := ∃ N s c : Int, H p = some (.lst [.int N, .int s, .int c, .int 0]) ∧ 0 ≤ N ∧ N < big ∧ 0 ≤ s ∧ s < 2147483629 ∧ 0 ≤ c ∧ c ≤ n
/-- all but p as it was -/
def But (p : Addr) (H H' : Hp) : Prop := ∀ b o, b ≠ p → H b = some o → H' b = some o
theorem But.refl (p : Addr) (H : Hp) : But p H H := fun _ _ _ e => e
theorem But.trans {p : Addr} {H H1 H2 : Hp} (a : But p H H1) (b : But p H1 H2) : But p H H2 := fun c o n e => b c o n (a c o n e)
theorem But.upd {p : Addr} {H : Hp} {o : HO} : But p H (L2.upd H p o) := fun b u n e => by rw [upd_ne n]; exact e
theorem But.new {p q : Addr} {H : Hp} {o : HO} (h : H q = none) : But p H (L2.upd H q o) := fun b u n e => by rw [upd_ne (ne_of_none e h)]; exact e
theorem But.same {p : Addr} {H H' : Hp} (s : Same H H') : But p H H' := fun b o _ e => s b o e
/-! ### promises -/
def spPurse (K : PySem.W.Frag) : Sp := fun vs H Q _ => ∃ (a : Addr) (ns : List Int), vs = [.ref a, .int 0] ∧ SqL K H a (ns.map V.int) ∧ ns.length ≤ 63 ∧ ∀ H' p, Same H H' → H p = none → Pu H' p 0 → Q (.ref p) H'
def spMixed : Sp := fun vs H Q _ => ∃ s c : Int, vs = [.int s, .int c, .int 0] ∧ 0 ≤ s ∧ s < 2147483629 ∧ 0 ≤ c ∧ c ≤ 1000 ∧ ∀ r : Int, 0 ≤ r → Q (.int r) H
def spDraw : Sp := fun vs H Q _ => ∃ (p : Addr) (m : Int) (n : Nat), vs = [.ref p, .int m] ∧ Pu H p n ∧ n ≤ 900 ∧ 1 ≤ m ∧ m ≤ 1000 ∧ ∀ (d : Int) H', 0 ≤ d → d < m → Pu H' p (n + 1) → But p H H' → Q (.int d) H'
/-! ### 10 ** 60 to the 8th -/
section
variable {X : Cx}
theorem op_powG : OpR X (binaryOp .Pow) (rI (fun i j => 0 ≤ j ∧ (Builtin.Int.intBits i : Int) * j ≤ 2 ^ 27) fun i j => .int (i ^ j.toNat)) := opI fun _ _ _ _ _ _ _ hc q => pow_int hc.1 hc.2 q
end
theorem big_pos : (0 : Int) < ((10 : Int) ^ (60 : Int).toNat) ^ (8 : Int).toNat := by decide +kernel
def cutI (ns : List Int) : List Int := ns.take 1
theorem cut_map (ns : List Int) : cutV (ns.map V.int) (some 0) (some 1) = (cutI ns).map V.int := by
  cases ns with
  | nil => rfl
  | cons n r => rfl
section
variable {P : Program} {w : World} {K : PySem.W.Frag} {mg : Str → Option Value} {base : Heap}
theorem scPurse : FnScope ["_law_script", "_law_at", "_law_seed"] ["_law_script", "_law_at"] (defScope sPurse) := ⟨rfl, rfl, rfl, by decide +kernel, rfl, by decide +kernel, by decide +kernel⟩
theorem ok_purse {f : Addr} {fd : FuncData} (F : FnP K "_law_purse" sPurse f fd) (gS : mg "sum" = none) (gI : mg "int" = none) (gM : mg "max" = none) : FnOk P w K mg base CX0 1 f fd ["_law_script", "_law_at"] (spPurse K) := by
  refine F.ok scPurse (fun vs H Q E h => ?_) (fun cdv A outer s H vs Q E hr h => ⟨_, PSs.nox (pss_cons (ps_set (i := 2) scPurse.nd rfl (Or.inl rfl)
      (pe_callB (cr_sum rfl) rfl gS boot_sum (pa_cons (pe_slice sl_list (pv 0) (po_some (pv 1)) (po_some (pe_op op_add (pv 1) pe_int))) pa_nil)))
    (pss_one (ps_ret (pe_lst (pa_cons (pe_op op_mod (pe_callTy call_int1 rfl gI boot_int (pa_cons (pe_callB (call_max2 rfl) rfl gM boot_max (pa_cons (pe_op op_sub (pv 2) (pe_op op_powG pe_int pe_int)) (pa_cons pe_int pa_nil))) pa_nil)) (pe_op op_powG (pe_op op_powG pe_int pe_int) pe_int))
      (pa_cons (pe_op op_mod (pe_callTy call_int1 rfl gI boot_int (pa_cons (pv 2) pa_nil)) pe_int) (pa_cons pe_int (pa_cons (pv 1) pa_nil)))))))), ?_⟩)
  · obtain ⟨a, ns, rfl, _⟩ := h
    rfl
  · obtain ⟨a, ns, rfl, hS, hl, k⟩ := h
    refine ⟨_, rfl, _, rfl, 0, rfl, _, rfl, _, _, rfl, rfl, 1, rfl, a, _, rfl, hS, fun q hq => ?_⟩
    refine ⟨q, cutI ns, rfl, SqL.of (by rw [upd_same, cut_map]), ?_⟩
    refine ⟨_, rfl, _, _, rfl, rfl, ⟨by decide, by decide +kernel⟩, _, _, rfl, rfl, _, _, rfl, .inl ⟨_, rfl, ?_⟩⟩
    refine ⟨_, _, rfl, rfl, ⟨by decide, by decide +kernel⟩, _, _, rfl, rfl, ⟨by decide, by decide +kernel⟩, _, _, rfl, rfl, big_pos, ?_⟩
    refine ⟨_, rfl, .inl ⟨_, rfl, _, _, rfl, rfl, (show (0 : Int) < 2147483629 by decide), _, rfl, ?_⟩⟩
    refine ⟨by show 4 ≤ sizeLine; decide, fun p hp => ?_⟩
    have hp0 : H p = none := by
      have z : L2.upd H q (HO.lst (cutV (ns.map V.int) (some 0) (some 1))) p = none := hp
      cases e : H p with
      | none => rfl
      | some o =>
        rw [upd_ne (ne_of_none e hq), e] at z
        cases z
    refine k _ p (fun b o e => ?_) hp0 ⟨_, _, _, upd_same, Int.emod_nonneg _ (Int.ne_of_gt big_pos), Int.emod_lt_of_pos _ big_pos, Int.emod_nonneg _ (by decide), Int.emod_lt_of_pos _ (by decide), by decide, by decide⟩
    rw [upd_ne (ne_of_none e hp0), upd_ne (ne_of_none e hq)]
    exact e
theorem scMixed : FnScope ["_law_seed", "_law_spin", "_law_at", "_law_mixed_here"] ["_law_seed", "_law_spin", "_law_at"] (defScope sMixed) := ⟨rfl, rfl, rfl, by decide +kernel, rfl, by decide +kernel, by decide +kernel⟩
theorem ok_mixed {f : Addr} {fd : FuncData} (F : FnP K "_law_mixed" sMixed f fd) (gI : mg "int" = none) : FnOk P w K mg base CX0 1 f fd ["_law_seed", "_law_spin", "_law_at"] spMixed := by
  refine F.ok scMixed (fun vs H Q E h => ?_) (fun cdv A outer s H vs Q E hr h => ⟨_, PSs.nox (pss_cons (ps_set (i := 3) scMixed.nd rfl (Or.inl rfl) (pe_op op_add (pe_op op_mul (pv 0) pe_int) (pe_op op_mul (pe_op op_mul pe_int (pv 1)) (pv 1))))
      (pss_cons (ps_set (i := 3) scMixed.nd rfl (Or.inl rfl) (pe_op op_mod (pe_callTy call_int1 rfl gI boot_int (pa_cons (pe_op op_add (pe_op op_add (pv 3) (pe_op op_mul pe_int (pv 2))) (pv 1)) pa_nil)) pe_int))
      (pss_cons (ps_set (i := 3) scMixed.nd rfl (Or.inl rfl) (pe_op op_mod (pe_callTy call_int1 rfl gI boot_int (pa_cons (pe_op op_add (pe_op op_mul (pv 3) (pv 3)) pe_int) pa_nil)) pe_int))
      (pss_one (ps_ret (pe_op op_mod (pe_callTy call_int1 rfl gI boot_int (pa_cons (pe_op op_mul (pv 3) pe_int) pa_nil)) pe_int)))))), ?_⟩)
  · obtain ⟨s, c, rfl, _⟩ := h
    rfl
  · obtain ⟨sd, c, rfl, h1, h2, h3, h4, k⟩ := h
    refine ⟨_, rfl, _, _, rfl, rfl, .inl ⟨by omega, by omega⟩, _, rfl, _, _, rfl, rfl, .inl (by decide), _, rfl, _, _, rfl, rfl, .inr ⟨by omega, by omega⟩, _, _, rfl, rfl, ?_⟩
    refine ⟨_, rfl, _, rfl, _, _, rfl, rfl, .inl (by decide), _, _, rfl, rfl, _, rfl, _, _, rfl, rfl, .inl ⟨_, rfl, _, _, rfl, rfl, (show (0 : Int) < 2147483647 by decide), ?_⟩⟩
    have b1 := Int.emod_lt_of_pos (sd * 69069 + 104729 * c * c + 7919 * 0 + c) (show (0 : Int) < 2147483647 by decide)
    have b2 := Int.emod_nonneg (sd * 69069 + 104729 * c * c + 7919 * 0 + c) (show (2147483647 : Int) ≠ 0 by decide)
    refine ⟨_, rfl, _, rfl, _, _, rfl, rfl, .inl ⟨by omega, by omega⟩, _, _, rfl, rfl, .inl ⟨_, rfl, _, _, rfl, rfl, (show (0 : Int) < 2147483629 by decide), ?_⟩⟩
    refine ⟨_, rfl, _, _, rfl, rfl, .inr (by decide), .inl ⟨_, rfl, _, _, rfl, rfl, (show (0 : Int) < 2147483587 by decide), ?_⟩⟩
    exact k _ (Int.emod_nonneg _ (by decide))
theorem scDraw : FnScope ["_law_purse_here", "_law_many", "_law_drawn", "_law_found", "_law_piece"] ["_law_purse_here", "_law_many"] (defScope sDraw) := ⟨rfl, rfl, rfl, by decide +kernel, rfl, by decide +kernel, by decide +kernel⟩
theorem ok_draw {f fM : Addr} {fd fdM : FuncData} (F : FnP K "_law_draw" sDraw f fd) (FM : FnP K "_law_mixed" sMixed fM fdM) (gM : mg "_law_mixed" = some (.ref fM)) (gI : mg "int" = none) (gR : mg "range" = none) : FnOk P w K mg base CX0 2 f fd ["_law_purse_here", "_law_many"] spDraw := by
  have GM : FnOk P w K mg base CX0 1 fM fdM ["_law_seed", "_law_spin", "_law_at"] spMixed := ok_mixed FM gI
  have bM : Binds K fdM ["_law_seed", "_law_spin", "_law_at"] [] := FM.bindsN fun _ _ _ _ _ _ us hl => match us, hl with | [_, _, _], _ => rfl
  refine F.ok scDraw (fun vs H Q E h => ?_) (fun cdv A outer s H vs Q E hr h => ⟨_, PSs.nox (pss_cons (ps_if (pt_cmpR op_gt (pe_ix ix_list (pv 0) pe_int (fun _ _ => rfl)) pe_int (nomark _))
        (pss_cons (ps_set (i := 2) scDraw.nd rfl (Or.inl rfl) (pe_op op_mod (pe_callTy call_int1 rfl gI boot_int (pa_cons (pe_ix ix_list (pv 0) pe_int (fun _ _ => rfl)) pa_nil)) (pv 1)))
        (pss_cons (ps_asg (pe_op op_fdiv (pe_ix ix_list (pv 0) pe_int (fun _ _ => rfl)) (pv 1)) (pg_sub (pv 0) pe_int set_list))
        (pss_one (ps_ret (pv 2))))) pss_nil)
      (pss_cons (ps_set (i := 3) scDraw.nd rfl (Or.inl rfl) pe_int)
      (pss_cons (ps_for PassesOwn.never rfl (pi_range1 rfl gR (pa_cons (pe_op op_add pe_int (pe_op op_fdiv (pe_bits (pv 1)) pe_int)) pa_nil)) (pg_name (i := 4) scDraw.nd rfl (Or.inl rfl))
        (pss_cons (ps_asg (pe_op op_add (pe_ix ix_list (pv 0) pe_int (fun _ _ => rfl)) pe_int) (pg_sub (pv 0) pe_int set_list))
        (pss_one (ps_set (i := 3) scDraw.nd rfl (Or.inl rfl) (pe_op op_add (pe_op op_mul (pv 3) pe_int) (pe_call GM hr rfl gM FM.kp bM .nil pass0 (pa_cons (pe_ix ix_list (pv 0) pe_int (fun _ _ => rfl)) (pa_cons (pe_ix ix_list (pv 0) pe_int (fun _ _ => rfl)) (pa_cons (pe_ix ix_list (pv 0) pe_int (fun _ _ => rfl)) pa_nil)))))))))
      (pss_one (ps_ret (pe_op op_mod (pe_callTy call_int1 rfl gI boot_int (pa_cons (pv 3) pa_nil)) (pv 1))))))), ?_⟩)
  · obtain ⟨p, m, n, rfl, _⟩ := h
    rfl
  · obtain ⟨p, m, n, rfl, ⟨N, sd, c, hP, n1, n2, s1, s2, c1, c2⟩, hn, m1, m2, k⟩ := h
    refine ⟨_, rfl, p, _, _, _, rfl, rfl, SqL.of hP, rfl, ?_⟩
    refine ⟨_, _, rfl, rfl, _, rfl, ite2 (fun hgt => ?_) (fun hle => ?_)⟩
    · have hN : 0 < N := of_decide_eq_true hgt
      refine ⟨_, rfl, p, _, _, _, rfl, rfl, SqL.of hP, rfl, .inl ⟨_, rfl, _, rfl, _, _, rfl, rfl, m1, ?_⟩⟩
      refine ⟨_, rfl, p, _, _, _, rfl, rfl, SqL.of hP, rfl, _, rfl, _, _, rfl, rfl, ⟨m1, by omega⟩, ?_⟩
      refine ⟨_, rfl, p, _, _, 0, rfl, rfl, hP, rfl, _, rfl, ?_⟩
      refine k _ _ (Int.emod_nonneg _ (by omega)) (Int.emod_lt_of_pos _ m1) ⟨N / m, sd, c, upd_same, Int.ediv_nonneg n1 (by omega), ?_, s1, s2, c1, by omega⟩ But.upd
      exact Int.lt_of_le_of_lt (Int.ediv_le_self m n1) n2
    · refine ⟨_, rfl, _, rfl, _, _, rfl, rfl, ⟨by decide, by decide⟩, _, _, rfl, rfl, ?_⟩
      have hb : ((Builtin.Int.intBits m : Nat) : Int) / 28 = 0 := by
        have h1 : Builtin.Int.intBits m ≤ 10 := PyProof.Rows.intBits_le (a := m) (k := 10) (by show m.natAbs < 1024; omega)
        omega
      refine ⟨_, rfl, by rw [hb]; decide, by rw [hb]; decide, ?_⟩
      rw [hb]
      refine for_range (lo := 0) (n := 1) (fun i σ H' => ∃ (c' x : Int) (v : Option V), σ = [some (.ref p), some (.int m), none, some (.int x), v] ∧ H' p = some (.lst [.int N, .int sd, .int c', .int 0]) ∧ But p H H' ∧ 0 ≤ x ∧ 0 ≤ c' ∧ c' ≤ n + i) ⟨c, 0, none, rfl, hP, But.refl p H, by decide, c1, c2⟩ ?_ ?_
      · rintro i σ H' hi ⟨c', x, v, rfl, hP', hB, x0, c0, cn⟩
        refine ⟨_, rfl, p, _, _, _, rfl, rfl, SqL.of hP', rfl, _, _, rfl, rfl, _, rfl, p, _, _, 2, rfl, rfl, hP', rfl, ?_⟩
        refine ⟨_, rfl, _, _, rfl, rfl, .inr (by decide), ?_⟩
        refine ⟨_, rfl, p, _, _, _, rfl, rfl, SqL.of upd_same, rfl, _, rfl, p, _, _, _, rfl, rfl, SqL.of upd_same, rfl, _, rfl, p, _, _, _, rfl, rfl, SqL.of upd_same, rfl, ?_⟩
        refine ⟨sd, c' + 1, rfl, s1, s2, by omega, by omega, fun r r0 => ⟨_, _, rfl, rfl, ?_⟩⟩
        exact ⟨c' + 1, x * 2147483587 + r, _, rfl, upd_same, hB.trans But.upd, by omega, by omega, by omega⟩
      · rintro σ H' ⟨c', x, v, rfl, hP', hB, x0, c0, cn⟩
        refine ⟨_, rfl, .inl ⟨_, rfl, _, rfl, _, _, rfl, rfl, m1, ?_⟩⟩
        exact k _ _ (Int.emod_nonneg _ (by omega)) (Int.emod_lt_of_pos _ m1) ⟨N, sd, c', hP', n1, n2, s1, s2, c0, by omega⟩ hB
def spPurses (K : PySem.W.Frag) : Sp := fun vs H Q _ => ∃ (a : Addr) (ns : List Int), vs = [.ref a, .int 1] ∧ SqL K H a (ns.map V.int) ∧ ns.length ≤ 63 ∧ ∀ H' l p, Same H H' → H l = none → H p = none → l ≠ p → H' l = some (.lst [.ref p]) → Pu H' p 0 → Q (.ref l) H'
theorem scPurses : FnScope ["_law_script", "_law_few", "_law_at"] ["_law_script", "_law_few"] (defScope sPurses) := ⟨rfl, rfl, rfl, by decide +kernel, rfl, by decide +kernel, by decide +kernel⟩
theorem ok_purses {f fP : Addr} {fd fdP : FuncData} (F : FnP K "_law_purses" sPurses f fd) (FP : FnP K "_law_purse" sPurse fP fdP) (gP : mg "_law_purse" = some (.ref fP)) (gS : mg "sum" = none) (gI : mg "int" = none) (gM : mg "max" = none)
    (gN : mg "min" = none) (gL : mg "len" = none) (gR : mg "range" = none) : FnOk P w K mg base CX0 2 f fd ["_law_script", "_law_few"] (spPurses K) := by
  have GP : FnOk P w K mg base CX0 1 fP fdP ["_law_script", "_law_at"] (spPurse K) := ok_purse FP gS gI gM
  have bP : Binds K fdP ["_law_script", "_law_at"] [] := FP.bindsN fun _ _ _ _ _ _ us hl => match us, hl with | [_, _], _ => rfl
  refine F.ok scPurses (fun vs H Q E h => ?_) (fun cdv A outer s H vs Q E hr h => ⟨_, PSs.nox (pss_one (ps_ret (pe_lc (own := [("_law_at", 2)]) (g := gName 2) (tt := tYes) rfl scPurses.nd
      (pi_range1 rfl gR (pa_cons (pe_callB (call_max2 rfl) rfl gM boot_max (pa_cons pe_int (pa_cons (pe_callB (call_min2 rfl) rfl gN boot_min (pa_cons (pv 1) (pa_cons (pe_callB call_len rfl gL boot_len (pa_cons (pv 0) pa_nil)) pa_nil))) pa_nil))) pa_nil))
      (blkOk_by (N := ["_law_script", "_law_few", "_law_at"]) (sc := defScope sPurses) (by decide +kernel)) (fun _ _ _ _ _ => pg_name (i := 2) scPurses.nd rfl (Or.inl rfl)) (fun _ _ _ _ _ => pts_nil)
      (fun _ _ _ _ _ => pe_call GP hr rfl gP FP.kp bP .nil pass0 (pa_cons (pv 0) (pa_cons (pv 2) pa_nil)))))), ?_⟩)
  · obtain ⟨a, ns, rfl, _⟩ := h
    rfl
  · obtain ⟨a, ns, rfl, hS, hl, k⟩ := h
    refine ⟨_, rfl, _, rfl, _, _, rfl, .inl ⟨_, hS, rfl⟩, ?_⟩
    refine ⟨_, _, rfl, _, _, rfl, _, rfl, ?_⟩
    have hv : (if (if ((ns.map V.int).length : Int) < 1 then ((ns.map V.int).length : Int) else 1) > 1 then (if ((ns.map V.int).length : Int) < 1 then ((ns.map V.int).length : Int) else 1) else 1) = 1 := by
      split <;> split at * <;> omega
    rw [hv]
    refine ⟨by decide, by decide, fun D hD => ?_⟩
    refine lc_range (lo := 0) (n := 1) (fun i H' => Same H H' ∧ H D = none ∧ ∃ xs, H' D = some (.lst xs) ∧ xs.length = i ∧ (i = 1 → ∃ p, xs = [.ref p] ∧ D ≠ p ∧ H p = none ∧ Pu H' p 0)) ⟨fun b o e => (upd_ne (ne_of_none e hD)).trans e, hD, [], upd_same, rfl, fun z => by cases z⟩ ?_ ?_
    · rintro i H' hi ⟨hs, _, xs, hxs, hlen, _⟩
      obtain rfl : i = 0 := by omega
      obtain rfl : xs = [] := List.length_eq_zero_iff.mp hlen
      refine ⟨rfl, _, rfl, _, rfl, a, ns, rfl, Same.seq hs hS, hl, fun H2 p hs2 hp hP => ?_⟩
      have hD2 := hs2 _ _ hxs
      have np : D ≠ p := ne_of_none hxs hp
      refine ⟨[], hD2, by decide, fun b o e => ?_, hD, _, upd_same, rfl, fun _ => ⟨p, rfl, np, ?_, ?_⟩⟩
      · rw [upd_ne (ne_of_none e hD)]
        exact hs2 b o (hs b o e)
      · cases e : H p with
        | none => rfl
        | some o =>
          rw [hs _ _ e] at hp
          cases hp
      · obtain ⟨N, s, c, e, r⟩ := hP
        exact ⟨N, s, c, (upd_ne (Ne.symm np)).trans e, r⟩
    · rintro H' ⟨hs, _, xs, hxs, _, h1⟩
      obtain ⟨p, rfl, np, hp, hP⟩ := h1 rfl
      exact k H' D p hs hD hp np hxs hP
def spOne : Sp := fun vs H Q _ => ∃ (p l : Addr) (n : Nat) (xs : List V), vs = [.ref p, .ref l] ∧ Pu H p n ∧ n ≤ 900 ∧ H l = some (.lst xs) ∧ 1 ≤ xs.length ∧ xs.length ≤ 1000 ∧ l ≠ p ∧
  ∀ (i : Nat) (x : V) H', xs[i]? = some x → Pu H' p (n + 1) → But p H H' → Q x H'
theorem scOne : FnScope ["_law_purse_here", "_law_some"] ["_law_purse_here", "_law_some"] (defScope sOne) := ⟨rfl, rfl, rfl, by decide +kernel, rfl, by decide +kernel, by decide +kernel⟩
theorem ok_one {f fD fM : Addr} {fd fdD fdM : FuncData} (F : FnP K "_law_one_of" sOne f fd) (FD : FnP K "_law_draw" sDraw fD fdD) (FM : FnP K "_law_mixed" sMixed fM fdM) (gD : mg "_law_draw" = some (.ref fD)) (gM : mg "_law_mixed" = some (.ref fM)) (gI : mg "int" = none) (gR : mg "range" = none) (gL : mg "len" = none) :
    FnOk P w K mg base CX0 3 f fd ["_law_purse_here", "_law_some"] spOne := by
  have GD : FnOk P w K mg base CX0 2 fD fdD ["_law_purse_here", "_law_many"] spDraw := ok_draw FD FM gM gI gR
  have bD : Binds K fdD ["_law_purse_here", "_law_many"] [] := FD.bindsN fun _ _ _ _ _ _ us hl => match us, hl with | [_, _], _ => rfl
  refine F.ok scOne (fun vs H Q E h => ?_) (fun cdv A outer s H vs Q E hr h => ⟨_, PSs.nox (pss_one (ps_ret (pe_ix ix_list (pv 1) (pe_call GD hr rfl gD FD.kp bD .nil pass0 (pa_cons (pv 0) (pa_cons (pe_callB call_len rfl gL boot_len (pa_cons (pv 1) pa_nil)) pa_nil))) (fun _ _ => rfl)))), ?_⟩)
  · obtain ⟨p, l, n, xs, rfl, _⟩ := h
    rfl
  · obtain ⟨p, l, n, xs, rfl, hP, hn, hL, x1, x2, npl, k⟩ := h
    refine ⟨_, rfl, _, rfl, _, rfl, _, _, rfl, .inl ⟨_, SqL.of hL, rfl⟩, ?_⟩
    refine ⟨p, _, n, rfl, hP, hn, by omega, by omega, fun d H' d0 d1 hP' hB => ?_⟩
    have hL' := hB _ _ npl hL
    obtain ⟨j, rfl⟩ : ∃ j : Nat, d = j := ⟨d.toNat, by omega⟩
    have hj : j < xs.length := by omega
    exact ⟨l, xs, _, _, rfl, rfl, SqL.of hL', atI_nat (List.getElem?_eq_getElem hj), k j _ H' (List.getElem?_eq_getElem hj) hP' hB⟩
end
end K1
set_option Elab.async false
set_option linter.all false
set_option maxRecDepth 100000
set_option maxHeartbeats 4000000
/-! K1w: a drawn word. -/
namespace K1
open PySem PySem.Spec PyProof.Rows L2
def abc : Str := "abcdefghijklmnopqrstuvwxyz"
/-- letters of the alphabet alone, one to eight -/
def Word (w : Str) : Prop := 1 ≤ w.cps.toList.length ∧ w.cps.toList.length ≤ 8 ∧ ∀ c ∈ w.cps.toList, c ∈ abc.cps.toList
def spWord : Sp := fun vs H Q _ => ∃ (p : Addr) (n : Nat), vs = [.ref p] ∧ Pu H p n ∧ n ≤ 500 ∧ ∀ (w : Str) H', Word w → Pu H' p (n + 20) → But p H H' → Q (.str w) H'
theorem Pu.mono {H : Hp} {p : Addr} {n m : Nat} (h : Pu H p n) (l : n ≤ m) : Pu H p m := by
  obtain ⟨N, s, c, e, a1, a2, a3, a4, a5, a6⟩ := h
  exact ⟨N, s, c, e, a1, a2, a3, a4, a5, by omega⟩
theorem Pu.upd {H : Hp} {p q : Addr} {n : Nat} {o : HO} (h : Pu H p n) (hq : q ≠ p) : Pu (L2.upd H q o) p n := by
  obtain ⟨N, s, c, e, r⟩ := h
  exact ⟨N, s, c, (upd_ne (Ne.symm hq)).trans e, r⟩
theorem Pu.some {H : Hp} {p : Addr} {n : Nat} (h : Pu H p n) : ∃ o, H p = some o := by
  obtain ⟨N, s, c, e, r⟩ := h
  exact ⟨_, e⟩
section
variable {P : Program} {w : World} {K : PySem.W.Frag} {mg : Str → Option Value} {base : Heap}
theorem scWord : FnScope ["_law_purse_here", "_law_size", "_law_spin"] ["_law_purse_here"] (defScope sWord) := ⟨rfl, rfl, rfl, by decide +kernel, rfl, by decide +kernel, by decide +kernel⟩
theorem ok_word {f fD fM : Addr} {fd fdD fdM : FuncData} (F : FnP K "_law_word" sWord f fd) (FD : FnP K "_law_draw" sDraw fD fdD) (FM : FnP K "_law_mixed" sMixed fM fdM) (gD : mg "_law_draw" = some (.ref fD)) (gM : mg "_law_mixed" = some (.ref fM)) (gI : mg "int" = none) (gR : mg "range" = none) :
    FnOk P w K mg base CX0 3 f fd ["_law_purse_here"] spWord := by
  have GD : FnOk P w K mg base CX0 2 fD fdD ["_law_purse_here", "_law_many"] spDraw := ok_draw FD FM gM gI gR
  have bD : Binds K fdD ["_law_purse_here", "_law_many"] [] := FD.bindsN fun _ _ _ _ _ _ us hl => match us, hl with | [_, _], _ => rfl
  refine F.ok scWord (fun vs H Q E h => ?_) (fun cdv A outer s H vs Q E hr h => ⟨_, PSs.nox (pss_cons (ps_set (i := 1) scWord.nd rfl (Or.inl rfl) (pe_op op_add pe_int (pe_call GD hr rfl gD FD.kp bD .nil pass0 (pa_cons (pv 0) (pa_cons
        (pe_ifExp (pt_cmpR op_eq (pe_call GD hr rfl gD FD.kp bD .nil pass0 (pa_cons (pv 0) (pa_cons pe_int pa_nil))) pe_int (nomark _)) pe_int pe_int) pa_nil)))))
      (pss_one (ps_ret (pe_join pe_str (pe_lc (own := [("_law_spin", 2)]) (g := gName 2) (tt := tYes) rfl scWord.nd
      (pi_range1 rfl gR (pa_cons (pv 1) pa_nil))
      (blkOk_by (N := ["_law_purse_here", "_law_size", "_law_spin"]) (sc := defScope sWord) (by decide +kernel)) (fun _ _ _ _ _ => pg_name (i := 2) scWord.nd rfl (Or.inl rfl)) (fun _ _ _ _ _ => pts_nil)
      (fun _ _ _ _ _ => pe_ix ix_str pe_str (pe_call GD hr rfl gD FD.kp bD .nil pass0 (pa_cons (pv 0) (pa_cons pe_int pa_nil))) (fun _ _ => rfl))))))), ?_⟩)
  · obtain ⟨p, n, rfl, _⟩ := h
    rfl
  · obtain ⟨p, n, rfl, hP, hn, k⟩ := h
    refine ⟨_, rfl, _, rfl, p, 3, n, rfl, hP, by omega, by decide, by decide, fun d1 H1 d10 d11 hP1 hB1 => ?_⟩
    refine ⟨rfl, _, rfl, ite2 (fun _ => ⟨p, 8, n + 1, rfl, hP1, by omega, by decide, by decide, fun d H2 d0 d1' hP2 hB2 => ?_⟩) (fun _ => ⟨p, 3, n + 1, rfl, hP1, by omega, by decide, by decide, fun d H2 d0 d1' hP2 hB2 => ?_⟩)⟩
    all_goals
      obtain ⟨j, rfl⟩ : ∃ j : Nat, d = j := ⟨d.toNat, by omega⟩
      have hj : j < 8 := by omega
      have hB : But p H H2 := hB1.trans hB2
      refine ⟨_, _, rfl, rfl, ⟨_, rfl⟩, _, rfl, _, rfl, by omega, by omega, fun D hD => ?_⟩
      have hD0 : ∀ o, H D = some o → D = p := fun o e => Classical.byContradiction fun z => by
        rw [hB _ _ z e] at hD
        cases hD
      have npD : D ≠ p := by
        obtain ⟨o, e⟩ := hP2.some
        exact fun z => by rw [z, e] at hD; cases hD
      have hT : (1 + (j : Int)).toNat = 1 + j := by omega
      rw [hT]
      refine lc_range (lo := 0) (n := 1 + j) (fun i H' => ∃ cs : List Nat, H' D = some (.lst (cs.map fun c => V.str ⟨#[c]⟩)) ∧ cs.length = i ∧ (∀ c ∈ cs, c ∈ abc.cps.toList) ∧ Pu H' p (n + 2 + i) ∧ But p H H') ⟨[], upd_same, rfl, fun _ h => (List.not_mem_nil h).elim, hP2.upd npD, hB.trans (But.new hD)⟩ ?_ ?_
      · rintro i H' hi ⟨cs, hc, hl, hm, hP', hB'⟩
        refine ⟨rfl, ?_⟩
        refine ⟨_, rfl, p, 26, n + 2 + i, rfl, hP', by omega, by decide, by decide, fun e H3 e0 e1 hP3 hB3 => ?_⟩
        obtain ⟨q, rfl⟩ : ∃ q : Nat, e = q := ⟨e.toNat, by omega⟩
        have hq : q < abc.cps.toList.length := by
          have : abc.cps.toList.length = 26 := by decide +kernel
          omega
        refine ⟨_, _, _, rfl, rfl, by decide +kernel, atI_nat (List.getElem?_eq_getElem hq), ?_⟩
        refine ⟨_, hB3 _ _ npD hc, ?_, cs ++ [abc.cps.toList[q]], ?_, ?_, ?_, ?_, ?_⟩
        · rw [List.length_map]; show cs.length < _; rw [hl, PySem.sizeLine_eq]; omega
        · rw [upd_same]; simp
        · simp [hl]
        · intro c hc
          rcases List.mem_append.mp hc with h | h
          · exact hm c h
          · rw [List.mem_singleton.mp h]
            exact List.getElem_mem hq
        · exact (hP3.upd npD).mono (by omega)
        · refine fun b o hb e => ?_
          have hz : b ≠ D := fun z => npD (hD0 _ (z ▸ e))
          rw [upd_ne hz]
          exact (hB'.trans hB3) b o hb e
      · rintro H' ⟨cs, hc, hl, hm, hP', hB'⟩
        refine ⟨_, D, cs.map fun c => (⟨#[c]⟩ : Str), rfl, rfl, .inl (SqL.of (by rw [hc, List.map_map]; rfl)), ?_, ?_⟩
        · have e1 : (Str.ofString "").length = 0 := by decide +kernel
          rw [e1, List.map_map]
          have e2 : ∀ l : List Nat, (l.map ((fun x : Str => x.length) ∘ fun c => (⟨#[c]⟩ : Str))).sum = l.length := fun l => by
            induction l with
            | nil => rfl
            | cons a r ih => rw [List.map_cons, List.sum_cons, ih, List.length_cons]; show 1 + _ = _; omega
          rw [e2]
          omega
        · have z := PySem.W.KT.join_ones (cs.map fun c => (⟨#[c]⟩ : Str)) (fun a ha => by
            obtain ⟨c, _, rfl⟩ := List.mem_map.mp ha
            rfl)
          rw [List.length_map] at z
          have z1 : (Txt.join (Str.ofString "") (cs.map fun c => (⟨#[c]⟩ : Str))).cps.toList.length = cs.length := by rw [← z]; simp [Str.length]
          refine k _ H' ⟨by omega, by omega, ?_⟩ (hP'.mono (by omega)) hB'
          intro c hc
          rw [eq_of_beq (join_plain_closes (Str.ofString "") (cs.map fun c => (⟨#[c]⟩ : Str))), mem_join] at hc
          rcases hc with ⟨t, ht, hct⟩ | ⟨_, h⟩
          · obtain ⟨d, hd, rfl⟩ := List.mem_map.mp ht
            rw [List.mem_singleton.mp hct]
            exact hm d hd
          · exact (List.not_mem_nil h).elim
end
end K1
set_option Elab.async false
set_option linter.all false
set_option maxRecDepth 100000
set_option maxHeartbeats 4000000
/-! K1f: lists of made exceptions (first, called, bare); which kinds they are (code, is_error). -/
namespace K1
open PySem PySem.Spec PyProof.Rows L2 XM
abbrev sFirst : Stmt := top 39
abbrev sCalled : Stmt := top 40
abbrev sBare : Stmt := top 41
abbrev sCode : Stmt := top 42
abbrev sIsErr : Stmt := top 43
/-! ### exceptions that stay -/
def KeepX (H H' : Hp) : Prop := ∀ b, (∀ C d, H b = some (exo b C d) → H' b = some (exo b C d)) ∧ ∀ fs, H b = some (exd b fs) → H' b = some (exd b fs)
theorem KeepX.same {H H' : Hp} (s : Same H H') : KeepX H H' := fun b => ⟨fun _ _ e => s _ _ e, fun _ e => s _ _ e⟩
theorem KeepX.trans {H H1 H2 : Hp} (a : KeepX H H1) (b : KeepX H1 H2) : KeepX H H2 := fun c => ⟨fun C d e => (b c).1 C d ((a c).1 C d e), fun fs e => (b c).2 fs ((a c).2 fs e)⟩
theorem exa_keep {H H' : Hp} {a C dx : Addr} {v : V} (h : ExA H a C dx v) (k : KeepX H H') : ExA H' a C dx v := ⟨(k a).1 _ _ h.1, (k dx).2 _ h.2.1, h.2.2⟩
theorem IsEx.keep {H H' : Hp} {a C : Addr} (h : IsEx H a C) (k : KeepX H H') : IsEx H' a C := by
  rcases h with h | ⟨dx, v, h⟩
  · exact .inl ((k a).1 _ _ h)
  · exact .inr ⟨dx, v, exa_keep h k⟩
/-- at the addresses es exceptions of the classes Cs, each keeping v -/
def Exs (H : Hp) (v : V) : List Addr → List V → Prop
  | [], [] => True
  | C :: Cs, e :: es => (∃ a dx, e = .ref a ∧ ExA H a C dx v) ∧ Exs H v Cs es
  | _, _ => False
theorem Exs.keep {H H' : Hp} {v : V} (k : KeepX H H') : ∀ {Cs : List Addr} {es : List V}, Exs H v Cs es → Exs H' v Cs es
  | [], [], _ => True.intro
  | _ :: _, _ :: _, ⟨⟨a, dx, e, h⟩, r⟩ => ⟨⟨a, dx, e, exa_keep h k⟩, Exs.keep k r⟩
theorem Exs.len {H : Hp} {v : V} : ∀ {Cs : List Addr} {es : List V}, Exs H v Cs es → es.length = Cs.length
  | [], [], _ => rfl
  | _ :: _, _ :: _, ⟨_, r⟩ => congrArg (· + 1) (Exs.len r)
theorem Exs.app {H : Hp} {v : V} : ∀ {Cs Cs' : List Addr} {es es' : List V}, Exs H v Cs es → Exs H v Cs' es' → Exs H v (Cs ++ Cs') (es ++ es')
  | [], _, [], _, _, h => h
  | _ :: _, _, _ :: _, _, ⟨h, r⟩, h' => ⟨h, Exs.app r h'⟩
theorem Exs.at {H : Hp} {v : V} : ∀ {Cs : List Addr} {es : List V} {i : Nat} {x : V}, Exs H v Cs es → es[i]? = some x → ∃ a C dx, x = .ref a ∧ Cs[i]? = some C ∧ ExA H a C dx v
  | [], [], _, _, _, e => by simp at e
  | C :: _, y :: _, 0, x, ⟨⟨a, dx, e1, h⟩, _⟩, e => by
    simp at e
    exact ⟨a, C, dx, by rw [← e, e1], rfl, h⟩
  | _ :: _, _ :: _, i + 1, x, ⟨_, r⟩, e => Exs.at (i := i) r (by simpa using e)
/-! ### rules -/
def tMany (val : L2.St → V → Prop) (Cs : List Addr) : TA := fun σ H Q => ∃ v, val σ v ∧ ∀ es H', Same H H' → Exs H' v Cs es → Q es H'
def tManyL (val : L2.St → V → Prop) (Cs : List Addr) : TE := fun σ H Q => ∃ v, val σ v ∧ ∀ l es H', Same H H' → H l = none → H' l = some (.lst es) → Exs H' v Cs es → Q (.ref l) H'
def vAt (i : Nat) : L2.St → V → Prop := fun σ v => σ[i]? = some (some v)
def vNon : L2.St → V → Prop := fun _ v => v = .non
section
variable {X : Cx} {val : L2.St → V → Prop} {C : Addr} {Cs : List Addr} {e : Expr} {es : List Expr} {te : TE} {pos : Pos}
theorem pa_mk (hv : ∀ σ v H Q, val σ v → tMkX C v σ H Q → te σ H Q) (he : PE X e te) (hr : PA X es (tMany val Cs)) (hs : starEach (e :: es) X.env = (false, eval e X.env) :: starEach es X.env := by rfl) : PA X (e :: es) (tMany val (C :: Cs)) := by
  refine ⟨fun pos pins s σ H Q I h => (pa_cons he hr hs).run pos pins s σ H Q I ?_⟩
  obtain ⟨v, e1, k⟩ := h
  refine hv σ v H _ e1 fun a dx ha hd hn => ⟨v, e1, fun es' H' s' x' => k _ H' ?_ ⟨⟨a, dx, rfl, ?_⟩, x'⟩⟩
  · exact fun b o q => s' b o ((put1_old ha hd q))
  · exact exa_keep (put1_ex hn) (.same s')
theorem pa_mk0 : PA X [] (tMany val []) := by
  refine ⟨fun pos pins s σ H Q I h => pa_nil.run pos pins s σ H Q I ?_⟩
  obtain ⟨v, e1, k⟩ := h
  exact k [] H (.refl H) True.intro
theorem pe_many (hl : Cs.length ≤ sizeLine) (h : PA X es (tMany val Cs)) : PE X (.List es pos) (tManyL val Cs) := by
  refine ⟨fun pins s σ H Q I hq => (pe_lst h).run pins s σ H Q I ?_⟩
  obtain ⟨v, e1, k⟩ := hq
  refine ⟨v, e1, fun es' H' s' x' => ⟨by rw [x'.len]; exact hl, fun p hp => ?_⟩⟩
  refine k p es' _ (fun b o q => ?_) (Same.free s' hp) upd_same (x'.keep (.same fun b o q => ?_))
  · rw [upd_ne (ne_of_none (s' b o q) hp)]; exact s' b o q
  · rw [upd_ne (ne_of_none q hp)]; exact q
theorem mk1 {i : Nat} (σ : L2.St) (v : V) (H : Hp) (Q : VK) (h : vAt i σ v) (q : tMkX C v σ H Q) : (fun σ H Q => tVar i σ H fun v H1 => tMkX C v σ H1 Q : TE) σ H Q := ⟨v, h, q⟩
theorem mk0 (σ : L2.St) (v : V) (H : Hp) (Q : VK) (h : vNon σ v) (q : tMkX C v σ H Q) : tMkX C .non σ H Q := by
  obtain rfl : v = .non := h
  exact q
end
theorem grow {val : L2.St → V → Prop} {Cs0 Cs : List Addr} {σ : L2.St} {H0 H : Hp} {l : Addr} {es : List V} {v : V} {Q : VK} {i : Nat} (hσ : σ[i]? = some (some (.ref l))) (hv : val σ v) (h0 : Same H0 H) (hl : H l = some (.lst es)) (hx : Exs H v Cs0 es) (small : Cs0.length + Cs.length ≤ sizeLine)
    (q : ∀ l' es' H', Same H0 H' → H0 l' = none → H' l' = some (.lst es') → Exs H' v (Cs0 ++ Cs) es' → Q (.ref l') H') : tOp rCat (tVar i) (tManyL val Cs) σ H Q := by
  refine ⟨_, hσ, v, hv, fun l2 es2 H2 s2 n2 e2 x2 => ⟨_, _, _, _, rfl, rfl, s2 _ _ hl, e2, ?_, fun p hp => ?_⟩⟩
  · rw [hx.len, x2.len]; exact small
  · have k2 : Same H2 (upd H2 p (.lst (es ++ es2))) := fun b o q => (upd_ne (ne_of_none q hp)).trans q
    exact q p _ _ ((h0.trans s2).trans k2) (Same.free (h0.trans s2) hp) upd_same (Exs.app (hx.keep (.same (s2.trans k2))) (x2.keep (.same k2)))
/-! ### the 28 (and two) kinds -/
def nms : List Str := ["InvalidTable", "InvalidKinds", "InvalidKind", "InvalidMap", "InvalidTriples", "InvalidRule", "InvalidThings", "InvalidBook", "InvalidTerm", "InvalidTerms", "InvalidWord", "InvalidCount", "InvalidPrices", "InvalidHolding",
  "InvalidWorld", "InvalidInputs", "InvalidLines", "InvalidProgram", "InvalidFolding", "InvalidBench", "InvalidSpot", "InvalidScript", "InvalidText", "InvalidRecord", "Unlike", "Unsettled", "Apart", "Refused", "NothingToUndo", "NothingToRedo", "SpreadError"]
def nmAt (i : Nat) : Str := nms.getD i ""
/-- what is known of the classes: c i the i-th -/
structure Tab (P : Program) (K : PySem.W.Frag) (mg : Str → Option Value) (c : Nat → Addr) : Prop where
  glob : ∀ i, i < 31 → mg (nmAt i) = some (.ref (c i))
  txt : ∀ i, i < 28 → ∃ fI, PySem.XM.XTxt P K (c i) fI
  ask : ∀ i, i < 31 → AskC K (c i)
  val : ∀ i, i < 28 → PySem.W.findIn K (.ref (c i)) "value" = some none
  one : ∀ i j, i < 31 → j < 30 → PySem.W.kitOne K (.ref (c i)) (.ref (c j)) = some (decide (i = j))
  spread : ∀ i, i < 31 → PySem.W.kitOne K (.ref (c i)) (.ref (c 30)) = some true
  valErr : ∀ i, i < 31 → PySem.W.kitOne K (.ref (c i)) (.type "ValueError") = some true
  plain : ∀ i, 28 ≤ i → i < 31 → PySem.W.excIn K (c i) [.type "ValueError", .type "Exception", .type "BaseException", .type "object"] "ValueError.__new__" = true ∧ PySem.W.keepIn K (.ref (c i)) = true
def cs28 (c : Nat → Addr) : List Addr := (List.range 28).map c
def spExs (c : Nat → Addr) : Sp := fun vs H Q _ => ∃ v, vs = [v] ∧ ∀ l es H', Same H H' → H l = none → H' l = some (.lst es) → Exs H' v (cs28 c) es → Q (.ref l) H'
def spBare (c : Nat → Addr) : Sp := fun vs H Q _ => vs = [] ∧ ∀ l es H', Same H H' → H l = none → H' l = some (.lst es) → Exs H' .non (cs28 c) es → Q (.ref l) H'
section
variable {P : Program} {w : World} {K : PySem.W.Frag} {mg : Str → Option Value} {base : Heap} {c : Nat → Addr}
theorem Tab.g (T : Tab P K mg c) (i : Nat) (x : Str) (hx : nmAt i = x) (hi : i < 31 := by decide) : mg x = some (.ref (c i)) := hx ▸ T.glob i hi
theorem scFirst : FnScope ["_law_thing", "_law_found"] ["_law_thing"] (defScope sFirst) := ⟨rfl, rfl, rfl, by decide +kernel, rfl, by decide +kernel, by decide +kernel⟩
theorem ok_first {f : Addr} {fd : FuncData} (F : FnP K "_law_first" sFirst f fd) (T : Tab P K mg c) : FnOk P w K mg base CX0 2 f fd ["_law_thing"] (spExs c) := by
  refine F.ok scFirst (fun vs H Q E h => ?_) (fun cdv A outer s H vs Q E hr h => ?_)
  · obtain ⟨v, rfl, _⟩ := h
    rfl
  have hd : (A.deeper (envOfC "_law_first" (defScope sFirst) s.heap.objs.size f cdv)).depth + 1 < recursionLimit := by have := hr.dp; omega
  obtain ⟨f0, t0⟩ := T.txt 0 (by decide)
  obtain ⟨f1, t1⟩ := T.txt 1 (by decide)
  obtain ⟨f2, t2⟩ := T.txt 2 (by decide)
  obtain ⟨f3, t3⟩ := T.txt 3 (by decide)
  obtain ⟨f4, t4⟩ := T.txt 4 (by decide)
  obtain ⟨f5, t5⟩ := T.txt 5 (by decide)
  obtain ⟨f6, t6⟩ := T.txt 6 (by decide)
  obtain ⟨f7, t7⟩ := T.txt 7 (by decide)
  obtain ⟨f8, t8⟩ := T.txt 8 (by decide)
  obtain ⟨f9, t9⟩ := T.txt 9 (by decide)
  obtain ⟨f10, t10⟩ := T.txt 10 (by decide)
  obtain ⟨f11, t11⟩ := T.txt 11 (by decide)
  obtain ⟨f12, t12⟩ := T.txt 12 (by decide)
  obtain ⟨f13, t13⟩ := T.txt 13 (by decide)
  obtain ⟨f14, t14⟩ := T.txt 14 (by decide)
  obtain ⟨f15, t15⟩ := T.txt 15 (by decide)
  obtain ⟨f16, t16⟩ := T.txt 16 (by decide)
  obtain ⟨f17, t17⟩ := T.txt 17 (by decide)
  obtain ⟨f18, t18⟩ := T.txt 18 (by decide)
  obtain ⟨f19, t19⟩ := T.txt 19 (by decide)
  obtain ⟨f20, t20⟩ := T.txt 20 (by decide)
  obtain ⟨f21, t21⟩ := T.txt 21 (by decide)
  obtain ⟨f22, t22⟩ := T.txt 22 (by decide)
  obtain ⟨f23, t23⟩ := T.txt 23 (by decide)
  obtain ⟨f24, t24⟩ := T.txt 24 (by decide)
  obtain ⟨f25, t25⟩ := T.txt 25 (by decide)
  obtain ⟨f26, t26⟩ := T.txt 26 (by decide)
  obtain ⟨f27, t27⟩ := T.txt 27 (by decide)
  refine ⟨_, PSs.nox (pss_cons (ps_set (i := 1) scFirst.nd rfl (Or.inl rfl) (pe_many (by rw [PySem.sizeLine_eq]; show (4 : Nat) ≤ _; decide) (pa_mk (mk1 (i := 0)) (pe_mkx1 t0 hd rfl (T.g 0 _ rfl) (pv 0)) (pa_mk (mk1 (i := 0)) (pe_mkx1 t1 hd rfl (T.g 1 _ rfl) (pv 0)) (pa_mk (mk1 (i := 0)) (pe_mkx1 t2 hd rfl (T.g 2 _ rfl) (pv 0)) (pa_mk (mk1 (i := 0)) (pe_mkx1 t3 hd rfl (T.g 3 _ rfl) (pv 0)) pa_mk0))))))
      (pss_cons (ps_set (i := 1) scFirst.nd rfl (Or.inl rfl) (pe_op op_cat (pv 1) (pe_many (by rw [PySem.sizeLine_eq]; show (4 : Nat) ≤ _; decide) (pa_mk (mk1 (i := 0)) (pe_mkx1 t4 hd rfl (T.g 4 _ rfl) (pv 0)) (pa_mk (mk1 (i := 0)) (pe_mkx1 t5 hd rfl (T.g 5 _ rfl) (pv 0)) (pa_mk (mk1 (i := 0)) (pe_mkx1 t6 hd rfl (T.g 6 _ rfl) (pv 0)) (pa_mk (mk1 (i := 0)) (pe_mkx1 t7 hd rfl (T.g 7 _ rfl) (pv 0)) pa_mk0)))))))
      (pss_cons (ps_set (i := 1) scFirst.nd rfl (Or.inl rfl) (pe_op op_cat (pv 1) (pe_many (by rw [PySem.sizeLine_eq]; show (4 : Nat) ≤ _; decide) (pa_mk (mk1 (i := 0)) (pe_mkx1 t8 hd rfl (T.g 8 _ rfl) (pv 0)) (pa_mk (mk1 (i := 0)) (pe_mkx1 t9 hd rfl (T.g 9 _ rfl) (pv 0)) (pa_mk (mk1 (i := 0)) (pe_mkx1 t10 hd rfl (T.g 10 _ rfl) (pv 0)) (pa_mk (mk1 (i := 0)) (pe_mkx1 t11 hd rfl (T.g 11 _ rfl) (pv 0)) pa_mk0)))))))
      (pss_cons (ps_set (i := 1) scFirst.nd rfl (Or.inl rfl) (pe_op op_cat (pv 1) (pe_many (by rw [PySem.sizeLine_eq]; show (4 : Nat) ≤ _; decide) (pa_mk (mk1 (i := 0)) (pe_mkx1 t12 hd rfl (T.g 12 _ rfl) (pv 0)) (pa_mk (mk1 (i := 0)) (pe_mkx1 t13 hd rfl (T.g 13 _ rfl) (pv 0)) (pa_mk (mk1 (i := 0)) (pe_mkx1 t14 hd rfl (T.g 14 _ rfl) (pv 0)) (pa_mk (mk1 (i := 0)) (pe_mkx1 t15 hd rfl (T.g 15 _ rfl) (pv 0)) pa_mk0)))))))
      (pss_cons (ps_set (i := 1) scFirst.nd rfl (Or.inl rfl) (pe_op op_cat (pv 1) (pe_many (by rw [PySem.sizeLine_eq]; show (4 : Nat) ≤ _; decide) (pa_mk (mk1 (i := 0)) (pe_mkx1 t16 hd rfl (T.g 16 _ rfl) (pv 0)) (pa_mk (mk1 (i := 0)) (pe_mkx1 t17 hd rfl (T.g 17 _ rfl) (pv 0)) (pa_mk (mk1 (i := 0)) (pe_mkx1 t18 hd rfl (T.g 18 _ rfl) (pv 0)) (pa_mk (mk1 (i := 0)) (pe_mkx1 t19 hd rfl (T.g 19 _ rfl) (pv 0)) pa_mk0)))))))
      (pss_cons (ps_set (i := 1) scFirst.nd rfl (Or.inl rfl) (pe_op op_cat (pv 1) (pe_many (by rw [PySem.sizeLine_eq]; show (4 : Nat) ≤ _; decide) (pa_mk (mk1 (i := 0)) (pe_mkx1 t20 hd rfl (T.g 20 _ rfl) (pv 0)) (pa_mk (mk1 (i := 0)) (pe_mkx1 t21 hd rfl (T.g 21 _ rfl) (pv 0)) (pa_mk (mk1 (i := 0)) (pe_mkx1 t22 hd rfl (T.g 22 _ rfl) (pv 0)) (pa_mk (mk1 (i := 0)) (pe_mkx1 t23 hd rfl (T.g 23 _ rfl) (pv 0)) pa_mk0)))))))
      (pss_cons (ps_set (i := 1) scFirst.nd rfl (Or.inl rfl) (pe_op op_cat (pv 1) (pe_many (by rw [PySem.sizeLine_eq]; show (4 : Nat) ≤ _; decide) (pa_mk (mk1 (i := 0)) (pe_mkx1 t24 hd rfl (T.g 24 _ rfl) (pv 0)) (pa_mk (mk1 (i := 0)) (pe_mkx1 t25 hd rfl (T.g 25 _ rfl) (pv 0)) (pa_mk (mk1 (i := 0)) (pe_mkx1 t26 hd rfl (T.g 26 _ rfl) (pv 0)) (pa_mk (mk1 (i := 0)) (pe_mkx1 t27 hd rfl (T.g 27 _ rfl) (pv 0)) pa_mk0)))))))
      (pss_one (ps_ret (pv 1)))))))))), ?_⟩
  obtain ⟨v, rfl, k⟩ := h
  refine ⟨v, rfl, fun l es H1 s1 n1 e1 x1 => ?_⟩
  refine grow (i := 1) rfl rfl s1 e1 x1 (by rw [PySem.sizeLine_eq]; show (8 : Nat) ≤ _; decide) fun l es H1 s1 n1 e1 x1 => ?_
  refine grow (i := 1) rfl rfl s1 e1 x1 (by rw [PySem.sizeLine_eq]; show (12 : Nat) ≤ _; decide) fun l es H1 s1 n1 e1 x1 => ?_
  refine grow (i := 1) rfl rfl s1 e1 x1 (by rw [PySem.sizeLine_eq]; show (16 : Nat) ≤ _; decide) fun l es H1 s1 n1 e1 x1 => ?_
  refine grow (i := 1) rfl rfl s1 e1 x1 (by rw [PySem.sizeLine_eq]; show (20 : Nat) ≤ _; decide) fun l es H1 s1 n1 e1 x1 => ?_
  refine grow (i := 1) rfl rfl s1 e1 x1 (by rw [PySem.sizeLine_eq]; show (24 : Nat) ≤ _; decide) fun l es H1 s1 n1 e1 x1 => ?_
  refine grow (i := 1) rfl rfl s1 e1 x1 (by rw [PySem.sizeLine_eq]; show (28 : Nat) ≤ _; decide) fun l es H1 s1 n1 e1 x1 => ?_
  exact ⟨_, rfl, k l es H1 s1 n1 e1 x1⟩
theorem scCalled : FnScope ["_law_thing", "_law_found"] ["_law_thing"] (defScope sCalled) := ⟨rfl, rfl, rfl, by decide +kernel, rfl, by decide +kernel, by decide +kernel⟩
theorem ok_called {f : Addr} {fd : FuncData} (F : FnP K "_law_called" sCalled f fd) (T : Tab P K mg c) : FnOk P w K mg base CX0 2 f fd ["_law_thing"] (spExs c) := by
  refine F.ok scCalled (fun vs H Q E h => ?_) (fun cdv A outer s H vs Q E hr h => ?_)
  · obtain ⟨v, rfl, _⟩ := h
    rfl
  have hd : (A.deeper (envOfC "_law_called" (defScope sCalled) s.heap.objs.size f cdv)).depth + 1 < recursionLimit := by have := hr.dp; omega
  obtain ⟨f0, t0⟩ := T.txt 0 (by decide)
  obtain ⟨f1, t1⟩ := T.txt 1 (by decide)
  obtain ⟨f2, t2⟩ := T.txt 2 (by decide)
  obtain ⟨f3, t3⟩ := T.txt 3 (by decide)
  obtain ⟨f4, t4⟩ := T.txt 4 (by decide)
  obtain ⟨f5, t5⟩ := T.txt 5 (by decide)
  obtain ⟨f6, t6⟩ := T.txt 6 (by decide)
  obtain ⟨f7, t7⟩ := T.txt 7 (by decide)
  obtain ⟨f8, t8⟩ := T.txt 8 (by decide)
  obtain ⟨f9, t9⟩ := T.txt 9 (by decide)
  obtain ⟨f10, t10⟩ := T.txt 10 (by decide)
  obtain ⟨f11, t11⟩ := T.txt 11 (by decide)
  obtain ⟨f12, t12⟩ := T.txt 12 (by decide)
  obtain ⟨f13, t13⟩ := T.txt 13 (by decide)
  obtain ⟨f14, t14⟩ := T.txt 14 (by decide)
  obtain ⟨f15, t15⟩ := T.txt 15 (by decide)
  obtain ⟨f16, t16⟩ := T.txt 16 (by decide)
  obtain ⟨f17, t17⟩ := T.txt 17 (by decide)
  obtain ⟨f18, t18⟩ := T.txt 18 (by decide)
  obtain ⟨f19, t19⟩ := T.txt 19 (by decide)
  obtain ⟨f20, t20⟩ := T.txt 20 (by decide)
  obtain ⟨f21, t21⟩ := T.txt 21 (by decide)
  obtain ⟨f22, t22⟩ := T.txt 22 (by decide)
  obtain ⟨f23, t23⟩ := T.txt 23 (by decide)
  obtain ⟨f24, t24⟩ := T.txt 24 (by decide)
  obtain ⟨f25, t25⟩ := T.txt 25 (by decide)
  obtain ⟨f26, t26⟩ := T.txt 26 (by decide)
  obtain ⟨f27, t27⟩ := T.txt 27 (by decide)
  refine ⟨_, PSs.nox (pss_cons (ps_set (i := 1) scCalled.nd rfl (Or.inl rfl) (pe_many (by rw [PySem.sizeLine_eq]; show (3 : Nat) ≤ _; decide) (pa_mk (mk1 (i := 0)) (pe_mkxk t0 hd rfl (T.g 0 _ rfl) (pv 0)) (pa_mk (mk1 (i := 0)) (pe_mkxk t1 hd rfl (T.g 1 _ rfl) (pv 0)) (pa_mk (mk1 (i := 0)) (pe_mkxk t2 hd rfl (T.g 2 _ rfl) (pv 0)) pa_mk0)))))
      (pss_cons (ps_set (i := 1) scCalled.nd rfl (Or.inl rfl) (pe_op op_cat (pv 1) (pe_many (by rw [PySem.sizeLine_eq]; show (3 : Nat) ≤ _; decide) (pa_mk (mk1 (i := 0)) (pe_mkxk t3 hd rfl (T.g 3 _ rfl) (pv 0)) (pa_mk (mk1 (i := 0)) (pe_mkxk t4 hd rfl (T.g 4 _ rfl) (pv 0)) (pa_mk (mk1 (i := 0)) (pe_mkxk t5 hd rfl (T.g 5 _ rfl) (pv 0)) pa_mk0))))))
      (pss_cons (ps_set (i := 1) scCalled.nd rfl (Or.inl rfl) (pe_op op_cat (pv 1) (pe_many (by rw [PySem.sizeLine_eq]; show (3 : Nat) ≤ _; decide) (pa_mk (mk1 (i := 0)) (pe_mkxk t6 hd rfl (T.g 6 _ rfl) (pv 0)) (pa_mk (mk1 (i := 0)) (pe_mkxk t7 hd rfl (T.g 7 _ rfl) (pv 0)) (pa_mk (mk1 (i := 0)) (pe_mkxk t8 hd rfl (T.g 8 _ rfl) (pv 0)) pa_mk0))))))
      (pss_cons (ps_set (i := 1) scCalled.nd rfl (Or.inl rfl) (pe_op op_cat (pv 1) (pe_many (by rw [PySem.sizeLine_eq]; show (3 : Nat) ≤ _; decide) (pa_mk (mk1 (i := 0)) (pe_mkxk t9 hd rfl (T.g 9 _ rfl) (pv 0)) (pa_mk (mk1 (i := 0)) (pe_mkxk t10 hd rfl (T.g 10 _ rfl) (pv 0)) (pa_mk (mk1 (i := 0)) (pe_mkxk t11 hd rfl (T.g 11 _ rfl) (pv 0)) pa_mk0))))))
      (pss_cons (ps_set (i := 1) scCalled.nd rfl (Or.inl rfl) (pe_op op_cat (pv 1) (pe_many (by rw [PySem.sizeLine_eq]; show (3 : Nat) ≤ _; decide) (pa_mk (mk1 (i := 0)) (pe_mkxk t12 hd rfl (T.g 12 _ rfl) (pv 0)) (pa_mk (mk1 (i := 0)) (pe_mkxk t13 hd rfl (T.g 13 _ rfl) (pv 0)) (pa_mk (mk1 (i := 0)) (pe_mkxk t14 hd rfl (T.g 14 _ rfl) (pv 0)) pa_mk0))))))
      (pss_cons (ps_set (i := 1) scCalled.nd rfl (Or.inl rfl) (pe_op op_cat (pv 1) (pe_many (by rw [PySem.sizeLine_eq]; show (3 : Nat) ≤ _; decide) (pa_mk (mk1 (i := 0)) (pe_mkxk t15 hd rfl (T.g 15 _ rfl) (pv 0)) (pa_mk (mk1 (i := 0)) (pe_mkxk t16 hd rfl (T.g 16 _ rfl) (pv 0)) (pa_mk (mk1 (i := 0)) (pe_mkxk t17 hd rfl (T.g 17 _ rfl) (pv 0)) pa_mk0))))))
      (pss_cons (ps_set (i := 1) scCalled.nd rfl (Or.inl rfl) (pe_op op_cat (pv 1) (pe_many (by rw [PySem.sizeLine_eq]; show (3 : Nat) ≤ _; decide) (pa_mk (mk1 (i := 0)) (pe_mkxk t18 hd rfl (T.g 18 _ rfl) (pv 0)) (pa_mk (mk1 (i := 0)) (pe_mkxk t19 hd rfl (T.g 19 _ rfl) (pv 0)) (pa_mk (mk1 (i := 0)) (pe_mkxk t20 hd rfl (T.g 20 _ rfl) (pv 0)) pa_mk0))))))
      (pss_cons (ps_set (i := 1) scCalled.nd rfl (Or.inl rfl) (pe_op op_cat (pv 1) (pe_many (by rw [PySem.sizeLine_eq]; show (3 : Nat) ≤ _; decide) (pa_mk (mk1 (i := 0)) (pe_mkxk t21 hd rfl (T.g 21 _ rfl) (pv 0)) (pa_mk (mk1 (i := 0)) (pe_mkxk t22 hd rfl (T.g 22 _ rfl) (pv 0)) (pa_mk (mk1 (i := 0)) (pe_mkxk t23 hd rfl (T.g 23 _ rfl) (pv 0)) pa_mk0))))))
      (pss_cons (ps_set (i := 1) scCalled.nd rfl (Or.inl rfl) (pe_op op_cat (pv 1) (pe_many (by rw [PySem.sizeLine_eq]; show (4 : Nat) ≤ _; decide) (pa_mk (mk1 (i := 0)) (pe_mkxk t24 hd rfl (T.g 24 _ rfl) (pv 0)) (pa_mk (mk1 (i := 0)) (pe_mkxk t25 hd rfl (T.g 25 _ rfl) (pv 0)) (pa_mk (mk1 (i := 0)) (pe_mkxk t26 hd rfl (T.g 26 _ rfl) (pv 0)) (pa_mk (mk1 (i := 0)) (pe_mkxk t27 hd rfl (T.g 27 _ rfl) (pv 0)) pa_mk0)))))))
      (pss_one (ps_ret (pv 1)))))))))))), ?_⟩
  obtain ⟨v, rfl, k⟩ := h
  refine ⟨v, rfl, fun l es H1 s1 n1 e1 x1 => ?_⟩
  refine grow (i := 1) rfl rfl s1 e1 x1 (by rw [PySem.sizeLine_eq]; show (6 : Nat) ≤ _; decide) fun l es H1 s1 n1 e1 x1 => ?_
  refine grow (i := 1) rfl rfl s1 e1 x1 (by rw [PySem.sizeLine_eq]; show (9 : Nat) ≤ _; decide) fun l es H1 s1 n1 e1 x1 => ?_
  refine grow (i := 1) rfl rfl s1 e1 x1 (by rw [PySem.sizeLine_eq]; show (12 : Nat) ≤ _; decide) fun l es H1 s1 n1 e1 x1 => ?_
  refine grow (i := 1) rfl rfl s1 e1 x1 (by rw [PySem.sizeLine_eq]; show (15 : Nat) ≤ _; decide) fun l es H1 s1 n1 e1 x1 => ?_
  refine grow (i := 1) rfl rfl s1 e1 x1 (by rw [PySem.sizeLine_eq]; show (18 : Nat) ≤ _; decide) fun l es H1 s1 n1 e1 x1 => ?_
  refine grow (i := 1) rfl rfl s1 e1 x1 (by rw [PySem.sizeLine_eq]; show (21 : Nat) ≤ _; decide) fun l es H1 s1 n1 e1 x1 => ?_
  refine grow (i := 1) rfl rfl s1 e1 x1 (by rw [PySem.sizeLine_eq]; show (24 : Nat) ≤ _; decide) fun l es H1 s1 n1 e1 x1 => ?_
  refine grow (i := 1) rfl rfl s1 e1 x1 (by rw [PySem.sizeLine_eq]; show (28 : Nat) ≤ _; decide) fun l es H1 s1 n1 e1 x1 => ?_
  exact ⟨_, rfl, k l es H1 s1 n1 e1 x1⟩
theorem scBare : FnScope ["_law_found"] [] (defScope sBare) := ⟨rfl, rfl, rfl, by decide +kernel, rfl, by decide +kernel, by decide +kernel⟩
theorem ok_bare {f : Addr} {fd : FuncData} (F : FnP K "_law_bare" sBare f fd) (T : Tab P K mg c) : FnOk P w K mg base CX0 2 f fd [] (spBare c) := by
  refine F.ok scBare (fun vs H Q E h => ?_) (fun cdv A outer s H vs Q E hr h => ?_)
  · obtain ⟨rfl, _⟩ := h
    rfl
  have hd : (A.deeper (envOfC "_law_bare" (defScope sBare) s.heap.objs.size f cdv)).depth + 1 < recursionLimit := by have := hr.dp; omega
  obtain ⟨f0, t0⟩ := T.txt 0 (by decide)
  obtain ⟨f1, t1⟩ := T.txt 1 (by decide)
  obtain ⟨f2, t2⟩ := T.txt 2 (by decide)
  obtain ⟨f3, t3⟩ := T.txt 3 (by decide)
  obtain ⟨f4, t4⟩ := T.txt 4 (by decide)
  obtain ⟨f5, t5⟩ := T.txt 5 (by decide)
  obtain ⟨f6, t6⟩ := T.txt 6 (by decide)
  obtain ⟨f7, t7⟩ := T.txt 7 (by decide)
  obtain ⟨f8, t8⟩ := T.txt 8 (by decide)
  obtain ⟨f9, t9⟩ := T.txt 9 (by decide)
  obtain ⟨f10, t10⟩ := T.txt 10 (by decide)
  obtain ⟨f11, t11⟩ := T.txt 11 (by decide)
  obtain ⟨f12, t12⟩ := T.txt 12 (by decide)
  obtain ⟨f13, t13⟩ := T.txt 13 (by decide)
  obtain ⟨f14, t14⟩ := T.txt 14 (by decide)
  obtain ⟨f15, t15⟩ := T.txt 15 (by decide)
  obtain ⟨f16, t16⟩ := T.txt 16 (by decide)
  obtain ⟨f17, t17⟩ := T.txt 17 (by decide)
  obtain ⟨f18, t18⟩ := T.txt 18 (by decide)
  obtain ⟨f19, t19⟩ := T.txt 19 (by decide)
  obtain ⟨f20, t20⟩ := T.txt 20 (by decide)
  obtain ⟨f21, t21⟩ := T.txt 21 (by decide)
  obtain ⟨f22, t22⟩ := T.txt 22 (by decide)
  obtain ⟨f23, t23⟩ := T.txt 23 (by decide)
  obtain ⟨f24, t24⟩ := T.txt 24 (by decide)
  obtain ⟨f25, t25⟩ := T.txt 25 (by decide)
  obtain ⟨f26, t26⟩ := T.txt 26 (by decide)
  obtain ⟨f27, t27⟩ := T.txt 27 (by decide)
  refine ⟨_, PSs.nox (pss_cons (ps_set (i := 0) scBare.nd rfl (Or.inl rfl) (pe_many (by rw [PySem.sizeLine_eq]; show (6 : Nat) ≤ _; decide) (pa_mk mk0 (pe_mkx0 t0 hd rfl (T.g 0 _ rfl)) (pa_mk mk0 (pe_mkx0 t1 hd rfl (T.g 1 _ rfl)) (pa_mk mk0 (pe_mkx0 t2 hd rfl (T.g 2 _ rfl)) (pa_mk mk0 (pe_mkx0 t3 hd rfl (T.g 3 _ rfl)) (pa_mk mk0 (pe_mkx0 t4 hd rfl (T.g 4 _ rfl)) (pa_mk mk0 (pe_mkx0 t5 hd rfl (T.g 5 _ rfl)) pa_mk0))))))))
      (pss_cons (ps_set (i := 0) scBare.nd rfl (Or.inl rfl) (pe_op op_cat (pv 0) (pe_many (by rw [PySem.sizeLine_eq]; show (6 : Nat) ≤ _; decide) (pa_mk mk0 (pe_mkx0 t6 hd rfl (T.g 6 _ rfl)) (pa_mk mk0 (pe_mkx0 t7 hd rfl (T.g 7 _ rfl)) (pa_mk mk0 (pe_mkx0 t8 hd rfl (T.g 8 _ rfl)) (pa_mk mk0 (pe_mkx0 t9 hd rfl (T.g 9 _ rfl)) (pa_mk mk0 (pe_mkx0 t10 hd rfl (T.g 10 _ rfl)) (pa_mk mk0 (pe_mkx0 t11 hd rfl (T.g 11 _ rfl)) pa_mk0)))))))))
      (pss_cons (ps_set (i := 0) scBare.nd rfl (Or.inl rfl) (pe_op op_cat (pv 0) (pe_many (by rw [PySem.sizeLine_eq]; show (5 : Nat) ≤ _; decide) (pa_mk mk0 (pe_mkx0 t12 hd rfl (T.g 12 _ rfl)) (pa_mk mk0 (pe_mkx0 t13 hd rfl (T.g 13 _ rfl)) (pa_mk mk0 (pe_mkx0 t14 hd rfl (T.g 14 _ rfl)) (pa_mk mk0 (pe_mkx0 t15 hd rfl (T.g 15 _ rfl)) (pa_mk mk0 (pe_mkx0 t16 hd rfl (T.g 16 _ rfl)) pa_mk0))))))))
      (pss_cons (ps_set (i := 0) scBare.nd rfl (Or.inl rfl) (pe_op op_cat (pv 0) (pe_many (by rw [PySem.sizeLine_eq]; show (5 : Nat) ≤ _; decide) (pa_mk mk0 (pe_mkx0 t17 hd rfl (T.g 17 _ rfl)) (pa_mk mk0 (pe_mkx0 t18 hd rfl (T.g 18 _ rfl)) (pa_mk mk0 (pe_mkx0 t19 hd rfl (T.g 19 _ rfl)) (pa_mk mk0 (pe_mkx0 t20 hd rfl (T.g 20 _ rfl)) (pa_mk mk0 (pe_mkx0 t21 hd rfl (T.g 21 _ rfl)) pa_mk0))))))))
      (pss_cons (ps_set (i := 0) scBare.nd rfl (Or.inl rfl) (pe_op op_cat (pv 0) (pe_many (by rw [PySem.sizeLine_eq]; show (6 : Nat) ≤ _; decide) (pa_mk mk0 (pe_mkx0 t22 hd rfl (T.g 22 _ rfl)) (pa_mk mk0 (pe_mkx0 t23 hd rfl (T.g 23 _ rfl)) (pa_mk mk0 (pe_mkx0 t24 hd rfl (T.g 24 _ rfl)) (pa_mk mk0 (pe_mkx0 t25 hd rfl (T.g 25 _ rfl)) (pa_mk mk0 (pe_mkx0 t26 hd rfl (T.g 26 _ rfl)) (pa_mk mk0 (pe_mkx0 t27 hd rfl (T.g 27 _ rfl)) pa_mk0)))))))))
      (pss_one (ps_ret (pv 0)))))))), ?_⟩
  obtain ⟨rfl, k⟩ := h
  refine ⟨.non, rfl, fun l es H1 s1 n1 e1 x1 => ?_⟩
  refine grow (i := 0) rfl rfl s1 e1 x1 (by rw [PySem.sizeLine_eq]; show (12 : Nat) ≤ _; decide) fun l es H1 s1 n1 e1 x1 => ?_
  refine grow (i := 0) rfl rfl s1 e1 x1 (by rw [PySem.sizeLine_eq]; show (17 : Nat) ≤ _; decide) fun l es H1 s1 n1 e1 x1 => ?_
  refine grow (i := 0) rfl rfl s1 e1 x1 (by rw [PySem.sizeLine_eq]; show (22 : Nat) ≤ _; decide) fun l es H1 s1 n1 e1 x1 => ?_
  refine grow (i := 0) rfl rfl s1 e1 x1 (by rw [PySem.sizeLine_eq]; show (28 : Nat) ≤ _; decide) fun l es H1 s1 n1 e1 x1 => ?_
  exact ⟨_, rfl, k l es H1 s1 n1 e1 x1⟩
end
end K1
set_option Elab.async false
set_option linter.all false
set_option maxRecDepth 100000
set_option maxHeartbeats 4000000
/-! K1g: which kind an exception is: code, is_error. -/
namespace K1
open PySem PySem.Spec PyProof.Rows L2 XM
def bls (i : Nat) (js : List Nat) : List V := js.map fun j => .bl (decide (i = j))
def tIs (c : Nat → Addr) (js : List Nat) : TA := fun σ H Q => ∃ a i, σ[0]? = some (some (.ref a)) ∧ i < 31 ∧ IsEx H a (c i) ∧ Q (bls i js) H
def tIsL (c : Nat → Addr) (js : List Nat) : TE := fun σ H Q => ∃ a i, σ[0]? = some (some (.ref a)) ∧ i < 31 ∧ IsEx H a (c i) ∧ ∀ l H', Same H H' → H l = none → H' l = some (.lst (bls i js)) → Q (.ref l) H'
section
variable {X : Cx} {c : Nat → Addr} {j : Nat} {js : List Nat} {es : List Expr} {x y : Str} {p1 p2 p3 pos : Pos}
theorem pa_is (T : Tab X.prog X.K X.mg c) (hj : j < 30) (gI : X.mg "isinstance" = none) (hg : Gl X "isinstance") (hN : X.N[0]? = some y) (hv : Vis X.env.scope y) (hgx : Gl X x) (hm : X.mg x = some (.ref (c j))) (hr : PA X es (tIs c js))
    (hdy : (y == ("__debug__" : Str)) = false := by decide) (hdy2 : (y == ("__classdict__" : Str)) = false := by decide) (hdx : (x == ("__debug__" : Str)) = false := by decide)
    (hs2 : starEach [.Name y p2, .Name x p3] X.env = (false, eval (.Name y p2) X.env) :: starEach [.Name x p3] X.env := by rfl) (hs1 : starEach [.Name x p3] X.env = (false, eval (.Name x p3) X.env) :: starEach [] X.env := by rfl)
    (hs : starEach ((.Call (.Name "isinstance" p1) [.Name y p2, .Name x p3] [] pos) :: es) X.env = (false, eval (.Call (.Name "isinstance" p1) [.Name y p2, .Name x p3] [] pos) X.env) :: starEach es X.env := by rfl) :
    PA X ((.Call (.Name "isinstance" p1) [.Name y p2, .Name x p3] [] pos) :: es) (tIs c (j :: js)) := by
  refine ⟨fun pos' pins s σ H Q I h => (pa_cons (pe_callB call_isX hg gI PyProof.Rows.boot_isinstance (pa_cons (pe_var hN hv hdy hdy2) (pa_cons (pe_glob (v := .ref (c j)) hgx hm rfl hdx) pa_nil hs1) hs2)) hr hs).run pos' pins s σ H Q I ?_⟩
  obtain ⟨a, i, e0, hi, hx, q⟩ := h
  refine ⟨_, e0, a, c i, _, _, _, rfl, hx, T.ask i hi, (fun u r => r), T.one i j hi hj, a, i, e0, hi, hx, q⟩
theorem pa_is0 : PA X [] (tIs c []) := by
  refine ⟨fun pos pins s σ H Q I h => pa_nil.run pos pins s σ H Q I ?_⟩
  obtain ⟨a, i, e0, hi, hx, q⟩ := h
  exact q
theorem pe_isl (hl : js.length ≤ sizeLine) (h : PA X es (tIs c js)) : PE X (.List es pos) (tIsL c js) := by
  refine ⟨fun pins s σ H Q I hq => (pe_lst h).run pins s σ H Q I ?_⟩
  obtain ⟨a, i, e0, hi, hx, k⟩ := hq
  refine ⟨a, i, e0, hi, hx, by simpa [bls] using hl, fun p hp => k p _ (fun b o q => (upd_ne (ne_of_none q hp)).trans q) hp upd_same⟩
end
theorem isl_grow {c : Nat → Addr} {js0 js : List Nat} {σ : L2.St} {H0 H : Hp} {a l : Addr} {i : Nat} {Q : VK} (h0 : σ[0]? = some (some (.ref a))) (h1 : σ[1]? = some (some (.ref l))) (hi : i < 31) (hx : IsEx H0 a (c i)) (hs : Same H0 H) (hl : H l = some (.lst (bls i js0))) (small : js0.length + js.length ≤ sizeLine)
    (q : ∀ l' H', Same H0 H' → H0 l' = none → H' l' = some (.lst (bls i (js0 ++ js))) → Q (.ref l') H') : tOp rCat (tVar 1) (tIsL c js) σ H Q := by
  refine ⟨_, h1, a, i, h0, hi, IsEx.keep hx (.same hs), fun l2 H2 s2 n2 e2 => ⟨_, _, _, _, rfl, rfl, s2 _ _ hl, e2, ?_, fun p hp => ?_⟩⟩
  · simpa [bls] using small
  · refine q p _ (fun b o z => (upd_ne (ne_of_none (s2 _ _ (hs _ _ z)) hp)).trans (s2 _ _ (hs _ _ z))) (Same.free (hs.trans s2) hp) ?_
    rw [upd_same]
    simp [bls]
theorem isl_step {c : Nat → Addr} {js0 js : List Nat} {H0 H : Hp} {a l : Addr} {i : Nat} {D : Ends} (hi : i < 31) (hx : IsEx H0 a (c i)) (hs : Same H0 H) (hl : H l = some (.lst (bls i js0))) (small : js0.length + js.length ≤ sizeLine)
    (q : ∀ l' H', Same H0 H' → H0 l' = none → H' l' = some (.lst (bls i (js0 ++ js))) → D.nx [some (.ref a), some (.ref l'), none] H') : tAsg (tOp rCat (tVar 1) (tIsL c js)) (gName 1) D [some (.ref a), some (.ref l), none] H :=
  isl_grow (a := a) (l := l) rfl rfl hi hx hs hl small q
def codes (i : Nat) : List V := if i < 30 then [.int i] else []
def spCode (c : Nat → Addr) : Sp := fun vs H Q _ => ∃ a i, vs = [.ref a] ∧ i < 31 ∧ IsEx H a (c i) ∧ ∀ l H', Same H H' → H l = none → H' l = some (.lst (codes i)) → Q (.ref l) H'
def spIsErr (c : Nat → Addr) : Sp := fun vs H Q _ => ∃ a i, vs = [.ref a] ∧ i < 31 ∧ IsEx H a (c i) ∧ Q (.bl true) H
theorem codes_eq : ∀ i, i < 31 → codes i = ((List.range 30).filter fun j => decide (i = j)).map fun (j : Nat) => V.int (j : Int) := by
  intro i hi
  have h : ∀ i, i < 31 → ((List.range 30).filter fun j => decide (i = j)) = if i < 30 then [i] else [] := by decide +kernel
  rw [h i hi]
  unfold codes
  split <;> rfl
section
variable {P : Program} {w : World} {K : PySem.W.Frag} {mg : Str → Option Value} {base : Heap} {c : Nat → Addr}
theorem scIsErr : FnScope ["_law_error"] ["_law_error"] (defScope sIsErr) := ⟨rfl, rfl, rfl, by decide +kernel, rfl, by decide +kernel, by decide +kernel⟩
theorem ok_iserr {f : Addr} {fd : FuncData} (F : FnP K "_law_is_error" sIsErr f fd) (T : Tab P K mg c) (gI : mg "isinstance" = none) (gV : mg "ValueError" = none) : FnOk P w K mg base CX0 1 f fd ["_law_error"] (spIsErr c) := by
  refine F.ok scIsErr (fun vs H Q E h => ?_) (fun cdv A outer s H vs Q E hr h => ?_)
  · obtain ⟨a, i, rfl, _⟩ := h
    rfl
  refine ⟨_, PSs.nox (pss_one (ps_ret (pe_and (pe_callB call_isX rfl gI PyProof.Rows.boot_isinstance (pa_cons (pv 0) (pa_cons (pe_glob (v := .ref (c 30)) rfl (T.g 30 _ rfl) rfl) pa_nil))) (pe_one (pe_callB call_isX rfl gI PyProof.Rows.boot_isinstance (pa_cons (pv 0) (pa_cons (pe_bltn (v := .ty "ValueError") rfl gV (by decide +kernel) rfl) pa_nil))))))), ?_⟩
  obtain ⟨a, i, rfl, hi, hx, k⟩ := h
  exact ⟨_, rfl, a, c i, _, _, _, rfl, hx, T.ask i hi, (fun u r => r), T.spread i hi, _, rfl, show _ from ⟨_, rfl, a, c i, _, _, _, rfl, hx, T.ask i hi, (fun u r => r), T.valErr i hi, k⟩⟩
theorem scCode : FnScope ["_law_error", "_law_found", "_law_at"] ["_law_error"] (defScope sCode) := ⟨rfl, rfl, rfl, by decide +kernel, rfl, by decide +kernel, by decide +kernel⟩
theorem ok_code {f : Addr} {fd : FuncData} (F : FnP K "_law_code" sCode f fd) (T : Tab P K mg c) (gI : mg "isinstance" = none) (gL : mg "len" = none) (gR : mg "range" = none) : FnOk P w K mg base CX0 1 f fd ["_law_error"] (spCode c) := by
  refine F.ok scCode (fun vs H Q E h => ?_) (fun cdv A outer s H vs Q E hr h => ?_)
  · obtain ⟨a, i, rfl, _⟩ := h
    rfl
  refine ⟨_, PSs.nox (pss_cons (ps_set (i := 1) scCode.nd rfl (Or.inr rfl) (pe_isl (by rw [PySem.sizeLine_eq]; show (3 : Nat) ≤ _; decide) (pa_is T (by decide) gI rfl rfl (Or.inl rfl) rfl (T.g 0 _ rfl) (pa_is T (by decide) gI rfl rfl (Or.inl rfl) rfl (T.g 1 _ rfl) (pa_is T (by decide) gI rfl rfl (Or.inl rfl) rfl (T.g 2 _ rfl) pa_is0)))))
      (pss_cons (ps_set (i := 1) scCode.nd rfl (Or.inr rfl) (pe_op op_cat (pv 1) (pe_isl (by rw [PySem.sizeLine_eq]; show (2 : Nat) ≤ _; decide) (pa_is T (by decide) gI rfl rfl (Or.inl rfl) rfl (T.g 3 _ rfl) (pa_is T (by decide) gI rfl rfl (Or.inl rfl) rfl (T.g 4 _ rfl) pa_is0)))))
      (pss_cons (ps_set (i := 1) scCode.nd rfl (Or.inr rfl) (pe_op op_cat (pv 1) (pe_isl (by rw [PySem.sizeLine_eq]; show (2 : Nat) ≤ _; decide) (pa_is T (by decide) gI rfl rfl (Or.inl rfl) rfl (T.g 5 _ rfl) (pa_is T (by decide) gI rfl rfl (Or.inl rfl) rfl (T.g 6 _ rfl) pa_is0)))))
      (pss_cons (ps_set (i := 1) scCode.nd rfl (Or.inr rfl) (pe_op op_cat (pv 1) (pe_isl (by rw [PySem.sizeLine_eq]; show (2 : Nat) ≤ _; decide) (pa_is T (by decide) gI rfl rfl (Or.inl rfl) rfl (T.g 7 _ rfl) (pa_is T (by decide) gI rfl rfl (Or.inl rfl) rfl (T.g 8 _ rfl) pa_is0)))))
      (pss_cons (ps_set (i := 1) scCode.nd rfl (Or.inr rfl) (pe_op op_cat (pv 1) (pe_isl (by rw [PySem.sizeLine_eq]; show (2 : Nat) ≤ _; decide) (pa_is T (by decide) gI rfl rfl (Or.inl rfl) rfl (T.g 9 _ rfl) (pa_is T (by decide) gI rfl rfl (Or.inl rfl) rfl (T.g 10 _ rfl) pa_is0)))))
      (pss_cons (ps_set (i := 1) scCode.nd rfl (Or.inr rfl) (pe_op op_cat (pv 1) (pe_isl (by rw [PySem.sizeLine_eq]; show (2 : Nat) ≤ _; decide) (pa_is T (by decide) gI rfl rfl (Or.inl rfl) rfl (T.g 11 _ rfl) (pa_is T (by decide) gI rfl rfl (Or.inl rfl) rfl (T.g 12 _ rfl) pa_is0)))))
      (pss_cons (ps_set (i := 1) scCode.nd rfl (Or.inr rfl) (pe_op op_cat (pv 1) (pe_isl (by rw [PySem.sizeLine_eq]; show (2 : Nat) ≤ _; decide) (pa_is T (by decide) gI rfl rfl (Or.inl rfl) rfl (T.g 13 _ rfl) (pa_is T (by decide) gI rfl rfl (Or.inl rfl) rfl (T.g 14 _ rfl) pa_is0)))))
      (pss_cons (ps_set (i := 1) scCode.nd rfl (Or.inr rfl) (pe_op op_cat (pv 1) (pe_isl (by rw [PySem.sizeLine_eq]; show (2 : Nat) ≤ _; decide) (pa_is T (by decide) gI rfl rfl (Or.inl rfl) rfl (T.g 15 _ rfl) (pa_is T (by decide) gI rfl rfl (Or.inl rfl) rfl (T.g 16 _ rfl) pa_is0)))))
      (pss_cons (ps_set (i := 1) scCode.nd rfl (Or.inr rfl) (pe_op op_cat (pv 1) (pe_isl (by rw [PySem.sizeLine_eq]; show (2 : Nat) ≤ _; decide) (pa_is T (by decide) gI rfl rfl (Or.inl rfl) rfl (T.g 17 _ rfl) (pa_is T (by decide) gI rfl rfl (Or.inl rfl) rfl (T.g 18 _ rfl) pa_is0)))))
      (pss_cons (ps_set (i := 1) scCode.nd rfl (Or.inr rfl) (pe_op op_cat (pv 1) (pe_isl (by rw [PySem.sizeLine_eq]; show (2 : Nat) ≤ _; decide) (pa_is T (by decide) gI rfl rfl (Or.inl rfl) rfl (T.g 19 _ rfl) (pa_is T (by decide) gI rfl rfl (Or.inl rfl) rfl (T.g 20 _ rfl) pa_is0)))))
      (pss_cons (ps_set (i := 1) scCode.nd rfl (Or.inr rfl) (pe_op op_cat (pv 1) (pe_isl (by rw [PySem.sizeLine_eq]; show (2 : Nat) ≤ _; decide) (pa_is T (by decide) gI rfl rfl (Or.inl rfl) rfl (T.g 21 _ rfl) (pa_is T (by decide) gI rfl rfl (Or.inl rfl) rfl (T.g 22 _ rfl) pa_is0)))))
      (pss_cons (ps_set (i := 1) scCode.nd rfl (Or.inr rfl) (pe_op op_cat (pv 1) (pe_isl (by rw [PySem.sizeLine_eq]; show (3 : Nat) ≤ _; decide) (pa_is T (by decide) gI rfl rfl (Or.inl rfl) rfl (T.g 23 _ rfl) (pa_is T (by decide) gI rfl rfl (Or.inl rfl) rfl (T.g 24 _ rfl) (pa_is T (by decide) gI rfl rfl (Or.inl rfl) rfl (T.g 25 _ rfl) pa_is0))))))
      (pss_cons (ps_set (i := 1) scCode.nd rfl (Or.inr rfl) (pe_op op_cat (pv 1) (pe_isl (by rw [PySem.sizeLine_eq]; show (3 : Nat) ≤ _; decide) (pa_is T (by decide) gI rfl rfl (Or.inl rfl) rfl (T.g 26 _ rfl) (pa_is T (by decide) gI rfl rfl (Or.inl rfl) rfl (T.g 27 _ rfl) (pa_is T (by decide) gI rfl rfl (Or.inl rfl) rfl (T.g 28 _ rfl) pa_is0))))))
      (pss_cons (ps_set (i := 1) scCode.nd rfl (Or.inr rfl) (pe_op op_cat (pv 1) (pe_isl (by rw [PySem.sizeLine_eq]; show (1 : Nat) ≤ _; decide) (pa_is T (by decide) gI rfl rfl (Or.inl rfl) rfl (T.g 29 _ rfl) pa_is0))))
      (pss_one (ps_ret (pe_lc (own := [("_law_at", 2)]) (g := gName 2) (tt := tB (tOp (rIxL K) (tVar 1) (tVar 2))) rfl scCode.nd (pi_range1 rfl gR (pa_cons (pe_callB call_len rfl gL boot_len (pa_cons (pv 1) pa_nil)) pa_nil))
      (blkOk_by (N := ["_law_error", "_law_found", "_law_at"]) (sc := defScope sCode) (by decide +kernel)) (fun _ _ _ _ _ => pg_name (i := 2) scCode.nd rfl (Or.inl rfl)) (fun _ _ _ _ _ => pts_one (pt_val (pe_ix ix_list (pv 1) (pv 2) (fun _ _ => rfl)))) (fun _ _ _ _ _ => pv 2)))))))))))))))))), ?_⟩
  obtain ⟨a, i, rfl, hi, hx, k⟩ := h
  refine ⟨a, i, rfl, hi, hx, fun l H1 s1 n1 e1 => ?_⟩
  refine isl_step hi hx s1 e1 (by rw [PySem.sizeLine_eq]; decide) fun l H1 s1 n1 e1 => ?_
  refine isl_step hi hx s1 e1 (by rw [PySem.sizeLine_eq]; decide) fun l H1 s1 n1 e1 => ?_
  refine isl_step hi hx s1 e1 (by rw [PySem.sizeLine_eq]; decide) fun l H1 s1 n1 e1 => ?_
  refine isl_step hi hx s1 e1 (by rw [PySem.sizeLine_eq]; decide) fun l H1 s1 n1 e1 => ?_
  refine isl_step hi hx s1 e1 (by rw [PySem.sizeLine_eq]; decide) fun l H1 s1 n1 e1 => ?_
  refine isl_step hi hx s1 e1 (by rw [PySem.sizeLine_eq]; decide) fun l H1 s1 n1 e1 => ?_
  refine isl_step hi hx s1 e1 (by rw [PySem.sizeLine_eq]; decide) fun l H1 s1 n1 e1 => ?_
  refine isl_step hi hx s1 e1 (by rw [PySem.sizeLine_eq]; decide) fun l H1 s1 n1 e1 => ?_
  refine isl_step hi hx s1 e1 (by rw [PySem.sizeLine_eq]; decide) fun l H1 s1 n1 e1 => ?_
  refine isl_step hi hx s1 e1 (by rw [PySem.sizeLine_eq]; decide) fun l H1 s1 n1 e1 => ?_
  refine isl_step hi hx s1 e1 (by rw [PySem.sizeLine_eq]; decide) fun l H1 s1 n1 e1 => ?_
  refine isl_step hi hx s1 e1 (by rw [PySem.sizeLine_eq]; decide) fun l H1 s1 n1 e1 => ?_
  refine isl_step hi hx s1 e1 (by rw [PySem.sizeLine_eq]; decide) fun l H1 s1 n1 e1 => ?_
  have e2 : H1 l = some (.lst (bls i (List.range 30))) := e1
  clear e1
  refine ⟨_, rfl, _, _, rfl, .inl ⟨_, SqL.of e2, rfl⟩, _, rfl, ?_⟩
  have hlen : (((bls i (List.range 30)).length : Nat) : Int) = 30 := by simp [bls]
  rw [hlen]
  refine ⟨by decide, by decide, fun D hD => ?_⟩
  refine lc_range (lo := 0) (n := 30) (fun m H' => Same H1 H' ∧ H' D = some (.lst (((List.range m).filter fun j => decide (i = j)).map fun (j : Nat) => V.int (j : Int)))) ⟨fun b o z => (upd_ne (ne_of_none z hD)).trans z, upd_same⟩ ?_ ?_
  · rintro m H' hm ⟨hs, hd⟩
    have hg : atI (bls i (List.range 30)) (0 + (m : Int)) = some (.bl (decide (i = m))) := by rw [Int.zero_add]; exact atI_nat (j := m) (by simp [bls, hm])
    refine ⟨rfl, _, rfl, _, rfl, l, _, _, _, rfl, rfl, SqL.of (hs _ _ e2), hg, _, rfl, ite2 (fun hT => ?_) (fun hF => ?_)⟩
    · have hT' : i = m := of_decide_eq_true hT
      refine ⟨_, rfl, _, hd, ?_, fun b o z => (upd_ne (ne_of_none z hD)).trans (hs b o z), ?_⟩
      · rw [List.length_map, PySem.sizeLine_eq]
        have := List.length_filter_le (fun j => decide (i = j)) (List.range m)
        rw [List.length_range] at this
        omega
      · rw [upd_same, List.range_succ, List.filter_append, List.map_append]
        simp [hT']
    · have hF' : i ≠ m := fun z => hF (decide_eq_true z)
      refine ⟨hs, ?_⟩
      rw [hd, List.range_succ, List.filter_append, List.map_append]
      simp [hF']
  · rintro H' ⟨hs, hd⟩
    refine k D H' (s1.trans hs) (Same.free s1 hD) ?_
    rw [hd, codes_eq i hi]
end
end K1
set_option Elab.async false
set_option linter.all false
set_option maxRecDepth 100000
set_option maxHeartbeats 4000000
/-! Grd: defs that are entered with no repr under way (repr asks for it): FnG, called, walked, ended. -/
namespace Grd
open PySem PySem.Spec PyProof.Rows L2
/-- room, and no repr under way -/
structure RoomG (k : Nat) (A : Around) : Prop where
  r : Room k A
  g : A.guards = some []
theorem RoomG.deeper {k : Nat} {A : Around} (h : RoomG (k + 1) A) (env : Env) : RoomG k (A.deeper env) := ⟨h.r.deeper env, h.g⟩
theorem RoomG.mono {j k : Nat} {A : Around} (r : RoomG k A) (h : j ≤ k) : RoomG j A := ⟨r.r.mono h, r.g⟩
structure FnG (P : Program) (w : World) (K : PySem.W.Frag) (mg : Str → Option Value) (base : Heap) (k : Nat) (f : Addr) (fd : FuncData) (ps : List Str) (sp : Sp) : Prop where
  len : ∀ vs H Q E, sp vs H Q E → vs.length = ps.length
  run : ∀ (A : Around) (outer : List Env) (s : Shared) (H : Hp) (args : Args) (us : List Value) (vs : List V) (Q : VK) (E : XK), RoomG k A → Env0 P w K mg base A outer s H → BindsTo s fd args (ps.zip us) → Vals vs us → sp vs H Q E →
    codeAny (model P w) A (.call (.ref f) args) (CR CX0 outer P w H s Q E) s
section
variable {P : Program} {w : World} {K : PySem.W.Frag} {mg : Str → Option Value} {base : Heap} {x qual : Str} {params : Arguments} {body : List Stmt} {scope : Scope} {dvs : List V} {kws : List (Str × V)} {f : Addr} {fd : FuncData}
theorem okG {N ps : List Str} {k : Nat} {sp : Sp} (F : FunD K x qual params body scope dvs kws f fd) (S : FnScope N ps scope) (len : ∀ vs H Q E, sp vs H Q E → vs.length = ps.length)
    (hbody : ∀ (cdv : Value) (A : Around) (outer : List Env) (s : Shared) (H : Hp) (vs : List V) (Q : VK) (E : XK), RoomG k (A.deeper (envOfC qual scope s.heap.objs.size f cdv)) → sp vs H Q E →
      ∃ t, PSs (cxOf CX0 P w K mg base N qual scope f cdv A outer s H E) body t ∧ t { nx := fun _ H' => Q .non H', rt := Q } (start N vs) H) : FnG P w K mg base (k + 1) f fd ps sp := by
  obtain ⟨oc, od, dV, kV, doc, pm, an, cdv, ct, osl, rfl, lk, hcd, _, _⟩ := F.ex
  refine ⟨len, fun A outer s H args us vs Q E hr e0 hb r hsp => ?_⟩
  have hl := len _ _ _ _ hsp
  have old : ∀ b o, base.get? b = some o → s.heap.get? b = some o := fun b o e => (e0.bs b o e).1
  have KX : K.In s.heap := e0.mod.kin.keeps old
  refine codeAny_call_function hr.r.depth (KX _ _ lk) rfl S.co S.gen rfl (PySem.W.codeRec_of KX hcd) (hb _ _ _ _ ?_)
  have hkind : ∀ y ∈ ps.zip us, scope.names.lookup y.1 = some .local ∨ (scope.names.lookup y.1 = some .cell ∧ ((cellsFrom (s.heap.objs.size + 1) scope.names []).lookup y.1).isSome = true) := by
    rintro ⟨n, v⟩ hy
    exact (S.par n (List.of_mem_zip hy).1).imp _root_.id fun q => ⟨q, PySem.W.cellsFrom_some _ _ _ (.inl q)⟩
  refine wpAny_newFunctionEnv_cells S.kind hkind fun env he s1 xc => ?_
  subst he
  obtain ⟨t, ht, hq⟩ := hbody cdv A outer s H vs Q E (hr.deeper _) hsp
  refine ⟨(e0.mod.nolimit.keeps old).keeps xc.toInCall.keep, codeAny_func (wpAny_mono (ht.run [] s1 (start N vs) H _ (inv_start S hr.r.hd e0 hl r xc) hq) (fun fl s' hs => ?_) fun e s' hs => hs)⟩
  cases fl with
  | ret u =>
    obtain ⟨v, σ', H', J, rv, q⟩ := hs
    exact ⟨v, H', J.os, J.bare, J.base, J.hok, rv, q⟩
  | next =>
    obtain ⟨σ', H', J, q⟩ := hs
    exact ⟨V.non, H', J.os, J.bare, J.base, J.hok, rfl, q⟩
  | brk => obtain ⟨_, _, _, q⟩ := hs; exact False.elim q
  | cont => obtain ⟨_, _, _, q⟩ := hs; exact False.elim q
end
section
variable {X : Cx} {k : Nat} {f : Addr} {fd : FuncData} {ps : List Str} {sp : Sp} {dvs : List V} {ds : List Value} {x : Str} {p pos : Pos} {e : Expr} {es : List Expr} {t : TA}
theorem runG {pins : List (Addr × Obj)} {σ : L2.St} {H : Hp} {s : Shared} {Q : VK} {us : List Value} {vs : List V} (F : FnG X.prog X.w X.K X.mg X.base k f fd ps sp) (hr : RoomG k X.A) (hb : Binds X.K fd ps [])
    (I : Inv X pins σ H s) (r : Vals vs us) (h : sp vs H Q E0) : wpAny (model X.prog X.w) X.A (call (.ref f) us) (EP X pins σ Q) X.xe s := by
  have hl : (us ++ []).length = ps.length := by rw [List.append_nil, ← r.length]; exact F.len _ _ _ _ h
  have hb' := hb s us I.kIn hl
  rw [List.append_nil] at hb'
  refine wpAny_call (codeAny_mono (F.run X.A X.stack s H ⟨us, []⟩ us vs Q E0 hr I.env0 hb' r h) fun r s' hq => ?_)
  cases r with
  | error e => exact False.elim hq
  | ok fl =>
    cases fl with
    | ret u => exact I.after hq
    | next => exact False.elim hq
    | brk => exact False.elim hq
    | cont => exact False.elim hq
/-- f(..), every parameter given -/
theorem pe_callG (F : FnG X.prog X.w X.K X.mg X.base k f fd ps sp) (hr : RoomG k X.A) (hg : Gl X x) (hm : X.mg x = some (.ref f)) (hk : PySem.W.keepIn X.K (.ref f) = true) (hb : Binds X.K fd ps [])
    (ha : PA X (e :: es) t) (hdb : (x == ("__debug__" : Str)) = false := by decide) (he : starEach (e :: es) X.env = (false, eval e X.env) :: starEach es X.env := by rfl) (hpl : (backTo pos (starEach es X.env)).any (·.1) = false := by rfl) :
    PE X (.Call (.Name x p) (e :: es) [] pos) (fun σ H Q => t σ H fun vs H1 => sp vs H1 Q E0) := by
  refine ⟨fun pins s σ H Q I h => wpAny_Call_Name_kw (ld_glob I hg hm ?_ hdb)⟩
  exact PySem.W.callWith_K (h₀ := X.base) I.ok.mod.kin hk (thn (ha.run pos pins s σ H _ I h) fun us s1 ⟨vs, H1, I1, r, q⟩ => ⟨I1.kIn, runG F hr hb I1 r q⟩) he hpl
end
end Grd
set_option Elab.async false
set_option linter.all false
set_option maxRecDepth 100000
set_option maxHeartbeats 4000000
/-! Rpr: repr of data over the layer, dicts too. -/
namespace Grd
open PySem PySem.Spec PyProof.Rows L2
mutual
/-- the value v is the datum d -/
inductive Rp (H : Hp) : V → PyData → Prop
  | non : Rp H .non .none
  | bl (b : Bool) : Rp H (.bl b) (.bool b)
  | int (i : Int) : Rp H (.int i) (.int i)
  | str (x : Str) : Rp H (.str x) (.str x)
  | lst {a : Addr} {xs : List V} {ds : List PyData} : H a = some (.lst xs) → RpAll H xs ds → Rp H (.ref a) (.list ds)
  | tup {a : Addr} {xs : List V} {ds : List PyData} : H a = some (.tup xs) → RpAll H xs ds → Rp H (.ref a) (.tuple ds)
  | dct {a : Addr} {kvs : List (Key × V)} {ds : List (PyData × PyData)} : H a = some (.dK kvs) → RpAll H (kvs.map fun p => kV p.1) (ds.map (·.1)) → RpAll H (kvs.map (·.2)) (ds.map (·.2)) → Rp H (.ref a) (.dict ds)
inductive RpAll (H : Hp) : List V → List PyData → Prop
  | nil : RpAll H [] []
  | cons {v : V} {vs : List V} {d : PyData} {ds : List PyData} : Rp H v d → RpAll H vs ds → RpAll H (v :: vs) (d :: ds)
end
theorem key_vals {P : Program} {w : World} : ∀ {es : List DictEntry} {kvs : List (Key × V)} {vs : List (Key × Value)}, KV kvs vs → Pairs (mixKind P w) es vs → Vals (kvs.map fun p => kV p.1) (es.map (·.key)) ∧ Vals (kvs.map (·.2)) (es.map (·.val))
  | _, _, _, .nil, .nil => ⟨.nil, .nil⟩
  | e :: es, p :: kvs, q :: vs, .cons r rs, .cons h1 h2 hs => by
    obtain ⟨i1, i2⟩ := key_vals rs hs
    obtain ⟨e1, e2⟩ := r
    refine ⟨.cons ?_ i1, .cons (by show RelV p.2 e.val; rw [h2]; exact e2) i2⟩
    have h3 : keyIs q.1 e.key = true := h1
    show RelV (kV p.1) e.key
    rw [e1]
    rcases keyIs_shape h3 with ⟨i, t, z1, z2⟩ | ⟨x, t, z1, z2⟩
    · rw [z1, z2]; exact ⟨t, rfl⟩
    · rw [z1, z2]; exact ⟨t, rfl⟩
section
variable {X : Cx} {pins : List (Addr × Obj)} {σ : L2.St} {H : Hp} {s : Shared}
theorem no_sys (I : Inv X pins σ H s) (hS : (X.K.lookup sysModules).isSome = true) {a : Addr} {o : HO} (h : H a = some o) : sysModules ≠ a := by
  rintro rfl
  obtain ⟨ob, e⟩ := Option.isSome_iff_exists.mp hS
  have z := (I.bs _ _ (I.mod.kin _ _ e)).2
  rw [h] at z
  cases z
mutual
theorem Rp.reads (I : Inv X pins σ H s) (hS : (X.K.lookup sysModules).isSome = true) : ∀ {v : V} {d : PyData}, Rp H v d → ∀ u : Value, RelV v u → ∃ as, Reads s.heap u d as ∧ sysModules ∉ as
  | _, _, .non, _, r => by
    cases r
    exact ⟨_, Reads.none, List.not_mem_nil⟩
  | _, _, .bl b, _, r => by
    cases r
    exact ⟨_, Reads.bool b, List.not_mem_nil⟩
  | _, _, .int i, _, r => by
    obtain ⟨t, rfl⟩ := r
    exact ⟨_, Reads.int i t, List.not_mem_nil⟩
  | _, _, .str x, _, r => by
    obtain ⟨t, rfl⟩ := r
    exact ⟨_, Reads.str x t, List.not_mem_nil⟩
  | _, _, .lst hs ha, _, r => by
    cases r
    obtain ⟨its, rv, ⟨o, n, ho, hc, _, hd⟩, _⟩ := I.list (SqL.of hs)
    obtain ⟨as, hr, hn⟩ := RpAll.reads I hS ha its rv
    refine ⟨_, Reads.list ho hc hd hr, fun z => ?_⟩
    rcases List.mem_cons.mp z with z | z
    · exact no_sys I hS hs z
    · exact hn z
  | _, _, .tup hs ha, _, r => by
    cases r
    obtain ⟨its, rv, ⟨o, ho, hc, n, hd⟩, _⟩ := I.tuple (SqT.of hs)
    obtain ⟨as, hr, hn⟩ := RpAll.reads I hS ha its rv
    exact ⟨_, Reads.tuple ho hc hd hr, hn⟩
  | _, _, .dct hs hk hv, _, r => by
    cases r
    obtain ⟨hz, hsm, vs, rel, o, es, ep, ho, hx, hd, hko, hp, hnd⟩ := dk_of I.hok hs
    obtain ⟨i1, i2⟩ := key_vals rel hp
    obtain ⟨as, hr, hn⟩ := RpAll.reads I hS hk _ i1
    obtain ⟨bs, hr2, hn2⟩ := RpAll.reads I hS hv _ i2
    refine ⟨_, Reads.dict ho hx.1 hd hr hr2, fun z => ?_⟩
    rcases List.mem_append.mp z with z | z
    · rcases List.mem_cons.mp z with z | z
      · exact no_sys I hS hs z
      · exact hn z
    · exact hn2 z
theorem RpAll.reads (I : Inv X pins σ H s) (hS : (X.K.lookup sysModules).isSome = true) : ∀ {vs : List V} {ds : List PyData}, RpAll H vs ds → ∀ us : List Value, Vals vs us → ∃ as, ReadsAll s.heap us ds as ∧ sysModules ∉ as
  | _, _, .nil, _, r => by
    cases r
    exact ⟨_, ReadsAll.nil, List.not_mem_nil⟩
  | _, _, .cons h1 h2, _, r => by
    cases r with
    | cons r1 r2 =>
      obtain ⟨as, q1, n1⟩ := Rp.reads I hS h1 _ r1
      obtain ⟨bs, q2, n2⟩ := RpAll.reads I hS h2 _ r2
      exact ⟨_, ReadsAll.cons q1 q2, fun z => (List.mem_append.mp z).elim n1 n2⟩
end
def rRep : List V → Hp → VK → Prop := fun xs H Q => ∃ v d, xs = [v] ∧ Rp H v d ∧ d.showable = true ∧ d.depth ≤ 10 ∧ d.shown.length ≤ sizeLine ∧ Q (.str d.shown) H
theorem call_repr (hg : X.A.guards = some []) (hu : X.A.units + 64 < cLine) (hS : (X.K.lookup sysModules).isSome = true) : CallR X (.builtin "repr") rRep := by
  intro pins s σ H xs us Q I r h
  obtain ⟨v, d, rfl, hr, hs, hd, hl, q⟩ := h
  obtain ⟨u, rfl, rx⟩ := vals1 r
  cases hr with
  | non =>
    cases rx
    exact PySem.P.repr_of_none ⟨.str _, H, I.tok _, ⟨_, rfl⟩, q⟩
  | bl b =>
    cases rx
    exact PySem.P.repr_of_bool ⟨.str _, H, I.tok _, ⟨_, rfl⟩, by simpa only [PyData.shown] using q⟩
  | int i =>
    obtain ⟨t, rfl⟩ := rx
    exact PySem.P.repr_of_int (by simpa [PyData.showable] using hs) ⟨.str _, H, I.tok _, ⟨_, rfl⟩, q⟩
  | str x =>
    obtain ⟨t, rfl⟩ := rx
    exact PySem.P.repr_of_str ⟨.str _, H, I.tok _, ⟨_, rfl⟩, q⟩ (by simpa only [PyData.shown] using hl)
  | lst e ha =>
    cases rx
    obtain ⟨as, rd, hn⟩ := Rp.reads I hS (.lst e ha) _ rfl
    exact repr_of_reads' rd hs (fun _ => hn) hg (by omega) (fun _ _ z => z) (fun h' u tk hk => ⟨.str _, H, I.kept (t' := tk) hk, ⟨_, rfl⟩, q⟩) hl
  | tup e ha =>
    cases rx
    obtain ⟨as, rd, hn⟩ := Rp.reads I hS (.tup e ha) _ rfl
    exact repr_of_reads' rd hs (fun _ => hn) hg (by omega) (fun _ _ z => z) (fun h' u tk hk => ⟨.str _, H, I.kept (t' := tk) hk, ⟨_, rfl⟩, q⟩) hl
  | dct e ha hv =>
    cases rx
    obtain ⟨as, rd, hn⟩ := Rp.reads I hS (.dct e ha hv) _ rfl
    exact repr_of_reads' rd hs (fun _ => hn) hg (by omega) (fun _ _ z => z) (fun h' u tk hk => ⟨.str _, H, I.kept (t' := tk) hk, ⟨_, rfl⟩, q⟩) hl
end
end Grd
set_option Elab.async false
set_option linter.all false
set_option maxRecDepth 100000
set_option maxHeartbeats 4000000
/-! K1r: right: each of 28 exceptions is of its own kind, its value shows as noted. -/
namespace K1
open PySem PySem.Spec PyProof.Rows L2 XM Grd
abbrev sRight : Stmt := top 44
abbrev sLaw : Stmt := top 45
def ones (o n : Nat) : List PyData := (List.range' o n).map fun (j : Nat) => .list [.int (j : Int)]
theorem dpAll_of {K : PySem.W.Frag} {H : Hp} {f : Nat → PyData} : ∀ (rs : List V) (k : Nat), (∀ j x, rs[j]? = some x → Dp K H x (f (k + j))) → DpAll K H rs ((List.range' k rs.length).map f)
  | [], _, _ => .nil
  | x :: rs, k, h => by
    refine .cons (h 0 x rfl) (dpAll_of rs (k + 1) fun j y e => ?_)
    have z := h (j + 1) y (by simpa using e)
    rwa [show k + (j + 1) = k + 1 + j by omega] at z
/-- at D a list of n lists [o + j] -/
def OnesAt (o : Nat) (H : Hp) (D : Addr) (rs : List V) (n : Nat) : Prop := H D = some (.lst rs) ∧ rs.length = n ∧ ∀ (j : Nat) x, rs[j]? = some x → ∃ q, x = .ref q ∧ q ≠ D ∧ H q = some (.lst [.int ((o + j : Nat) : Int)])
theorem OnesAt.dp {o : Nat} {K : PySem.W.Frag} {H : Hp} {D : Addr} {rs : List V} {n : Nat} (h : OnesAt o H D rs n) : Dp K H (.ref D) (.list (ones o n)) := by
  obtain ⟨h1, h2, h3⟩ := h
  refine .lst (SqL.of h1) ?_
  unfold ones
  rw [← h2]
  refine dpAll_of (f := fun (j : Nat) => .list [.int (j : Int)]) rs o fun j x e => ?_
  obtain ⟨q, rfl, _, hq⟩ := h3 j x e
  exact .lst (SqL.of hq) (.cons (.int _) .nil)
theorem OnesAt.same {o : Nat} {H H' : Hp} {D : Addr} {rs : List V} {n : Nat} (h : OnesAt o H D rs n) (s : Same H H') : OnesAt o H' D rs n := by
  obtain ⟨h1, h2, h3⟩ := h
  refine ⟨s _ _ h1, h2, fun j x e => ?_⟩
  obtain ⟨q, e1, ne, hq⟩ := h3 j x e
  exact ⟨q, e1, ne, s _ _ hq⟩
theorem OnesAt.push {o : Nat} {H : Hp} {D q : Addr} {rs : List V} {n : Nat} (h : OnesAt o H D rs n) (hq : H q = some (.lst [.int ((o + n : Nat) : Int)])) (ne : q ≠ D) : OnesAt o (L2.upd H D (.lst (rs ++ [.ref q]))) D (rs ++ [.ref q]) (n + 1) := by
  obtain ⟨h1, h2, h3⟩ := h
  refine ⟨upd_same, by rw [List.length_append, h2]; rfl, fun j x e => ?_⟩
  by_cases hj : j < rs.length
  · rw [List.getElem?_append_left hj] at e
    obtain ⟨q', e1, ne', hq'⟩ := h3 j x e
    exact ⟨q', e1, ne', (upd_ne ne').trans hq'⟩
  · rw [List.getElem?_append_right (by omega)] at e
    have : j = rs.length := by
      by_cases z : j - rs.length = 0
      · omega
      · rw [List.getElem?_eq_none (by simp; omega)] at e
        cases e
    subst this
    simp at e
    refine ⟨q, e.symm, ne, (upd_ne ne).trans ?_⟩
    rw [hq, h2]
def spRight (c : Nat → Addr) : Sp := fun vs H Q _ => ∃ (l : Addr) (es : List V) (v : V) (d : PyData), vs = [.ref l, .str d.shown] ∧ H l = some (.lst es) ∧ Exs H v (cs28 c) es ∧ Rp H v d ∧ d.showable = true ∧ d.depth ≤ 10 ∧ d.shown.length ≤ sizeLine ∧ ∀ H', Same H H' → Q (.bl true) H'
theorem cs28_at {c : Nat → Addr} {i : Nat} {C : Addr} (h : (cs28 c)[i]? = some C) : i < 28 ∧ C = c i := by
  unfold cs28 at h
  by_cases hi : i < 28
  · rw [List.getElem?_map, List.getElem?_range hi] at h
    exact ⟨hi, (Option.some.inj h).symm⟩
  · rw [List.getElem?_eq_none (by simp; omega)] at h
    cases h
mutual
theorem Rp_same {H H' : Hp} (s : Same H H') : ∀ {v : V} {d : PyData}, Rp H v d → Rp H' v d
  | _, _, .non => .non
  | _, _, .bl b => .bl b
  | _, _, .int i => .int i
  | _, _, .str x => .str x
  | _, _, .lst h ha => .lst (s _ _ h) (RpAll_same s ha)
  | _, _, .tup h ha => .tup (s _ _ h) (RpAll_same s ha)
  | _, _, .dct h ha hb => .dct (s _ _ h) (RpAll_same s ha) (RpAll_same s hb)
theorem RpAll_same {H H' : Hp} (s : Same H H') : ∀ {vs : List V} {ds : List PyData}, RpAll H vs ds → RpAll H' vs ds
  | _, _, .nil => .nil
  | _, _, .cons h hr => .cons (Rp_same s h) (RpAll_same s hr)
end
theorem ones_lay : ∀ l : List Nat, PyData.canLayAll0 (l.map fun (j : Nat) => PyData.list [.int (j : Int)]) = true
  | [] => by simp only [List.map_nil, PyData.canLayAll0]
  | _ :: r => by simp only [List.map_cons, PyData.canLayAll0, PyData.canLay0, ones_lay r, Bool.and_self]
theorem ones_deep : ∀ l : List Nat, PyData.depthAll (l.map fun (j : Nat) => PyData.list [.int (j : Int)]) ≤ 1
  | [] => by simp only [List.map_nil, PyData.depthAll]; omega
  | _ :: r => by
    have := ones_deep r
    simp only [List.map_cons, PyData.depthAll, PyData.depth]
    omega
theorem ones_can (o n : Nat) : PyData.canLay0 (.list (ones o n)) = true := by
  simp only [PyData.canLay0]
  exact ones_lay _
theorem ones_eqv (o n : Nat) : PyData.eqv (.list (ones o n)) (.list (ones o n)) = true := SeqAt.eqv_refl _ (ones_can o n)
theorem ones_shaped (o n : Nat) : SeqAt.shaped (.list (ones o n)) = true := by
  unfold SeqAt.shaped
  rw [ones_can o n, Bool.true_and]
  refine decide_eq_true ?_
  have := ones_deep (List.range' o n)
  simp only [PyData.depth]
  unfold ones
  omega
theorem nil_shaped : SeqAt.shaped (.list []) = true := ones_shaped 0 0
theorem nil_eqv : PyData.eqv (.list []) (.list []) = true := ones_eqv 0 0
section
variable {X : Cx}
/-- x.value, x the name in the i-th slot -/
theorem pe_xvn (i : Nat) {x : Str} {p pos : Pos} (hN : X.N[i]? = some x := by rfl) (hv : Vis X.env.scope x := by first | exact Or.inl rfl | exact Or.inr (Or.inl rfl) | exact Or.inr (Or.inr rfl)) (hd : (x == ("__debug__" : Str)) = false := by decide)
    (hcd : (x == ("__classdict__" : Str)) = false := by decide) (hb : attributeBase (.Name x p) "value" X.env (eval (.Name x p) X.env) = eval (.Name x p) X.env := by rfl) : PE X (.Attribute (.Name x p) "value" pos) (tXv X.K (tVar i)) := pe_xv (pe_var hN hv hd hcd) hb
/-- repr(x.value) -/
theorem pe_rxv (i : Nat) {x : Str} {p p0 pos pos2 : Pos} (g : X.A.guards = some []) (hu : X.A.units + 64 < cLine) (hS : (X.K.lookup sysModules).isSome = true) (hg : Gl X "repr") (hm : X.mg "repr" = none)
    (hN : X.N[i]? = some x := by rfl) (hv : Vis X.env.scope x := by first | exact Or.inl rfl | exact Or.inr (Or.inl rfl) | exact Or.inr (Or.inr rfl)) (hd : (x == ("__debug__" : Str)) = false := by decide)
    (hcd : (x == ("__classdict__" : Str)) = false := by decide) (hb : attributeBase (.Name x p) "value" X.env (eval (.Name x p) X.env) = eval (.Name x p) X.env := by rfl) :
    PE X (.Call (.Name "repr" p0) [.Attribute (.Name x p) "value" pos] [] pos2) (tCB rRep (tCons (tXv X.K (tVar i)) tNil)) :=
  pe_callB (call_repr g hu hS) hg hm boot_repr (pa_cons (pe_xvn i hN hv hd hcd hb) pa_nil (by rfl))
end
section
variable {P : Program} {w : World} {K : PySem.W.Frag} {mg : Str → Option Value} {base : Heap} {c : Nat → Addr}
theorem scRight : FnScope ["_law_some", "_law_noted", "_law_error", "_law_at"] ["_law_some", "_law_noted"] (defScope sRight) := ⟨rfl, rfl, rfl, by decide +kernel, rfl, by decide +kernel, by decide +kernel⟩
theorem ok_right {f fC fI : Addr} {fd fdC fdI : FuncData} (F : FnP K "_law_right" sRight f fd) (T : Tab P K mg c) (hS : (K.lookup sysModules).isSome = true) (FC : FnP K "_law_code" sCode fC fdC) (gC : mg "_law_code" = some (.ref fC))
    (FI : FnP K "_law_is_error" sIsErr fI fdI) (gE : mg "_law_is_error" = some (.ref fI)) (gI : mg "isinstance" = none) (gV : mg "ValueError" = none) (gL : mg "len" = none) (gR : mg "range" = none) (gP : mg "repr" = none) :
    FnG P w K mg base 2 f fd ["_law_some", "_law_noted"] (spRight c) := by
  have GC : FnOk P w K mg base CX0 1 fC fdC ["_law_error"] (spCode c) := ok_code FC T gI gL gR
  have bC : Binds K fdC ["_law_error"] [] := FC.bindsN fun _ _ _ _ _ _ us hl => match us, hl with | [_], _ => rfl
  have GI : FnOk P w K mg base CX0 1 fI fdI ["_law_error"] (spIsErr c) := ok_iserr FI T gI gV
  have bI : Binds K fdI ["_law_error"] [] := FI.bindsN fun _ _ _ _ _ _ us hl => match us, hl with | [_], _ => rfl
  refine okG F scRight (fun vs H Q E h => ?_) (fun cdv A outer s H vs Q E hr h => ?_)
  · obtain ⟨l, es, v, d, rfl, _⟩ := h
    rfl
  refine ⟨_, PSs.nox (pss_cons (ps_if (pt_cmpR (op_neD hr.r.units)
      (pe_lc (own := [("_law_error", 2)]) (g := gName 2) (tt := tYes) rfl scRight.nd (pi_list (pv 0))
        (blkOk_by (N := ["_law_some", "_law_noted", "_law_error", "_law_at"]) (sc := defScope sRight) (by decide +kernel)) (fun _ _ _ _ _ => pg_name (i := 2) scRight.nd rfl (Or.inl rfl)) (fun _ _ _ _ _ => pts_nil)
        (fun _ _ _ _ _ => pe_call GC hr.r rfl gC FC.kp bC .nil pass0 (pa_cons (pv 2) pa_nil)))
      (pe_lc (own := [("_law_at", 3)]) (g := gName 3) (tt := tYes) rfl scRight.nd (pi_range1 rfl gR (pa_cons pe_int pa_nil))
        (blkOk_by (N := ["_law_some", "_law_noted", "_law_error", "_law_at"]) (sc := defScope sRight) (by decide +kernel)) (fun _ _ _ _ _ => pg_name (i := 3) scRight.nd rfl (Or.inl rfl)) (fun _ _ _ _ _ => pts_nil)
        (fun _ _ _ _ _ => pe_lst (pa_cons (pv 3) pa_nil)))
      (nomark _)) (pss_one (ps_ret pe_bl)) pss_nil)
    (pss_one (ps_ret (pe_cmpR (op_eqD hr.r.units)
      (pe_lc (own := [("_law_error", 2)]) (g := gName 2) (tt := tOr (tNot (tB (tCall (spIsErr c) [] E0 (tCons (tVar 2) tNil)))) (tTest (tOp rNe (tCB rRep (tCons (tXv K (tVar 2)) tNil)) (tVar 1)))) rfl scRight.nd (pi_list (pv 0))
        (blkOk_by (N := ["_law_some", "_law_noted", "_law_error", "_law_at"]) (sc := defScope sRight) (by decide +kernel)) (fun _ _ _ _ _ => pg_name (i := 2) scRight.nd rfl (Or.inl rfl))
        (fun _ _ _ _ _ => pts_one (PW.pt (pw_or (pt_not (pt_val (pe_call GI hr.r rfl gE FI.kp bI .nil pass0 (pa_cons (pv 2) pa_nil)))) (pw_or1 (pt_cmpR op_ne (pe_rxv 2 hr.g hr.r.units hS rfl gP) (pv 1) (nomark _))))))
        (fun _ _ _ _ _ => pv 2))
      (pe_lst pa_nil) (nomark _))))), ?_⟩
  obtain ⟨l, es, v, d, rfl, hl, hx, hp, hs1, hs2, hs3, k⟩ := h
  refine ⟨_, rfl, l, rfl, ⟨es, SqL.of hl⟩, fun D hD => ?_⟩
  have small : ∀ {rs : List V} {i : Nat} {H1 : Hp}, OnesAt 0 H1 D rs i → i < 28 → rs.length < sizeLine := fun h hi => by rw [h.2.1, PySem.sizeLine_eq]; omega
  refine lc_list (xs := es) (fun i H' => Same H H' ∧ ∃ rs, OnesAt 0 H' D rs i) ⟨fun b o z => (upd_ne (ne_of_none z hD)).trans z, [], upd_same, rfl, fun j x e => by simp at e⟩ (fun i H' _ h => Same.seq h.1 (SqL.of hl)) ?_ ?_
  · rintro i x H' hi ⟨hs, rs, ho⟩
    obtain ⟨a, C, dx, rfl, hC, hE⟩ := hx.at hi
    obtain ⟨hi28, rfl⟩ := cs28_at hC
    refine ⟨rfl, _, rfl, a, i, rfl, by omega, .inr ⟨dx, v, exa_keep hE (.same hs)⟩, fun q H2 s2 n2 e2 => ?_⟩
    have e3 : H2 q = some (.lst [.int ((0 + i : Nat) : Int)]) := by rw [e2, Nat.zero_add]; unfold codes; rw [if_pos (by omega)]
    have ne : q ≠ D := fun z => by rw [z, ho.1] at n2; cases n2
    refine ⟨rs, s2 _ _ ho.1, small ho hi28, fun b o z => (upd_ne (ne_of_none z hD)).trans (s2 _ _ (hs _ _ z)), _, (ho.same s2).push e3 ne⟩
  · rintro H1 ⟨hs1', rs, ho⟩
    rw [hx.len] at ho
    refine ⟨_, rfl, by decide, by decide, fun D2 hD2 => ?_⟩
    refine lc_range (lo := 0) (n := 28) (fun i H' => Same H1 H' ∧ ∃ rs, OnesAt 0 H' D2 rs i) ⟨fun b o z => (upd_ne (ne_of_none z hD2)).trans z, [], upd_same, rfl, fun j x e => by simp at e⟩ ?_ ?_
    · rintro i H' hi ⟨hs, rs2, ho2⟩
      refine ⟨rfl, _, rfl, by show 1 ≤ sizeLine; decide, fun q hq => ?_⟩
      have ne : q ≠ D2 := fun z => by rw [z, ho2.1] at hq; cases hq
      have sq : Same H' (L2.upd H' q (.lst [.int (0 + (i : Int))])) := fun b o z => (upd_ne (ne_of_none z hq)).trans z
      refine ⟨rs2, sq _ _ ho2.1, by rw [ho2.2.1, PySem.sizeLine_eq]; omega, fun b o z => (upd_ne (ne_of_none z hD2)).trans (sq _ _ (hs _ _ z)), _, (ho2.same sq).push (by rw [upd_same, Int.zero_add, Nat.zero_add]) ne⟩
    · rintro H2 ⟨hs2', rs2, ho2⟩
      refine ⟨.list (ones 0 28), .list (ones 0 28), (ho.same hs2').dp, ho2.dp, ones_shaped 0 28, ones_shaped 0 28, ?_⟩
      rw [ones_eqv]
      refine ⟨_, rfl, iteF ?_⟩
      have sH : Same H H2 := hs1'.trans hs2'
      refine ⟨_, rfl, l, rfl, ⟨es, Same.seq sH (SqL.of hl)⟩, fun D3 hD3 => ?_⟩
      refine lc_list (xs := es) (fun i H' => Same H2 H' ∧ H' D3 = some (.lst [])) ⟨fun b o z => (upd_ne (ne_of_none z hD3)).trans z, upd_same⟩ (fun i H' _ h => Same.seq (sH.trans h.1) (SqL.of hl)) ?_ ?_
      · rintro i x H' hi ⟨hs, ho3⟩
        obtain ⟨a, C, dx, rfl, hC, hE⟩ := hx.at hi
        obtain ⟨hi28, rfl⟩ := cs28_at hC
        have hE' : ExA H' a (c i) dx v := exa_keep hE (.same (sH.trans hs))
        refine ⟨rfl, _, rfl, a, i, rfl, by omega, .inr ⟨dx, v, hE'⟩, _, rfl, iteF ?_⟩
        refine ⟨_, rfl, a, c i, dx, v, rfl, hE', T.ask i (by omega), T.val i hi28, v, d, rfl, Rp_same (sH.trans hs) hp, hs1, hs2, hs3, _, rfl, rfl, ?_⟩
        exact ⟨_, rfl, iteNS rfl ⟨hs, ho3⟩⟩
      · rintro H3 ⟨hs, ho3⟩
        refine ⟨by show 0 ≤ sizeLine; omega, fun p hp => ?_⟩
        have sp : Same H3 (L2.upd H3 p (.lst [])) := fun b o z => (upd_ne (ne_of_none z hp)).trans z
        refine ⟨.list [], .list [], .lst (SqL.of (sp _ _ ho3)) .nil, .lst (SqL.of upd_same) .nil, nil_shaped, nil_shaped, ?_⟩
        rw [nil_eqv]
        exact k _ ((sH.trans hs).trans sp)
end
end K1
set_option Elab.async false
set_option linter.all false
set_option maxRecDepth 100000
set_option maxHeartbeats 4000000
/-! Fine: data whose shown text is short: Fine n d. -/
namespace Grd
open PySem PySem.Spec PyProof.Rows L2
theorem list_text (ts : List Str) : (listText ts).length ≤ piled ts + 2 := by
  cases ts with
  | nil => decide
  | cons t r =>
    unfold listText
    rw [strLen_append]
    show (textFrom 1 _ r).length + 1 ≤ _
    rw [textFrom_length_pos r 1 _ (by decide), strLen_append, strLen_append, piled_cons]
    show (1 + 0 + t.length + piled r) + 1 ≤ _
    omega
theorem tuple_text (ts : List Str) : (tupleText ts).length ≤ piled ts + 3 := by
  unfold tupleText
  rw [strLen_append, strLen_append]
  have e1 : ((("(" : String) : Str)).length = 1 := rfl
  have e3 : (((if ts.length == 1 then ",)" else ")" : String) : Str)).length ≤ 2 := by split <;> decide
  rw [e1]
  cases ts with
  | nil => have : (Str.join ", " []).length = 0 := rfl
           omega
  | cons t r => have := join_length_add (t :: r) (by simp)
                omega
theorem dict_text (ts : List Str) : (dictText ts).length ≤ piled ts + 2 := by
  unfold dictText
  rw [strLen_append, strLen_append]
  have e1 : ((("{" : String) : Str)).length = 1 := rfl
  have e3 : ((("}" : String) : Str)).length = 1 := rfl
  rw [e1, e3]
  cases ts with
  | nil => have : (Str.join ", " []).length = 0 := rfl
           omega
  | cons t r => have := join_length_add (t :: r) (by simp)
                omega
mutual
inductive Fine : Nat → PyData → Prop
  | non : Fine 4 .none
  | bl (b : Bool) : Fine 5 (.bool b)
  | int {i : Int} : i.natAbs < 2 ^ 40 → Fine 50 (.int i)
  | str {x : Str} : (∀ c ∈ x.cps.toList, c < 16 ^ 8) → Fine (10 * x.length + 2) (.str x)
  | list {n : Nat} {ds : List PyData} : FineAll n ds → Fine (n + 2) (.list ds)
  | tuple {n : Nat} {ds : List PyData} : FineAll n ds → Fine (n + 3) (.tuple ds)
  | dict {n : Nat} {ds : List (PyData × PyData)} : FineKv n ds → Fine (n + 2) (.dict ds)
inductive FineAll : Nat → List PyData → Prop
  | nil : FineAll 0 []
  | cons {a b : Nat} {d : PyData} {ds : List PyData} : Fine a d → FineAll b ds → FineAll (a + 2 + b) (d :: ds)
inductive FineKv : Nat → List (PyData × PyData) → Prop
  | nil : FineKv 0 []
  | cons {a c b : Nat} {k d : PyData} {ds : List (PyData × PyData)} : Fine a k → Fine c d → FineKv b ds → FineKv (a + 2 + c + 2 + b) ((k, d) :: ds)
end
theorem log_lt {n : Nat} (h : n < 2 ^ 40) : n.log2 < 41 := by
  by_cases h0 : n = 0
  · subst h0; decide
  · exact Nat.lt_succ_of_lt ((Nat.log2_lt h0).mpr h)
mutual
theorem Fine.ok : ∀ {n : Nat} {d : PyData}, Fine n d → d.showable = true ∧ d.shown.length ≤ n
  | _, _, .non => ⟨by simp only [PyData.showable], by simp only [PyData.shown]; decide⟩
  | _, _, .bl b => ⟨by simp only [PyData.showable], by simp only [PyData.shown]; cases b <;> decide⟩
  | _, _, .int (i := i) h => by
    have h1 := log_lt h
    refine ⟨by simp only [PyData.showable]; exact decide_eq_true (by omega), ?_⟩
    simp only [PyData.shown]
    have := int_text_length_le (a := i) (k := 41) (by decide) h1
    rw [PySem.ofString_length]
    omega
  | _, _, .str (x := x) h => ⟨by simp only [PyData.showable], by simp only [PyData.shown]; exact StrLaws.reprText_len x h⟩
  | _, _, .list h => by
    obtain ⟨h1, h2⟩ := FineAll.ok h
    refine ⟨by simp only [PyData.showable]; exact h1, ?_⟩
    simp only [PyData.shown]
    exact Nat.le_trans (list_text _) (Nat.add_le_add_right h2 _)
  | _, _, .tuple h => by
    obtain ⟨h1, h2⟩ := FineAll.ok h
    refine ⟨by simp only [PyData.showable]; exact h1, ?_⟩
    simp only [PyData.shown]
    exact Nat.le_trans (tuple_text _) (Nat.add_le_add_right h2 _)
  | _, _, .dict h => by
    obtain ⟨h1, h2⟩ := FineKv.ok h
    refine ⟨by simp only [PyData.showable]; exact h1, ?_⟩
    simp only [PyData.shown]
    exact Nat.le_trans (dict_text _) (Nat.add_le_add_right h2 _)
theorem FineAll.ok : ∀ {n : Nat} {ds : List PyData}, FineAll n ds → PyData.showableAll ds = true ∧ piled (PyData.shownAll ds) ≤ n
  | _, _, .nil => ⟨by simp only [PyData.showableAll], by simp only [PyData.shownAll]; decide⟩
  | _, _, .cons h hr => by
    obtain ⟨h1, h2⟩ := Fine.ok h
    obtain ⟨h3, h4⟩ := FineAll.ok hr
    refine ⟨by simp only [PyData.showableAll, h1, h3, Bool.and_self], ?_⟩
    simp only [PyData.shownAll, piled_cons]
    omega
theorem FineKv.ok : ∀ {n : Nat} {ds : List (PyData × PyData)}, FineKv n ds → PyData.showableKv ds = true ∧ piled (PyData.shownKv ds) ≤ n
  | _, _, .nil => ⟨by simp only [PyData.showableKv], by simp only [PyData.shownKv]; decide⟩
  | _, _, .cons h hd hr => by
    obtain ⟨h1, h2⟩ := Fine.ok h
    obtain ⟨h5, h6⟩ := Fine.ok hd
    obtain ⟨h3, h4⟩ := FineKv.ok hr
    refine ⟨by simp only [PyData.showableKv, h1, h3, h5, Bool.and_self], ?_⟩
    simp only [PyData.shownKv, piled_cons, strLen_append]
    have e : ((": " : String) : Str).length = 2 := rfl
    omega
end
/-- what repr asks of a datum -/
def Good (d : PyData) : Prop := d.showable = true ∧ d.depth ≤ 10 ∧ d.shown.length ≤ sizeLine
theorem Fine.good {n : Nat} {d : PyData} (h : Fine n d) (hn : n ≤ sizeLine) (hd : d.depth ≤ 10) : Good d := ⟨h.ok.1, hd, Nat.le_trans h.ok.2 hn⟩
end Grd
set_option Elab.async false
set_option linter.all false
set_option maxRecDepth 100000
set_option maxHeartbeats 4000000
/-! K1t: the eleven things. -/
namespace K1
open PySem PySem.Spec PyProof.Rows L2 XM Grd
theorem Word.good {w : Str} (h : Word w) : Fine (10 * w.length + 2) (.str w) := .str fun c hc => by
  have h1 : ∀ c ∈ abc.cps.toList, c < 16 ^ 8 := by decide +kernel
  exact h1 c (h.2.2 c hc)
theorem Word.len {w : Str} (h : Word w) : w.length ≤ 8 := by
  have := h.2.1
  rwa [show w.cps.toList.length = w.length from by simp [Str.length]] at this
theorem fine_lit (x : Str) (h : (x.cps.toList.all fun c => decide (c < 16 ^ 8)) = true) : Fine (10 * x.length + 2) (.str x) := .str fun c hc => of_decide_eq_true (List.all_eq_true.mp h c hc)
theorem fine_later : Fine 52 (.str "later") := fine_lit "later" (by decide +kernel)
theorem fine_LATER : Fine 52 (.str "LATER") := fine_lit "LATER" (by decide +kernel)
theorem fine_says : Fine 42 (.str "says") := fine_lit "says" (by decide +kernel)
theorem fine_odd : Fine 32 (.str "odd") := fine_lit "odd" (by decide +kernel)
theorem fine_1 : Fine 50 (.int 1) := .int (by decide)
theorem fine_2 : Fine 50 (.int 2) := .int (by decide)
/-- the list [w] -/
theorem fine_w {w : Str} (h : Word w) : Fine (10 * w.length + 2 + 2 + 0 + 2) (.list [.str w]) := .list (.cons h.good .nil)
theorem fine_wl {w : Str} (h : Word w) : Fine (10 * w.length + 2 + 2 + (52 + 2 + 0) + 2) (.list [.str w, .str "later"]) := .list (.cons h.good (.cons fine_later .nil))
theorem small_ {w : Str} {n : Nat} (h : Word w) (e : w.length ≤ 8 → n ≤ 16777216) : n ≤ sizeLine := by
  rw [PySem.sizeLine_eq]
  exact e h.len
theorem good_non : Good .none := Fine.good .non (by rw [PySem.sizeLine_eq]; decide) (by simp only [PyData.depth, PyData.depthAll, PyData.depthKv]; omega)
theorem good_bl (b : Bool) : Good (.bool b) := Fine.good (.bl b) (by rw [PySem.sizeLine_eq]; decide) (by simp only [PyData.depth, PyData.depthAll, PyData.depthKv]; omega)
theorem good_int {i : Int} (h : i.natAbs < 2 ^ 40) : Good (.int i) := Fine.good (.int h) (by rw [PySem.sizeLine_eq]; decide) (by simp only [PyData.depth, PyData.depthAll, PyData.depthKv]; omega)
theorem good_w {w : Str} (h : Word w) : Good (.str w) := Fine.good h.good (small_ h (by omega)) (by simp only [PyData.depth, PyData.depthAll, PyData.depthKv]; omega)
theorem good_t4 {w : Str} (h : Word w) : Good (.tuple [.str "says", .str w, .int 1, .int 2]) := Fine.good (.tuple (.cons fine_says (.cons h.good (.cons fine_1 (.cons fine_2 .nil))))) (small_ h (by omega)) (by simp only [PyData.depth, PyData.depthAll, PyData.depthKv]; omega)
theorem good_tl {w : Str} (h : Word w) : Good (.tuple [.str w, .list [.str w]]) := Fine.good (.tuple (.cons h.good (.cons (fine_w h) .nil))) (small_ h (by omega)) (by simp only [PyData.depth, PyData.depthAll, PyData.depthKv]; omega)
theorem good_tl' {w : Str} (h : Word w) : Good (.tuple [.str w, .list [.str w, .str "later"]]) := Fine.good (.tuple (.cons h.good (.cons (fine_wl h) .nil))) (small_ h (by omega)) (by simp only [PyData.depth, PyData.depthAll, PyData.depthKv]; omega)
theorem good_d {w : Str} (h : Word w) : Good (.dict [(.str w, .list [.str w])]) := Fine.good (.dict (.cons h.good (fine_w h) .nil)) (small_ h (by omega)) (by simp only [PyData.depth, PyData.depthAll, PyData.depthKv]; omega)
theorem good_d' {w : Str} (h : Word w) : Good (.dict [(.str w, .list [.str w, .str "later"]), (.str "LATER", .int 1)]) := Fine.good (.dict (.cons h.good (fine_wl h) (.cons fine_LATER fine_1 .nil))) (small_ h (by omega)) (by simp only [PyData.depth, PyData.depthAll, PyData.depthKv]; omega)
theorem good_l {w : Str} (h : Word w) : Good (.list [.str w]) := Fine.good (fine_w h) (small_ h (by omega)) (by simp only [PyData.depth, PyData.depthAll, PyData.depthKv]; omega)
theorem good_l' {w : Str} (h : Word w) : Good (.list [.str w, .str "later"]) := Fine.good (fine_wl h) (small_ h (by omega)) (by simp only [PyData.depth, PyData.depthAll, PyData.depthKv]; omega)
theorem good_ld {w : Str} (h : Word w) : Good (.list [.list [.str w], .dict [(.str "odd", .str w)]]) := Fine.good (.list (.cons (fine_w h) (.cons (.dict (.cons fine_odd h.good .nil)) .nil))) (small_ h (by omega)) (by simp only [PyData.depth, PyData.depthAll, PyData.depthKv]; omega)
theorem good_ld' {w : Str} (h : Word w) : Good (.list [.list [.str w], .dict [(.str "odd", .str w)], .str "later"]) := Fine.good (.list (.cons (fine_w h) (.cons (.dict (.cons fine_odd h.good .nil)) (.cons fine_later .nil)))) (small_ h (by omega)) (by simp only [PyData.depth, PyData.depthAll, PyData.depthKv]; omega)
theorem good_lt {w : Str} (h : Word w) : Good (.tuple [.str "later", .str w]) := Fine.good (.tuple (.cons fine_later (.cons h.good .nil))) (small_ h (by omega)) (by simp only [PyData.depth, PyData.depthAll, PyData.depthKv]; omega)
/-- a thing as it was drawn: H0 the heap ahead of it -/
inductive Th (H0 H : Hp) (w : Str) : V → Prop
  | sc {v : V} {d : PyData} : Rp H v d → Good d → (∀ a, v ≠ .ref a) → Th H0 H w v
  | t4 {t : Addr} : H0 t = none → H t = some (.tup [.str "says", .str w, .int 1, .int 2]) → Th H0 H w (.ref t)
  | tl {t m : Addr} : H0 t = none → H0 m = none → H t = some (.tup [.str w, .ref m]) → H m = some (.lst [.str w]) → Th H0 H w (.ref t)
  | d {t m : Addr} : H0 t = none → H0 m = none → H t = some (.dK [(.inr w, .ref m)]) → H m = some (.lst [.str w]) → Th H0 H w (.ref t)
  | l {t : Addr} : H0 t = none → H t = some (.lst [.str w]) → Th H0 H w (.ref t)
  | ld {t m n : Addr} : H0 t = none → H t = some (.lst [.ref m, .ref n]) → H m = some (.lst [.str w]) → H n = some (.dK [(.inr "odd", .str w)]) → t ≠ m → Th H0 H w (.ref t)
theorem Th.same {H0 H H' : Hp} {w : Str} {v : V} (h : Th H0 H w v) (s : Same H H') : Th H0 H' w v := by
  cases h with
  | sc a b c => exact .sc (Rp_same s a) b c
  | t4 a b => exact .t4 a (s _ _ b)
  | tl a b c d => exact .tl a b (s _ _ c) (s _ _ d)
  | d a b c d => exact .d a b (s _ _ c) (s _ _ d)
  | l a b => exact .l a (s _ _ b)
  | ld a b c d e => exact .ld a (s _ _ b) (s _ _ c) (s _ _ d) e
theorem lw_rp {H : Hp} {m : Addr} {w : Str} (h : H m = some (.lst [.str w])) : Rp H (.ref m) (.list [.str w]) := .lst h (.cons (.str w) .nil)
/-- what it shows as -/
theorem Th.rp {H0 H : Hp} {w : Str} {v : V} (h : Th H0 H w v) (hw : Word w) : ∃ d, Rp H v d ∧ Good d := by
  cases h with
  | sc a b c => exact ⟨_, a, b⟩
  | t4 a b => exact ⟨_, .tup b (.cons (.str _) (.cons (.str _) (.cons (.int _) (.cons (.int _) .nil)))), good_t4 hw⟩
  | tl a b c d => exact ⟨_, .tup c (.cons (.str _) (.cons (lw_rp d) .nil)), good_tl hw⟩
  | d a b c d => exact ⟨.dict [(.str w, .list [.str w])], .dct c (.cons (.str _) .nil) (.cons (lw_rp d) .nil), good_d hw⟩
  | l a b => exact ⟨_, lw_rp b, good_l hw⟩
  | ld a b c d e => exact ⟨.list [.list [.str w], .dict [(.str "odd", .str w)]], .lst b (.cons (lw_rp c) (.cons (.dct (ds := [(.str "odd", .str w)]) d (.cons (.str _) .nil) (.cons (.str _) .nil)) .nil)), good_ld hw⟩
/-- what may change: lists and dicts that were not there at H0, but at Hb -/
def Mut (H0 Hb H H' : Hp) : Prop := ∀ b o, H b = some o → H' b = some o ∨ (H0 b = none ∧ (Hb b).isSome = true ∧ ((∃ xs, o = .lst xs) ∨ ∃ kvs, o = .dK kvs))
theorem Mut.refl (H0 Hb H : Hp) : Mut H0 Hb H H := fun _ _ e => .inl e
theorem Mut.keepX {H0 Hb H H' : Hp} (m : Mut H0 Hb H H') : KeepX H H' := by
  refine fun b => ⟨fun C d e => ?_, fun fs e => ?_⟩
  · rcases m b _ e with h | ⟨_, _, ⟨xs, h⟩ | ⟨xs, h⟩⟩
    · exact h
    · cases h
    · cases h
  · rcases m b _ e with h | ⟨_, _, ⟨xs, h⟩ | ⟨xs, h⟩⟩
    · exact h
    · cases h
    · cases h
theorem Mut.upd {H0 Hb H H' : Hp} {a : Addr} {o : HO} (m : Mut H0 Hb H H') (h0 : H0 a = none) (hb : (Hb a).isSome = true) (ha : ∀ u, H a = some u → (∃ xs, u = .lst xs) ∨ ∃ kvs, u = .dK kvs) : Mut H0 Hb H (L2.upd H' a o) := fun b u e => by
  by_cases hc : b = a
  · subst hc
    exact .inr ⟨h0, hb, ha u e⟩
  · rw [upd_ne hc]
    exact m b u e
/-- what was made behind Hb stays -/
theorem Mut.new {H0 Hb H H' : Hp} {b : Addr} {o : HO} (m : Mut H0 Hb H H') (h : Hb b = none) (e : H b = some o) : H' b = some o := by
  rcases m b _ e with q | ⟨_, q, _⟩
  · exact q
  · rw [h] at q
    cases q
/-- what was there at H0 stays -/
theorem Mut.old {H0 Hb H H' : Hp} {b : Addr} {o u : HO} (m : Mut H0 Hb H H') (h : H0 b = some u) (e : H b = some o) : H' b = some o := by
  rcases m b _ e with q | ⟨q, _⟩
  · exact q
  · rw [h] at q
    cases q
end K1
set_option Elab.async false
set_option linter.all false
set_option maxRecDepth 100000
set_option maxHeartbeats 4000000
/-! K1m: the thing is changed. -/
namespace K1
open PySem PySem.Spec PyProof.Rows L2 XM Grd
def tIsi (K : PySem.W.Frag) (te : TE) (T : String) : TT := tB (tCB (rIsi K) (tCons te (tCons (tC (.ty T)) tNil)))
def tApp (K : PySem.W.Frag) (te : TE) : TS := tDrop (tBM K "list" rAppend te (tCons (tC (.str "later")) tNil))
def s8 (K : PySem.W.Frag) : TS := tIfS (tIsi K (tVar 4) "list") (tApp K (tVar 4)) tNext
def s9 (K : PySem.W.Frag) : TS := tIfS (tIsi K (tVar 4) "dict") (tSeq (tApp K (tDGet (tVar 4) (tVar 2))) (tAsg (tC (.int 1)) (gSub (tVar 4) (tC (.str "LATER")) rSetD))) tNext
def s10 (K : PySem.W.Frag) : TS := tIfS (tAnd (tIsi K (tVar 4) "tuple") (tIsi K (tOp (rIxT K) (tVar 4) (tC (.int 1))) "list")) (tApp K (tOp (rIxT K) (tVar 4) (tC (.int 1)))) tNext
section
variable {K : PySem.W.Frag} {σ : L2.St} {H : Hp} {te : TE} {T : String}
theorem isi_is {x : V} {A : String} {b : Bool} {Q : Bool → Hp → Prop} (ht : ∀ q : VK, q x H → te σ H q) (ty : TyX K H x (.type A)) (hb : kitB A T = some b) (q : Q b H) : tIsi K te T σ H Q :=
  ht _ ⟨x, .ty T, .type A, .type T, b, rfl, .ty T, ty, kit_ty hb, _, rfl, q⟩
/-- the type's name, of what is no ref -/
def tyn : V → String
  | .non => "NoneType"
  | .bl _ => "bool"
  | .int _ => "int"
  | .str _ => "str"
  | .flt _ => "float"
  | .byt _ => "bytes"
  | _ => "list"
theorem app_is {m : Addr} {xs : List V} {D : Ends} (ht : ∀ q : VK, q (.ref m) H → te σ H q) (hm : H m = some (.lst xs)) (hl : xs.length < sizeLine) (q : D.nx σ (L2.upd H m (.lst (xs ++ [.str "later"])))) : tApp K te D σ H :=
  ht _ ⟨.inl ⟨rfl, _, SqL.of hm⟩, m, xs, _, rfl, rfl, hm, hl, q⟩
end
theorem word_ne {w : Str} (h : Word w) : w ≠ Str.ofString "LATER" := fun e => by
  have h1 := h.2.2 76 (by rw [e]; decide +kernel)
  revert h1
  decide +kernel
theorem mutate {K : PySem.W.Frag} {T : TS} {D : Ends} {σ : L2.St} {H0 Hb H : Hp} {w : Str} {x : V} (h4 : σ[4]? = some (some x)) (h2 : σ[2]? = some (some (.str w))) (hw : Word w) (th : Th H0 Hb w x) (sb : Same Hb H)
    (k : ∀ H' d', Mut H0 Hb H H' → Rp H' x d' → Good d' → T D σ H') : tSeq (s8 K) (tSeq (s9 K) (tSeq (s10 K) T)) D σ H := by
  have v4 : ∀ (H : Hp) (q : VK), q x H → tVar 4 σ H q := fun H q h => ⟨x, h4, h⟩
  have noL : ∀ {A : String} {H : Hp} {E : Ends}, TyX K H x (.type A) → kitB A "list" = some false → E.nx σ H → s8 K E σ H := fun ty hb q => isi_is (v4 _) ty hb (iteF q)
  have noD : ∀ {A : String} {H : Hp} {E : Ends}, TyX K H x (.type A) → kitB A "dict" = some false → E.nx σ H → s9 K E σ H := fun ty hb q => isi_is (v4 _) ty hb (iteF q)
  have noT : ∀ {A : String} {H : Hp} {E : Ends}, TyX K H x (.type A) → kitB A "tuple" = some false → E.nx σ H → s10 K E σ H := fun ty hb q => isi_is (v4 _) ty hb (iteF (iteF q))
  cases th with
  | @sc v d hr hg hn =>
    have plain : ∀ A : String, TyX K H x (.type A) → kitB A "list" = some false → kitB A "dict" = some false → kitB A "tuple" = some false → tSeq (s8 K) (tSeq (s9 K) (tSeq (s10 K) T)) D σ H := fun A ty k1 k2 k3 =>
      noL ty k1 (noD ty k2 (noT ty k3 (k H d (.refl _ _ _) (Rp_same sb hr) hg)))
    cases hr with
    | non => exact plain _ (.base .non) (by decide +kernel) (by decide +kernel) (by decide +kernel)
    | bl b => exact plain _ (.base (.bl b)) (by decide +kernel) (by decide +kernel) (by decide +kernel)
    | int i => exact plain _ (.base (.int i)) (by decide +kernel) (by decide +kernel) (by decide +kernel)
    | str y => exact plain _ (.base (.str y)) (by decide +kernel) (by decide +kernel) (by decide +kernel)
    | lst a b => exact absurd rfl (hn _)
    | tup a b => exact absurd rfl (hn _)
    | dct a b c => exact absurd rfl (hn _)
  | @t4 t n0 eb =>
    have e := sb _ _ eb
    have ty : TyX K H (.ref t) (.type "tuple") := .base (.tup e)
    refine noL ty (by decide +kernel) (noD ty (by decide +kernel) ?_)
    refine isi_is (v4 _) ty (b := true) (by decide +kernel) (iteT ?_)
    refine isi_is (x := .str w) (A := "str") (b := false) (fun q h => ⟨_, h4, t, _, _, _, rfl, rfl, SqT.of e, rfl, h⟩) (.base (.str w)) (by decide +kernel) (iteF ?_)
    exact k H _ (.refl _ _ _) (.tup e (.cons (.str _) (.cons (.str _) (.cons (.int _) (.cons (.int _) .nil))))) (good_t4 hw)
  | @tl t m n0 n1 eb emb =>
    have e := sb _ _ eb
    have em := sb _ _ emb
    have tm : (Hb m).isSome = true := by rw [emb]; rfl
    have ty : TyX K H (.ref t) (.type "tuple") := .base (.tup e)
    refine noL ty (by decide +kernel) (noD ty (by decide +kernel) ?_)
    refine isi_is (v4 _) ty (b := true) (by decide +kernel) (iteT ?_)
    refine isi_is (x := .ref m) (A := "list") (b := true) (fun q h => ⟨_, h4, t, _, _, _, rfl, rfl, SqT.of e, rfl, h⟩) (.base (.lst em)) (by decide +kernel) (iteT ?_)
    refine app_is (m := m) (fun q h => ⟨_, h4, t, _, _, _, rfl, rfl, SqT.of e, rfl, h⟩) em (by rw [PySem.sizeLine_eq]; show (1 : Nat) < _; decide) ?_
    have ne : t ≠ m := fun z => by rw [z, em] at e; cases e
    exact k _ _ (Mut.upd (.refl _ _ _) n1 tm fun u hu => .inl ⟨_, by rw [em] at hu; exact (Option.some.inj hu).symm⟩) (.tup ((upd_ne ne).trans e) (.cons (.str _) (.cons (.lst upd_same (.cons (.str _) (.cons (.str _) .nil))) .nil))) (good_tl' hw)
  | @d t m n0 n1 eb emb =>
    have e := sb _ _ eb
    have em := sb _ _ emb
    have tm : (Hb m).isSome = true := by rw [emb]; rfl
    have tt : (Hb t).isSome = true := by rw [eb]; rfl
    have ty : TyX K H (.ref t) (.type "dict") := .base (.dK e)
    refine noL ty (by decide +kernel) ?_
    refine isi_is (v4 _) ty (b := true) (by decide +kernel) (iteT ?_)
    have ne : t ≠ m := fun z => by rw [z, em] at e; cases e
    refine app_is (m := m) (fun q h => ⟨_, h4, _, h2, t, .ref m, rfl, ?_, h⟩) em (by rw [PySem.sizeLine_eq]; show (1 : Nat) < _; decide) ?_
    · have z : DGet H t (kV (.inr w)) (valV [((Sum.inr w : Key), V.ref m)] (.inr w)) := DGet.k e
      have z2 : valV [((Sum.inr w : Key), V.ref m)] (.inr w) = some (.ref m) := by unfold valV; simp
      rw [z2] at z
      exact z
    have e1 : L2.upd H m (.lst ([.str w] ++ [.str "later"])) t = some (.dK [(.inr w, .ref m)]) := (upd_ne ne).trans e
    refine ⟨_, h4, t, _, rfl, DPut.k (k := Sum.inr "LATER") e1 (by rw [PySem.sizeLine_eq]; show (1 : Nat) < _; decide), ?_⟩
    have z3 : putK [((Sum.inr w : Key), V.ref m)] (Sum.inr "LATER") (.int 1) = [(Sum.inr w, .ref m), (Sum.inr "LATER", .int 1)] := by
      unfold putK
      simp [word_ne hw]
    rw [z3]
    have ty2 : TyX K (L2.upd (L2.upd H m (.lst ([.str w] ++ [.str "later"]))) t (.dK [(Sum.inr w, .ref m), (Sum.inr "LATER", .int 1)])) (.ref t) (.type "dict") := .base (.dK upd_same)
    refine noT ty2 (by decide +kernel) ?_
    refine k _ (.dict [(.str w, .list [.str w, .str "later"]), (.str "LATER", .int 1)]) (Mut.upd (Mut.upd (.refl _ _ _) n1 tm fun u hu => .inl ⟨_, by rw [em] at hu; exact (Option.some.inj hu).symm⟩) n0 tt fun u hu => .inr ⟨_, by rw [e] at hu; exact (Option.some.inj hu).symm⟩) ?_ (good_d' hw)
    exact .dct upd_same (.cons (.str _) (.cons (.str _) .nil)) (.cons (.lst ((upd_ne (Ne.symm ne)).trans upd_same) (.cons (.str _) (.cons (.str _) .nil))) (.cons (.int _) .nil))
  | @l t n0 eb =>
    have e := sb _ _ eb
    have tt : (Hb t).isSome = true := by rw [eb]; rfl
    have ty : TyX K H (.ref t) (.type "list") := .base (.lst e)
    refine isi_is (v4 _) ty (b := true) (by decide +kernel) (iteT ?_)
    refine app_is (m := t) (v4 _) e (by rw [PySem.sizeLine_eq]; show (1 : Nat) < _; decide) ?_
    have ty2 : TyX K (L2.upd H t (.lst ([.str w] ++ [.str "later"]))) (.ref t) (.type "list") := .base (.lst upd_same)
    refine noD ty2 (by decide +kernel) (noT ty2 (by decide +kernel) ?_)
    exact k _ _ (Mut.upd (.refl _ _ _) n0 tt fun u hu => .inl ⟨_, by rw [e] at hu; exact (Option.some.inj hu).symm⟩) (.lst upd_same (.cons (.str _) (.cons (.str _) .nil))) (good_l' hw)
  | @ld t m n n0 eb emb enb ne =>
    have e := sb _ _ eb
    have em := sb _ _ emb
    have en := sb _ _ enb
    have tt : (Hb t).isSome = true := by rw [eb]; rfl
    have ty : TyX K H (.ref t) (.type "list") := .base (.lst e)
    refine isi_is (v4 _) ty (b := true) (by decide +kernel) (iteT ?_)
    refine app_is (m := t) (v4 _) e (by rw [PySem.sizeLine_eq]; show (2 : Nat) < _; decide) ?_
    have ty2 : TyX K (L2.upd H t (.lst ([.ref m, .ref n] ++ [.str "later"]))) (.ref t) (.type "list") := .base (.lst upd_same)
    refine noD ty2 (by decide +kernel) (noT ty2 (by decide +kernel) ?_)
    have ne2 : n ≠ t := fun z => by rw [z, e] at en; cases en
    refine k _ (.list [.list [.str w], .dict [(.str "odd", .str w)], .str "later"]) (Mut.upd (.refl _ _ _) n0 tt fun u hu => .inl ⟨_, by rw [e] at hu; exact (Option.some.inj hu).symm⟩) ?_ (good_ld' hw)
    exact .lst upd_same (.cons (.lst ((upd_ne (Ne.symm ne)).trans em) (.cons (.str _) .nil)) (.cons (.dct (ds := [(.str "odd", .str w)]) ((upd_ne ne2).trans en) (.cons (.str _) .nil) (.cons (.str _) .nil)) (.cons (.str _) .nil)))
end K1
set_option Elab.async false
set_option linter.all false
set_option maxRecDepth 100000
set_option maxHeartbeats 4000000
/-! K1l: the law. -/
namespace K1
open PySem PySem.Spec PyProof.Rows L2 XM Grd
section
variable {X : Cx}
/-- repr(e) -/
theorem pe_rep {e : Expr} {te : TE} {p0 pos : Pos} (g : X.A.guards = some []) (hu : X.A.units + 64 < cLine) (hS : (X.K.lookup sysModules).isSome = true) (hg : Gl X "repr") (hm : X.mg "repr" = none) (he : PE X e te)
    (hs : starEach [e] X.env = (false, eval e X.env) :: starEach [] X.env := by rfl) : PE X (.Call (.Name "repr" p0) [e] [] pos) (tCB rRep (tCons te tNil)) :=
  pe_callB (call_repr g hu hS) hg hm boot_repr (pa_cons he pa_nil hs) (he := hs)
end
theorem up {H : Hp} {a b : Addr} {o u : HO} (h : H a = some o) (hb : H b = none) : L2.upd H b u a = some o := (upd_ne (ne_of_none h hb)).trans h
theorem upS {H : Hp} {b : Addr} {u : HO} (hb : H b = none) : Same H (L2.upd H b u) := fun _ _ e => up e hb
/-- a new address, rewritten later -/
theorem upS2 {H H1 : Hp} {b : Addr} {u : HO} (hb : H b = none) (s : Same H H1) : Same H (L2.upd H1 b u) := fun c o e => (upd_ne (ne_of_none e hb)).trans (s c o e)
theorem dn {H H1 : Hp} {b : Addr} (s : Same H H1) (h : H1 b = none) : H b = none := Same.free s h
abbrev NL : List Str := ["_law_script", "_law_purse_here", "_law_word_here", "_law_plain", "_law_thing", "_law_noted", "_law_some", "_law_called_here", "_law_later", "_law_rest", "_law_error"]
/-- what is known of the law's module -/
structure Glb (K : PySem.W.Frag) (mg : Str → Option Value) (a : Str → Addr) (d : Str → FuncData) : Prop where
  purse : FnP K "_law_purse" sPurse (a "_law_purse") (d "_law_purse")
  mixed : FnP K "_law_mixed" sMixed (a "_law_mixed") (d "_law_mixed")
  draw : FnP K "_law_draw" sDraw (a "_law_draw") (d "_law_draw")
  purses : FnP K "_law_purses" sPurses (a "_law_purses") (d "_law_purses")
  one : FnP K "_law_one_of" sOne (a "_law_one_of") (d "_law_one_of")
  word : FnP K "_law_word" sWord (a "_law_word") (d "_law_word")
  first : FnP K "_law_first" sFirst (a "_law_first") (d "_law_first")
  called : FnP K "_law_called" sCalled (a "_law_called") (d "_law_called")
  bare : FnP K "_law_bare" sBare (a "_law_bare") (d "_law_bare")
  code : FnP K "_law_code" sCode (a "_law_code") (d "_law_code")
  isErr : FnP K "_law_is_error" sIsErr (a "_law_is_error") (d "_law_is_error")
  right : FnP K "_law_right" sRight (a "_law_right") (d "_law_right")
  glo : ∀ x ∈ (["_law_purse", "_law_mixed", "_law_draw", "_law_purses", "_law_one_of", "_law_word", "_law_first", "_law_called", "_law_bare", "_law_code", "_law_is_error", "_law_right"] : List Str), mg x = some (.ref (a x))
  free : ∀ x ∈ (["sum", "int", "max", "min", "len", "range", "isinstance", "ValueError", "repr", "list", "dict", "tuple", "all"] : List Str), mg x = none
def spLaw (K : PySem.W.Frag) : Sp := fun vs H Q _ => ∃ (a : Addr) (ns : List Int), vs = [.ref a] ∧ SqL K H a (ns.map V.int) ∧ ns.length ≤ 63 ∧ ∀ H', Q (.bl true) H'
theorem scLaw : FnScope NL ["_law_script"] (defScope sLaw) := ⟨rfl, rfl, rfl, by decide +kernel, rfl, by decide +kernel, by decide +kernel⟩
section
variable {P : Program} {w : World} {K : PySem.W.Frag} {mg : Str → Option Value} {base : Heap} {c : Nat → Addr} {a : Str → Addr} {d : Str → FuncData}
theorem ok_law {f : Addr} {fd : FuncData} (F : FnP K "law" sLaw f fd) (T : Tab P K mg c) (hS : (K.lookup sysModules).isSome = true) (G : Glb K mg a d) : FnG P w K mg base 4 f fd ["_law_script"] (spLaw K) := by
  have g : ∀ x, x ∈ (["_law_purse", "_law_mixed", "_law_draw", "_law_purses", "_law_one_of", "_law_word", "_law_first", "_law_called", "_law_bare", "_law_code", "_law_is_error", "_law_right"] : List Str) → mg x = some (.ref (a x)) := G.glo
  have gPs := g "_law_purse" (by decide +kernel)
  have gMx := g "_law_mixed" (by decide +kernel)
  have gDr := g "_law_draw" (by decide +kernel)
  have gPu := g "_law_purses" (by decide +kernel)
  have gOn := g "_law_one_of" (by decide +kernel)
  have gWo := g "_law_word" (by decide +kernel)
  have gFi := g "_law_first" (by decide +kernel)
  have gCa := g "_law_called" (by decide +kernel)
  have gBa := g "_law_bare" (by decide +kernel)
  have gCo := g "_law_code" (by decide +kernel)
  have gIe := g "_law_is_error" (by decide +kernel)
  have gRi := g "_law_right" (by decide +kernel)
  have fSum := G.free "sum" (by decide +kernel)
  have fInt := G.free "int" (by decide +kernel)
  have fMax := G.free "max" (by decide +kernel)
  have fMin := G.free "min" (by decide +kernel)
  have fLen := G.free "len" (by decide +kernel)
  have fRng := G.free "range" (by decide +kernel)
  have fIsi := G.free "isinstance" (by decide +kernel)
  have fVal := G.free "ValueError" (by decide +kernel)
  have fRep := G.free "repr" (by decide +kernel)
  have fLst := G.free "list" (by decide +kernel)
  have fDct := G.free "dict" (by decide +kernel)
  have fTup := G.free "tuple" (by decide +kernel)
  have fAll := G.free "all" (by decide +kernel)
  have OPu : FnOk P w K mg base CX0 2 _ _ ["_law_script", "_law_few"] (spPurses K) := ok_purses G.purses G.purse gPs fSum fInt fMax fMin fLen fRng
  have bPu : Binds K _ ["_law_script", "_law_few"] [] := G.purses.bindsN fun _ _ _ _ _ _ us hl => match us, hl with | [_, _], _ => rfl
  have OWo : FnOk P w K mg base CX0 3 _ _ ["_law_purse_here"] spWord := ok_word G.word G.draw G.mixed gDr gMx fInt fRng
  have bWo : Binds K _ ["_law_purse_here"] [] := G.word.bindsN fun _ _ _ _ _ _ us hl => match us, hl with | [_], _ => rfl
  have OOn : FnOk P w K mg base CX0 3 _ _ ["_law_purse_here", "_law_some"] spOne := ok_one G.one G.draw G.mixed gDr gMx fInt fRng fLen
  have bOn : Binds K _ ["_law_purse_here", "_law_some"] [] := G.one.bindsN fun _ _ _ _ _ _ us hl => match us, hl with | [_, _], _ => rfl
  have OFi : FnOk P w K mg base CX0 2 _ _ ["_law_thing"] (spExs c) := ok_first G.first T
  have bFi : Binds K _ ["_law_thing"] [] := G.first.bindsN fun _ _ _ _ _ _ us hl => match us, hl with | [_], _ => rfl
  have OCa : FnOk P w K mg base CX0 2 _ _ ["_law_thing"] (spExs c) := ok_called G.called T
  have bCa : Binds K _ ["_law_thing"] [] := G.called.bindsN fun _ _ _ _ _ _ us hl => match us, hl with | [_], _ => rfl
  have OBa : FnOk P w K mg base CX0 2 _ _ [] (spBare c) := ok_bare G.bare T
  have bBa : Binds K _ [] [] := G.bare.bindsN fun _ _ _ _ _ _ us hl => match us, hl with | [], _ => rfl
  have OCo : FnOk P w K mg base CX0 1 _ _ ["_law_error"] (spCode c) := ok_code G.code T fIsi fLen fRng
  have bCo : Binds K _ ["_law_error"] [] := G.code.bindsN fun _ _ _ _ _ _ us hl => match us, hl with | [_], _ => rfl
  have OIe : FnOk P w K mg base CX0 1 _ _ ["_law_error"] (spIsErr c) := ok_iserr G.isErr T fIsi fVal
  have bIe : Binds K _ ["_law_error"] [] := G.isErr.bindsN fun _ _ _ _ _ _ us hl => match us, hl with | [_], _ => rfl
  have ORi : FnG P w K mg base 2 _ _ ["_law_some", "_law_noted"] (spRight c) := ok_right G.right T hS G.code gCo G.isErr gIe fIsi fVal fLen fRng fRep
  have bRi : Binds K _ ["_law_some", "_law_noted"] [] := G.right.bindsN fun _ _ _ _ _ _ us hl => match us, hl with | [_, _], _ => rfl
  refine okG F scLaw (fun vs H Q E h => ?_) (fun cdv A outer s H vs Q E hr h => ?_)
  · obtain ⟨l, ns, rfl, _⟩ := h
    rfl
  have hr1 := hr.r.mono (j := 1) (by decide)
  have hr2 := hr.r.mono (j := 2) (by decide)
  have hrG := hr.mono (j := 2) (by decide)
  have hu := hr.r.units
  have hu1 := hu_of hr.r
  refine ⟨_, PSs.nox (pss_cons (ps_for PassesOwn.never rfl (pi_list (pe_call OPu hr2 rfl gPu G.purses.kp bPu .nil pass0 (pa_cons (pv 0) (pa_cons pe_int pa_nil)))) (pg_name (i := 1) scLaw.nd rfl (Or.inl rfl))
      -- the turn
      (pss_cons (ps_set (i := 2) scLaw.nd rfl (Or.inl rfl) (pe_call OWo hr.r rfl gWo G.word.kp bWo .nil pass0 (pa_cons (pv 1) pa_nil)))
      (pss_cons (ps_set (i := 3) scLaw.nd rfl (Or.inl rfl) (pe_lst (pa_cons pe_non (pa_cons pe_bl (pa_cons pe_bl (pa_cons pe_int (pa_cons (pv 2) (pa_cons (pe_un un_neg (pe_ix ix_list (pv 1) pe_int (fun _ _ => rfl)))
          (pa_cons (pe_tup (pa_cons pe_str (pa_cons (pv 2) (pa_cons pe_int (pa_cons pe_int pa_nil))))) (pa_cons (pe_tup (pa_cons (pv 2) (pa_cons (pe_lst (pa_cons (pv 2) pa_nil)) pa_nil)))
          (pa_cons (pe_disp (pps_cons (pv 2) (pe_lst (pa_cons (pv 2) pa_nil)) pps_nil) rfl rfl (by simp) (by decide)) pa_nil)))))))))))
      (pss_cons (ps_set (i := 4) scLaw.nd rfl (Or.inl rfl) (pe_call OOn hr.r rfl gOn G.one.kp bOn .nil pass0 (pa_cons (pv 1) (pa_cons (pe_op op_cat (pv 3) (pe_lst (pa_cons (pe_lst (pa_cons (pv 2) pa_nil))
          (pa_cons (pe_lst (pa_cons (pe_lst (pa_cons (pv 2) pa_nil)) (pa_cons (pe_disp (pps_cons pe_str (pv 2) pps_nil) rfl rfl (by simp) (by decide)) pa_nil))) pa_nil)))) pa_nil))))
      (pss_cons (ps_set (i := 5) scLaw.nd rfl (Or.inl rfl) (pe_rep hr.g hu hS rfl fRep (pv 4)))
      (pss_cons (ps_par3 (i := 6) (j := 7) (l := 8) rfl scLaw.nd rfl rfl rfl (by decide) (by decide) (by decide) rfl rfl rfl
          (pa_cons (pe_call OFi hr2 rfl gFi G.first.kp bFi .nil pass0 (pa_cons (pv 4) pa_nil)) (pa_cons (pe_call OCa hr2 rfl gCa G.called.kp bCa .nil pass0 (pa_cons (pv 4) pa_nil))
          (pa_cons (pe_call OFi hr2 rfl gFi G.first.kp bFi .nil pass0 (pa_cons (pe_tup (pa_cons pe_str (pa_cons (pv 2) pa_nil))) pa_nil)) pa_nil))) (by rfl))
      (pss_cons (ps_if (PW.pt (pw_or (pt_not (pt_val (pe_callG ORi hrG rfl gRi G.right.kp bRi (pa_cons (pe_call0 OBa hr2 rfl gBa G.bare.kp bBa .nil pass0) (pa_cons pe_str pa_nil)))))
          (pw_or1 (pt_not (pt_val (pe_callG ORi hrG rfl gRi G.right.kp bRi (pa_cons (pv 8) (pa_cons (pe_rep hr.g hu hS rfl fRep (pe_tup (pa_cons pe_str (pa_cons (pv 2) pa_nil)))) pa_nil)))))))) (pss_one (ps_ret pe_bl)) pss_nil)
      (pss_cons (ps_if (PW.pt (pw_or (pt_not (pt_val (pe_callG ORi hrG rfl gRi G.right.kp bRi (pa_cons (pv 6) (pa_cons (pv 5) pa_nil)))))
          (pw_or1 (pt_not (pt_val (pe_callG ORi hrG rfl gRi G.right.kp bRi (pa_cons (pv 7) (pa_cons (pv 5) pa_nil)))))))) (pss_one (ps_ret pe_bl)) pss_nil)
      (pss_cons (ps_if (pt_val (pe_callB call_isi rfl fIsi PyProof.Rows.boot_isinstance (pa_cons (pv 4) (pa_cons (pe_bltn (v := .ty "list") rfl fLst PyProof.Rows.boot_list rfl) pa_nil))))
          (pss_one (ps_expr (pe_bm PySem.F.plainAttrs_list PySem.F.slot_list_append PySem.F.type_list_append mt_append (pv 4) (pa_cons pe_str pa_nil)))) pss_nil)
      (pss_cons (ps_if (pt_val (pe_callB call_isi rfl fIsi PyProof.Rows.boot_isinstance (pa_cons (pv 4) (pa_cons (pe_bltn (v := .ty "dict") rfl fDct (by decide +kernel) rfl) pa_nil))))
          (pss_cons (ps_expr (pe_bm PySem.F.plainAttrs_list PySem.F.slot_list_append PySem.F.type_list_append mt_append (pe_dget hu1 (pv 4) (pv 2) (fun _ _ => rfl)) (pa_cons pe_str pa_nil)))
          (pss_one (ps_asg pe_int (pg_sub (pv 4) pe_str (set_dict hu1))))) pss_nil)
      (pss_cons (ps_if (PW.pt (pw_and (pt_val (pe_callB call_isi rfl fIsi PyProof.Rows.boot_isinstance (pa_cons (pv 4) (pa_cons (pe_bltn (v := .ty "tuple") rfl fTup (by decide +kernel) rfl) pa_nil))))
          (pw_and1 (pt_val (pe_callB call_isi rfl fIsi PyProof.Rows.boot_isinstance (pa_cons (pe_ix ix_tup (pv 4) pe_int (fun _ _ => rfl)) (pa_cons (pe_bltn (v := .ty "list") rfl fLst PyProof.Rows.boot_list rfl) pa_nil)))))))
          (pss_one (ps_expr (pe_bm PySem.F.plainAttrs_list PySem.F.slot_list_append PySem.F.type_list_append mt_append (pe_ix ix_tup (pv 4) pe_int (fun _ _ => rfl)) (pa_cons pe_str pa_nil)))) pss_nil)
      (pss_one (ps_if (PW.pt (pw_or (pt_not (pt_val (pe_callG ORi hrG rfl gRi G.right.kp bRi (pa_cons (pv 6) (pa_cons (pe_rep hr.g hu hS rfl fRep (pv 4)) pa_nil)))))
          (pw_or1 (pt_not (pt_val (pe_callG ORi hrG rfl gRi G.right.kp bRi (pa_cons (pv 7) (pa_cons (pe_rep hr.g hu hS rfl fRep (pv 4)) pa_nil)))))))) (pss_one (ps_ret pe_bl)) pss_nil)))))))))))))
      -- behind the loop
    (pss_cons (ps_set (i := 9) scLaw.nd rfl (Or.inl rfl) (pe_lst (pa_cons (pe_mkxn PySem.F.excBase_ValueError (T.plain 28 (by decide) (by decide)).1 (T.g 28 _ rfl) (T.plain 28 (by decide) (by decide)).2 rfl) (pa_cons (pe_mkxn PySem.F.excBase_ValueError (T.plain 29 (by decide) (by decide)).1 (T.g 29 _ rfl) (T.plain 29 (by decide) (by decide)).2 rfl) pa_nil))))
    (pss_cons (ps_if (pt_cmpR (op_neD hu)
        (pe_lc (own := [("_law_error", 10)]) (g := gName 10) (tt := tYes) rfl scLaw.nd (pi_list (pv 9))
          (blkOk_by (N := NL) (sc := defScope sLaw) (by decide +kernel)) (fun _ _ _ _ _ => pg_name (i := 10) scLaw.nd rfl (Or.inl rfl)) (fun _ _ _ _ _ => pts_nil)
          (fun _ _ _ _ _ => pe_call OCo hr1 rfl gCo G.code.kp bCo .nil pass0 (pa_cons (pv 10) pa_nil)))
        (pe_lst (pa_cons (pe_lst (pa_cons pe_int pa_nil)) (pa_cons (pe_lst (pa_cons pe_int pa_nil)) pa_nil))) (nomark _)) (pss_one (ps_ret pe_bl)) pss_nil)
    (pss_cons (ps_expr (pe_bm PySem.F.plainAttrs_list PySem.F.slot_list_append PySem.F.type_list_append mt_append (pv 9) (pa_cons (pe_mkxn PySem.F.excBase_ValueError (T.plain 30 (by decide) (by decide)).1 (T.g 30 _ rfl) (T.plain 30 (by decide) (by decide)).2 rfl) pa_nil)))
    (pss_one (ps_ret (pe_and (pe_callB (cr_all rfl) rfl fAll PyProof.Rows.boot_all (pa_cons
        (pe_lc (own := [("_law_error", 10)]) (g := gName 10) (tt := tYes) rfl scLaw.nd (pi_list (pv 9))
          (blkOk_by (N := NL) (sc := defScope sLaw) (by decide +kernel)) (fun _ _ _ _ _ => pg_name (i := 10) scLaw.nd rfl (Or.inl rfl)) (fun _ _ _ _ _ => pts_nil)
          (fun _ _ _ _ _ => pe_call OIe hr1 rfl gIe G.isErr.kp bIe .nil pass0 (pa_cons (pv 10) pa_nil))) pa_nil))
      (pe_one (pe_cmpR (op_eqD hu) (pe_call OCo hr1 rfl gCo G.code.kp bCo .nil pass0 (pa_cons (pe_ix ix_list (pv 9) pe_int (fun _ _ => rfl)) pa_nil)) (pe_lst pa_nil) (nomark _)))))))))), ?_⟩
  obtain ⟨sa, ns, rfl, hSq, hl, k⟩ := h
  refine ⟨_, rfl, sa, ns, rfl, hSq, hl, fun H1 l p s1 nl np nlp el hP => ?_⟩
  refine ⟨l, rfl, ⟨_, SqL.of el⟩, ?_⟩
  refine for_list (xs := [.ref p]) (fun i σ H' => H' l = some (.lst [.ref p]) ∧ (∃ x1 x2 x3 x4 x5 x6 x7 x8 x9 x10, σ = [some (.ref sa), x1, x2, x3, x4, x5, x6, x7, x8, x9, x10]) ∧ (i = 0 → Pu H' p 0))
    ⟨el, ⟨_, _, _, _, _, _, _, _, _, _, rfl⟩, fun _ => hP⟩ (fun i σ H' _ h => SqL.of h.1) ?_ ?_
  · rintro i x σ H0 hi ⟨hl0, ⟨x1, x2, x3, x4, x5, x6, x7, x8, x9, x10, rfl⟩, h0⟩
    have hi0 : i = 0 := by
      by_cases z : i = 0
      · exact z
      · rw [List.getElem?_eq_none (by simp; omega)] at hi
        cases hi
    subst hi0
    obtain rfl : V.ref p = x := by simpa using hi
    refine ⟨_, rfl, p, 0, rfl, h0 rfl, by decide, fun w H2 hw hP2 hB2 => ?_⟩
    obtain ⟨N, sd, cn, eP, a1, a2, a3, a4, a5, a6⟩ := hP2
    refine ⟨_, rfl, _, rfl, p, _, _, _, rfl, rfl, SqL.of eP, rfl, _, rfl, ?_⟩
    refine ⟨_, rfl, by show 4 ≤ sizeLine; decide, fun t ht => ?_⟩
    have S1 := upS (u := .tup [.str "says", .str w, .int 1, .int 2]) ht
    have Et : L2.upd H2 t (.tup [.str "says", .str w, .int 1, .int 2]) t = some (.tup [.str "says", .str w, .int 1, .int 2]) := upd_same
    generalize L2.upd H2 t (.tup [.str "says", .str w, .int 1, .int 2]) = A1 at S1 Et ⊢
    refine ⟨_, rfl, _, rfl, by show 1 ≤ sizeLine; decide, fun m hm => ⟨by show 2 ≤ sizeLine; decide, fun t2 ht2 => ?_⟩⟩
    have S2 := upS (u := .lst [.str w]) hm
    have Em : L2.upd A1 m (.lst [.str w]) m = some (.lst [.str w]) := upd_same
    generalize L2.upd A1 m (.lst [.str w]) = A2 at S2 Em ht2 ⊢
    have S3 := upS (u := .tup [.str w, .ref m]) ht2
    have Et2 : L2.upd A2 t2 (.tup [.str w, .ref m]) t2 = some (.tup [.str w, .ref m]) := upd_same
    generalize L2.upd A2 t2 (.tup [.str w, .ref m]) = A3 at S3 Et2 ⊢
    intro dd hdd
    have S4 := upS (u := .dK []) hdd
    have Edd0 : L2.upd A3 dd (.dK []) dd = some (.dK []) := upd_same
    generalize L2.upd A3 dd (.dK []) = A4 at S4 Edd0 ⊢
    refine ⟨_, rfl, _, rfl, by show 1 ≤ sizeLine; decide, fun m2 hm2 => ?_⟩
    have S5 := upS (u := .lst [.str w]) hm2
    have Em20 : L2.upd A4 m2 (.lst [.str w]) m2 = some (.lst [.str w]) := upd_same
    generalize L2.upd A4 m2 (.lst [.str w]) = A5 at S5 Em20 ⊢
    refine ⟨S5 _ _ Edd0, [(.inr w, .ref m2)], rfl, by show 1 ≤ 15; decide, ?_⟩
    have S36 : Same A3 (L2.upd A5 dd (.dK [(.inr w, .ref m2)])) := upS2 hdd (S4.trans S5)
    have Edd : L2.upd A5 dd (.dK [(.inr w, .ref m2)]) dd = some (.dK [(.inr w, .ref m2)]) := upd_same
    have Em2 : L2.upd A5 dd (.dK [(.inr w, .ref m2)]) m2 = some (.lst [.str w]) := (upd_ne (Ne.symm (ne_of_none Edd0 hm2))).trans Em20
    have em1 : mergeK [] [((.inr w : Key), V.ref m2)] = [(.inr w, .ref m2)] := rfl
    rw [em1]
    generalize L2.upd A5 dd (.dK [(.inr w, .ref m2)]) = A6 at S36 Edd Em2 ⊢
    refine ⟨by show 9 ≤ sizeLine; decide, fun pl hpl => ?_⟩
    have S7 := upS (u := .lst [.non, .bl true, .bl false, .int 0, .str w, .int (-sd), .ref t, .ref t2, .ref dd]) hpl
    have Epl : L2.upd A6 pl (.lst [.non, .bl true, .bl false, .int 0, .str w, .int (-sd), .ref t, .ref t2, .ref dd]) pl = some (.lst [.non, .bl true, .bl false, .int 0, .str w, .int (-sd), .ref t, .ref t2, .ref dd]) := upd_same
    generalize L2.upd A6 pl (.lst [.non, .bl true, .bl false, .int 0, .str w, .int (-sd), .ref t, .ref t2, .ref dd]) = A7 at S7 Epl ⊢
    refine ⟨_, rfl, _, rfl, _, rfl, by show 1 ≤ sizeLine; decide, fun m3 hm3 => ⟨_, rfl, by show 1 ≤ sizeLine; decide, fun m4 hm4 => ?_⟩⟩
    have S8 := upS (u := .lst [.str w]) hm3
    have Em3 : L2.upd A7 m3 (.lst [.str w]) m3 = some (.lst [.str w]) := upd_same
    generalize L2.upd A7 m3 (.lst [.str w]) = B1 at S8 Em3 hm4 ⊢
    have S9 := upS (u := .lst [.str w]) hm4
    have Em4 : L2.upd B1 m4 (.lst [.str w]) m4 = some (.lst [.str w]) := upd_same
    generalize L2.upd B1 m4 (.lst [.str w]) = B2 at S9 Em4 ⊢
    intro d2 hd2
    refine ⟨_, rfl, upd_same, [(.inr "odd", .str w)], rfl, by show 1 ≤ 15; decide, ?_⟩
    have em2 : mergeK [] [((.inr "odd" : Key), V.str w)] = [(.inr "odd", .str w)] := rfl
    rw [em2]
    have S10 : Same B2 (L2.upd (L2.upd B2 d2 (.dK [])) d2 (.dK [(.inr "odd", .str w)])) := upS2 hd2 (upS hd2)
    have Ed2 : L2.upd (L2.upd B2 d2 (.dK [])) d2 (.dK [(.inr "odd", .str w)]) d2 = some (.dK [(.inr "odd", .str w)]) := upd_same
    generalize L2.upd (L2.upd B2 d2 (.dK [])) d2 (.dK [(.inr "odd", .str w)]) = B4 at S10 Ed2 ⊢
    refine ⟨by show 2 ≤ sizeLine; decide, fun q hq => ⟨by show 2 ≤ sizeLine; decide, fun q2 hq2 => ?_⟩⟩
    have S11 := upS (u := .lst [.ref m4, .ref d2]) hq
    have Eq : L2.upd B4 q (.lst [.ref m4, .ref d2]) q = some (.lst [.ref m4, .ref d2]) := upd_same
    generalize L2.upd B4 q (.lst [.ref m4, .ref d2]) = B5 at S11 Eq hq2 ⊢
    have S12 := upS (u := .lst [.ref m3, .ref q]) hq2
    have Eq2 : L2.upd B5 q2 (.lst [.ref m3, .ref q]) q2 = some (.lst [.ref m3, .ref q]) := upd_same
    generalize L2.upd B5 q2 (.lst [.ref m3, .ref q]) = B6 at S12 Eq2 ⊢
    have S76 : Same A7 B6 := S8.trans (S9.trans (S10.trans (S11.trans S12)))
    refine ⟨pl, q2, _, _, rfl, rfl, S76 _ _ Epl, Eq2, by show 11 ≤ sizeLine; decide, fun ll hll => ?_⟩
    have S13 := upS (u := .lst [.non, .bl true, .bl false, .int 0, .str w, .int (-sd), .ref t, .ref t2, .ref dd, .ref m3, .ref q]) hll
    have Ell : L2.upd B6 ll (.lst [.non, .bl true, .bl false, .int 0, .str w, .int (-sd), .ref t, .ref t2, .ref dd, .ref m3, .ref q]) ll = some (.lst [.non, .bl true, .bl false, .int 0, .str w, .int (-sd), .ref t, .ref t2, .ref dd, .ref m3, .ref q]) := upd_same
    have ap : ([.non, .bl true, .bl false, .int 0, .str w, .int (-sd), .ref t, .ref t2, .ref dd] ++ [.ref m3, .ref q] : List V) = [.non, .bl true, .bl false, .int 0, .str w, .int (-sd), .ref t, .ref t2, .ref dd, .ref m3, .ref q] := rfl
    rw [ap]
    generalize L2.upd B6 ll (.lst [.non, .bl true, .bl false, .int 0, .str w, .int (-sd), .ref t, .ref t2, .ref dd, .ref m3, .ref q]) = B7 at S13 Ell ⊢
    have S27 : Same H2 A7 := S1.trans (S2.trans (S3.trans (S36.trans S7)))
    have S2B : Same H2 B7 := S27.trans (S76.trans S13)
    have llp : ll ≠ p := fun z => by
      have h1 := S76 _ _ (S27 _ _ eP)
      rw [← z, hll] at h1
      cases h1
    refine ⟨p, ll, 20, _, rfl, ⟨N, sd, cn, S2B _ _ eP, a1, a2, a3, a4, a5, a6⟩, by decide, Ell, by show 1 ≤ 11; decide, by show 11 ≤ 1000; decide, llp, fun i x H3 hx hP3 hB3 => ?_⟩
    have put : ∀ {b : Addr} {o : HO}, H2 b = none → B7 b = some o → H3 b = some o := fun h e => hB3 _ _ (Ne.symm (ne_of_none eP h)) e
    have n1 := dn S1 hm
    have n2 := dn (S1.trans S2) ht2
    have n3 := dn (S1.trans (S2.trans S3)) hdd
    have n4 := dn (S1.trans (S2.trans (S3.trans S4))) hm2
    have n5 := dn S27 hm3
    have n6 := dn (S27.trans S8) hm4
    have n7 := dn (S27.trans (S8.trans S9)) hd2
    have n8 := dn (S27.trans (S8.trans (S9.trans S10))) hq
    have S2t : Same A1 B7 := S2.trans (S3.trans (S36.trans (S7.trans (S76.trans S13))))
    have S2m : Same A2 B7 := S3.trans (S36.trans (S7.trans (S76.trans S13)))
    have S2t2 : Same A3 B7 := S36.trans (S7.trans (S76.trans S13))
    have S26 : Same A6 B7 := S7.trans (S76.trans S13)
    have S2m3 : Same B1 B7 := S9.trans (S10.trans (S11.trans (S12.trans S13)))
    have S2m4 : Same B2 B7 := S10.trans (S11.trans (S12.trans S13))
    have S2d2 : Same B4 B7 := S11.trans (S12.trans S13)
    have S2q : Same B5 B7 := S12.trans S13
    have hTh : Th H2 H3 w x := by
      match i, hx with
      | 0, hx => obtain rfl : V.non = x := Option.some.inj hx; exact .sc .non good_non (fun a z => by cases z)
      | 1, hx => obtain rfl : V.bl true = x := Option.some.inj hx; exact .sc (.bl _) (good_bl _) (fun a z => by cases z)
      | 2, hx => obtain rfl : V.bl false = x := Option.some.inj hx; exact .sc (.bl _) (good_bl _) (fun a z => by cases z)
      | 3, hx => obtain rfl : V.int 0 = x := Option.some.inj hx; exact .sc (.int _) (good_int (by decide)) (fun a z => by cases z)
      | 4, hx => obtain rfl : V.str w = x := Option.some.inj hx; exact .sc (.str _) (good_w hw) (fun a z => by cases z)
      | 5, hx => obtain rfl : V.int (-sd) = x := Option.some.inj hx; exact .sc (.int _) (good_int (by omega)) (fun a z => by cases z)
      | 6, hx => obtain rfl : V.ref t = x := Option.some.inj hx; exact .t4 ht (put ht (S2t _ _ Et))
      | 7, hx => obtain rfl : V.ref t2 = x := Option.some.inj hx; exact .tl n2 n1 (put n2 (S2t2 _ _ Et2)) (put n1 (S2m _ _ Em))
      | 8, hx => obtain rfl : V.ref dd = x := Option.some.inj hx; exact .d n3 n4 (put n3 (S26 _ _ Edd)) (put n4 (S26 _ _ Em2))
      | 9, hx => obtain rfl : V.ref m3 = x := Option.some.inj hx; exact .l n5 (put n5 (S2m3 _ _ Em3))
      | 10, hx =>
        obtain rfl : V.ref q = x := Option.some.inj hx
        refine .ld n8 (put n8 (S2q _ _ Eq)) (put n6 (S2m4 _ _ Em4)) (put n7 (S2d2 _ _ Ed2)) fun z => ?_
        have h1 := S10 _ _ Em4
        rw [← z, hq] at h1
        cases h1
      | i + 11, hx => cases hx
    have El2 : H2 l = some (.lst [.ref p]) := hB2 _ _ nlp hl0
    have El3 : H3 l = some (.lst [.ref p]) := hB3 _ _ nlp (S2B _ _ El2)
    clear S1 Et S2 Em S3 Et2 S4 Edd0 S5 Em20 S36 Edd Em2 S7 Epl S8 Em3 S9 Em4 S10 Ed2 S11 Eq S12 Eq2 S76 S13 Ell S27 S2B hx hB3 put n1 n2 n3 n4 n5 n6 n7 n8 S2t S2m S2t2 S26 S2m3 S2m4 S2d2 S2q em1 em2 ap ht hm ht2 hdd hm2 hpl hm3 hm4 hd2 hq hq2 hll llp
    obtain ⟨d0, hr0, gd1, gd2, gd3⟩ := hTh.rp hw
    refine ⟨_, rfl, x, d0, rfl, hr0, gd1, gd2, gd3, ?_⟩
    refine ⟨_, rfl, x, rfl, fun l1 es1 H4 s4 nl1 e1 x1' => ?_⟩
    refine ⟨_, rfl, x, rfl, fun l2 es2 H5 s5 nl2 e2 x2' => ?_⟩
    refine ⟨_, rfl, by show 2 ≤ sizeLine; decide, fun tq htq => ⟨.ref tq, rfl, fun l3 es3 H6 s6 nl3 e3 x3' => ⟨_, _, _, rfl, ?_⟩⟩⟩
    have hN : PyData.shown .none = "None" := by simp only [PyData.shown]
    have htS := upS (u := .tup [.str "later", .str w]) htq
    have Etq : L2.upd H5 tq (.tup [.str "later", .str w]) tq = some (.tup [.str "later", .str w]) := upd_same
    generalize L2.upd H5 tq (.tup [.str "later", .str w]) = H5' at s6 nl3 htS Etq
    -- not right(bare(), 'None') or not right(later, ..)
    refine ⟨rfl, fun l4 es4 H7 s7 nl4 e4 x4' => ?_⟩
    refine ⟨l4, es4, .non, .none, by rw [hN], e4, x4', .non, good_non.1, good_non.2.1, good_non.2.2, fun H8 s8' => ⟨_, rfl, iteF ?_⟩⟩
    refine ⟨_, rfl, _, rfl, by show 2 ≤ sizeLine; decide, fun tr htr => ?_⟩
    have S69 : Same H6 (L2.upd H8 tr (.tup [.str "later", .str w])) := (s7.trans s8').trans (upS htr)
    have Etr : L2.upd H8 tr (.tup [.str "later", .str w]) tr = some (.tup [.str "later", .str w]) := upd_same
    generalize L2.upd H8 tr (.tup [.str "later", .str w]) = H9 at S69 Etr ⊢
    have gl := good_lt hw
    refine ⟨.ref tr, .tuple [.str "later", .str w], rfl, .tup Etr (.cons (.str _) (.cons (.str _) .nil)), gl.1, gl.2.1, gl.2.2, ?_⟩
    refine ⟨l3, es3, .ref tq, .tuple [.str "later", .str w], rfl, S69 _ _ e3, x3'.keep (.same S69), .tup (S69 _ _ (s6 _ _ Etq)) (.cons (.str _) (.cons (.str _) .nil)), gl.1, gl.2.1, gl.2.2, fun H10 s10' => ⟨_, rfl, iteF ?_⟩⟩
    -- not right(some, noted) or not right(called, noted)
    have S4_10 : Same H4 H10 := s5.trans (htS.trans (s6.trans (S69.trans s10')))
    have S5_10 : Same H5 H10 := htS.trans (s6.trans (S69.trans s10'))
    have S3_10 : Same H3 H10 := s4.trans S4_10
    refine ⟨_, rfl, _, rfl, l1, es1, x, d0, rfl, S4_10 _ _ e1, x1'.keep (.same S4_10), Rp_same S3_10 hr0, gd1, gd2, gd3, fun H11 s11 => ⟨_, rfl, iteF ?_⟩⟩
    refine ⟨_, rfl, _, rfl, l2, es2, x, d0, rfl, s11 _ _ (S5_10 _ _ e2), x2'.keep (.same (S5_10.trans s11)), Rp_same (S3_10.trans s11) hr0, gd1, gd2, gd3, fun H12 s12 => ⟨_, rfl, iteF ?_⟩⟩
    -- the thing is changed
    have S3_12 : Same H3 H12 := S3_10.trans (s11.trans s12)
    refine mutate (K := K) (w := w) (x := x) (H0 := H2) (Hb := H3) rfl rfl hw hTh S3_12 fun H13 d' hM hr' hg' => ?_
    -- not right(some, repr(thing)) or not right(called, repr(thing))
    have e1' : H13 l1 = some (.lst es1) := hM.new nl1 (s12 _ _ (s11 _ _ (S4_10 _ _ e1)))
    have e2' : H13 l2 = some (.lst es2) := hM.new (Same.free s4 nl2) (s12 _ _ (s11 _ _ (S5_10 _ _ e2)))
    have x1'' : Exs H13 x (cs28 c) es1 := (x1'.keep (.same (S4_10.trans (s11.trans s12)))).keep hM.keepX
    have x2'' : Exs H13 x (cs28 c) es2 := (x2'.keep (.same (S5_10.trans (s11.trans s12)))).keep hM.keepX
    refine ⟨_, rfl, _, rfl, x, d', rfl, hr', hg'.1, hg'.2.1, hg'.2.2, l1, es1, x, d', rfl, e1', x1'', hr', hg'.1, hg'.2.1, hg'.2.2, fun H14 s14 => ⟨_, rfl, iteF ?_⟩⟩
    refine ⟨_, rfl, _, rfl, x, d', rfl, Rp_same s14 hr', hg'.1, hg'.2.1, hg'.2.2, l2, es2, x, d', rfl, s14 _ _ e2', x2''.keep (.same s14), Rp_same s14 hr', hg'.1, hg'.2.1, hg'.2.2, fun H15 s15 => ⟨_, rfl, iteF ?_⟩⟩
    exact ⟨s15 _ _ (s14 _ _ (hM.old El2 (S3_12 _ _ El3))), ⟨_, _, _, _, _, _, _, _, _, _, rfl⟩, fun z => by cases z⟩
  · rintro σ H2 ⟨_, ⟨x1, x2, x3, x4, x5, x6, x7, x8, x9, x10, rfl⟩, _⟩
    intro b1 hb1
    have s1' := upS (u := exo b1 (c 28) none) hb1
    have E1 : L2.upd H2 b1 (exo b1 (c 28) none) b1 = some (exo b1 (c 28) none) := upd_same
    generalize L2.upd H2 b1 (exo b1 (c 28) none) = H3 at s1' E1 ⊢
    intro b2 hb2
    have s2' := upS (u := exo b2 (c 29) none) hb2
    have E2 : L2.upd H3 b2 (exo b2 (c 29) none) b2 = some (exo b2 (c 29) none) := upd_same
    generalize L2.upd H3 b2 (exo b2 (c 29) none) = H4 at s2' E2 ⊢
    refine ⟨by show 2 ≤ sizeLine; decide, fun rl hrl => ?_⟩
    have s3' := upS (u := .lst [.ref b1, .ref b2]) hrl
    have Er : L2.upd H4 rl (.lst [.ref b1, .ref b2]) rl = some (.lst [.ref b1, .ref b2]) := upd_same
    generalize L2.upd H4 rl (.lst [.ref b1, .ref b2]) = H5 at s3' Er ⊢
    have E1' : H5 b1 = some (exo b1 (c 28) none) := s3' _ _ (s2' _ _ E1)
    have E2' : H5 b2 = some (exo b2 (c 29) none) := s3' _ _ E2
    refine ⟨_, rfl, rl, rfl, ⟨_, SqL.of Er⟩, fun D hD => ?_⟩
    refine lc_list (xs := [.ref b1, .ref b2]) (fun i H' => Same H5 H' ∧ ∃ rs, OnesAt 28 H' D rs i) ⟨upS hD, [], upd_same, rfl, fun j x e => by simp at e⟩ (fun i H' _ h => Same.seq h.1 (SqL.of Er)) ?_ ?_
    · rintro i x H' hi ⟨hs, rs, ho⟩
      have hx : ∃ b, x = .ref b ∧ IsEx H' b (c (28 + i)) ∧ i < 2 := by
        match i, hi with
        | 0, hi => exact ⟨b1, (Option.some.inj hi).symm, .inl (hs _ _ E1'), by decide⟩
        | 1, hi => exact ⟨b2, (Option.some.inj hi).symm, .inl (hs _ _ E2'), by decide⟩
        | i + 2, hi => cases hi
      obtain ⟨b, rfl, hx, hi2⟩ := hx
      refine ⟨rfl, _, rfl, b, 28 + i, rfl, by omega, hx, fun q H6 s6 n6 e6 => ?_⟩
      have e3 : H6 q = some (.lst [.int ((28 + i : Nat) : Int)]) := by rw [e6]; unfold codes; rw [if_pos (by omega)]
      have ne : q ≠ D := fun z => by rw [z, ho.1] at n6; cases n6
      exact ⟨rs, s6 _ _ ho.1, by rw [ho.2.1, PySem.sizeLine_eq]; omega, upS2 hD (hs.trans s6), _, (ho.same s6).push e3 ne⟩
    · rintro H6 ⟨s6, rs, ho⟩
      refine ⟨by show 1 ≤ sizeLine; decide, fun q1 hq1 => ?_⟩
      have t1 := upS (u := .lst [.int 28]) hq1
      have Eq1 : L2.upd H6 q1 (.lst [.int 28]) q1 = some (.lst [.int 28]) := upd_same
      generalize L2.upd H6 q1 (.lst [.int 28]) = H7 at t1 Eq1 ⊢
      refine ⟨by show 1 ≤ sizeLine; decide, fun q2 hq2 => ?_⟩
      have t2 := upS (u := .lst [.int 29]) hq2
      have Eq2 : L2.upd H7 q2 (.lst [.int 29]) q2 = some (.lst [.int 29]) := upd_same
      generalize L2.upd H7 q2 (.lst [.int 29]) = H8 at t2 Eq2 ⊢
      refine ⟨by show 2 ≤ sizeLine; decide, fun q3 hq3 => ?_⟩
      have t3 := upS (u := .lst [.ref q1, .ref q2]) hq3
      have Eq3 : L2.upd H8 q3 (.lst [.ref q1, .ref q2]) q3 = some (.lst [.ref q1, .ref q2]) := upd_same
      generalize L2.upd H8 q3 (.lst [.ref q1, .ref q2]) = H9 at t3 Eq3 ⊢
      have s69 : Same H6 H9 := t1.trans (t2.trans t3)
      have dp2 : Dp K H9 (.ref q3) (.list (ones 28 2)) := .lst (SqL.of Eq3) (.cons (.lst (SqL.of (t3 _ _ (t2 _ _ Eq1))) (.cons (.int _) .nil)) (.cons (.lst (SqL.of (t3 _ _ Eq2)) (.cons (.int _) .nil)) .nil))
      refine ⟨.list (ones 28 2), .list (ones 28 2), (ho.same s69).dp, dp2, ones_shaped 28 2, ones_shaped 28 2, ?_⟩
      rw [ones_eqv]
      refine ⟨_, rfl, iteF ?_⟩
      -- the third
      have s59 : Same H5 H9 := s6.trans s69
      refine ⟨_, rfl, .inl ⟨rfl, _, SqL.of (s59 _ _ Er)⟩, fun b3 hb3 => ?_⟩
      have t4 := upS (u := exo b3 (c 30) none) hb3
      have E3 : L2.upd H9 b3 (exo b3 (c 30) none) b3 = some (exo b3 (c 30) none) := upd_same
      generalize L2.upd H9 b3 (exo b3 (c 30) none) = H10 at t4 E3 ⊢
      refine ⟨rl, _, _, rfl, rfl, t4 _ _ (s59 _ _ Er), by rw [PySem.sizeLine_eq]; show (2 : Nat) < _; decide, ?_⟩
      have kx : KeepX H10 (L2.upd H10 rl (.lst ([.ref b1, .ref b2] ++ [.ref b3]))) := fun b => by
        have hr := t4 _ _ (s59 _ _ Er)
        refine ⟨fun C d e => ?_, fun fs e => ?_⟩
        · have ne : b ≠ rl := fun z => by rw [z, hr] at e; cases e
          rw [upd_ne ne]; exact e
        · have ne : b ≠ rl := fun z => by rw [z, hr] at e; cases e
          rw [upd_ne ne]; exact e
      have F1 : IsEx (L2.upd H10 rl (.lst ([.ref b1, .ref b2] ++ [.ref b3]))) b1 (c 28) := IsEx.keep (.inl (t4 _ _ (s59 _ _ E1'))) kx
      have F2 : IsEx (L2.upd H10 rl (.lst ([.ref b1, .ref b2] ++ [.ref b3]))) b2 (c 29) := IsEx.keep (.inl (t4 _ _ (s59 _ _ E2'))) kx
      have F3 : IsEx (L2.upd H10 rl (.lst ([.ref b1, .ref b2] ++ [.ref b3]))) b3 (c 30) := IsEx.keep (.inl E3) kx
      have Er2 : L2.upd H10 rl (.lst ([.ref b1, .ref b2] ++ [.ref b3])) rl = some (.lst [.ref b1, .ref b2, .ref b3]) := upd_same
      generalize L2.upd H10 rl (.lst ([.ref b1, .ref b2] ++ [.ref b3])) = H11 at kx F1 F2 F3 Er2 ⊢
      refine ⟨_, rfl, rl, rfl, ⟨_, SqL.of Er2⟩, fun D2 hD2 => ?_⟩
      refine lc_list (xs := [.ref b1, .ref b2, .ref b3]) (fun i H' => Same H11 H' ∧ H' D2 = some (.lst (List.replicate i (.bl true)))) ⟨upS hD2, upd_same⟩ (fun i H' _ h => Same.seq h.1 (SqL.of Er2)) ?_ ?_
      · rintro i x H' hi ⟨hs, ho2⟩
        have hx : ∃ b j, x = .ref b ∧ j < 31 ∧ IsEx H' b (c j) ∧ i < 3 := by
          match i, hi with
          | 0, hi => exact ⟨b1, 28, (Option.some.inj hi).symm, by decide, IsEx.keep F1 (.same hs), by decide⟩
          | 1, hi => exact ⟨b2, 29, (Option.some.inj hi).symm, by decide, IsEx.keep F2 (.same hs), by decide⟩
          | 2, hi => exact ⟨b3, 30, (Option.some.inj hi).symm, by decide, IsEx.keep F3 (.same hs), by decide⟩
          | i + 3, hi => cases hi
        obtain ⟨b, j, rfl, hj, hx, hi3⟩ := hx
        refine ⟨rfl, _, rfl, b, j, rfl, hj, hx, _, ho2, by rw [List.length_replicate, PySem.sizeLine_eq]; omega, upS2 hD2 hs, ?_⟩
        rw [upd_same, List.replicate_succ']
      · rintro H12 ⟨s12, ho2⟩
        refine ⟨D2, [true, true, true], rfl, SqL.of ho2, _, rfl, iteT ?_⟩
        refine ⟨_, rfl, rl, _, _, _, rfl, rfl, SqL.of (s12 _ _ Er2), rfl, b3, 30, rfl, by decide, IsEx.keep F3 (.same s12), fun q4 H13 s13 n13 e13 => ?_⟩
        refine ⟨by show 0 ≤ sizeLine; omega, fun q5 hq5 => ?_⟩
        have t5 := upS (u := .lst []) hq5
        refine ⟨.list [], .list [], .lst (SqL.of (t5 _ _ e13)) .nil, .lst (SqL.of upd_same) .nil, nil_shaped, nil_shaped, ?_⟩
        rw [nil_eqv]
        exact k _
end
end K1
set_option Elab.async false
set_option linter.all false
set_option maxRecDepth 100000
set_option maxHeartbeats 4000000
/-! Grd2: the law's end for FnG. -/
namespace Grd
open PySem PySem.Spec PyProof.Rows L2
/-- the heap H tracks the script alone (or nothing), the base is all the rest -/
structure Seen (P : Program) (w : World) (K : PySem.W.Frag) (h : Heap) (a : Addr) (ns : List Int) (H : Hp) : Prop where
  only : ∀ b, H b = none ∨ (b = a ∧ H b = some (.frz { cls := .type "list", data := ((h.get? a).map (·.data)).getD .plain } (.lst (ns.map V.int))))
  seq : SqL K H a (ns.map V.int)
  ok : HOk P w H h
  notK : H a ≠ none → K.lookup a = none
section
variable {P : Program} {w : World} {K : PySem.W.Frag} {mg mb : Str → Option Value} {k : Nat} {fa a : Addr} {fd : FuncData} {x : Str} {sp : Sp} {s₁ : Shared} {vs : List Value} {ns : List Int}
theorem seen_K {oh : Obj} (KX : K.In s₁.heap) (ha : s₁.heap.get? a = some { cls := .type "list", data := .seq vs.toArray }) (hi : IntsAre vs ns) (hl : ns.length ≤ sizeLine) (hk : K.lookup a = some oh) : Seen P w K s₁.heap a ns (fun _ => none) := by
  have e := KX a oh hk
  rw [ha] at e
  obtain rfl := Option.some.inj e
  refine ⟨fun _ => .inl rfl, .inr ⟨_, vs.toArray, _, hk, rfl, rfl, rfl, ?_, by simpa using vals_ints hi⟩, fun b u z => (by have z2 : (none : Option HO) = some u := z; cases z2), fun z => absurd rfl z⟩
  rw [List.size_toArray, hi.length]
  exact hl
theorem seen_new (ha : s₁.heap.get? a = some { cls := .type "list", data := .seq vs.toArray }) (hi : IntsAre vs ns) (hl : ns.length ≤ sizeLine) (hk : K.lookup a = none) :
    Seen P w K s₁.heap a ns (fun b => if b = a then some (.frz { cls := .type "list", data := .seq vs.toArray } (.lst (ns.map V.int))) else none) := by
  refine ⟨fun b => ?_, .inl (.inr ⟨{ cls := .type "list", data := .seq vs.toArray }, if_pos rfl⟩), fun b u z => ?_, fun _ => hk⟩
  · by_cases hb : b = a
    · exact .inr ⟨hb, by rw [if_pos hb, ha]; rfl⟩
    · exact .inl (if_neg hb)
  · have z' : (if b = a then some (HO.frz { cls := .type "list", data := .seq vs.toArray } (.lst (ns.map V.int))) else none) = some u := z
    by_cases hb : b = a
    · rw [if_pos hb] at z'
      obtain rfl := Option.some.inj z'
      subst hb
      exact ⟨ha, by rw [List.length_map]; exact hl, vs, _, vals_ints hi, ha⟩
    · rw [if_neg hb] at z'
      cases z'
theorem law_callG (KX : K.In s₁.heap) (hns : s₁.heap.Ns mainGlobals mg) (hb : s₁.heap.Ns builtinsNs mb) (hbb : ∀ x : Str, x ≠ "__name__" → mb x = bootBuiltins x) (hlim : s₁.heap.NoLimit) (hg : s₁.gens = #[])
    (ha : s₁.heap.get? a = some { cls := .type "list", data := .seq vs.toArray }) (hi : IntsAre vs ns) (hl : ns.length ≤ sizeLine) (hr : RoomG k callerA)
    (F : ∀ base : Heap, K.In base → base.Ns mainGlobals mg → FnG P w K mg base k fa fd [x] sp) (hbind : ∀ (s : Shared) (u : Value), BindsTo s fd ⟨[u], []⟩ [(x, u)])
    (hsp : ∀ H : Hp, Only H → SqL K H a (ns.map V.int) → sp [.ref a] H (fun v _ => v = .bl true) fun _ _ _ => False) :
    codeAny (model P w) callerA (.call (.ref fa) ⟨[.ref a], []⟩) (fun r s' => r = .ok (.ret (.bool true)) ∧ OldK s₁.heap s'.heap ∧ s'.os = s₁.os ∧ AllBare s'.gens) s₁ := by
  obtain ⟨H, S⟩ : ∃ H, Seen P w K s₁.heap a ns H := by
    cases hk : K.lookup a with
    | some o => exact ⟨_, seen_K KX ha hi hl hk⟩
    | none => exact ⟨_, seen_new ha hi hl hk⟩
  -- what is no list stays in the base
  have keepK : ∀ {b : Addr} {o : Obj}, K.lookup b = some o → H b = none := fun {b o} e => by
    rcases S.only b with z | ⟨z, z2⟩
    · exact z
    · have n := S.notK (by rw [← z, z2]; exact fun q => nomatch q)
      rw [← z, e] at n
      cases n
  have keepD : ∀ {b : Addr} {o : Obj} {es : Array DictEntry} {ep : Nat}, s₁.heap.get? b = some o → o.data = .dict es ep → H b = none := fun {b o es ep} e d => by
    rcases S.only b with z | ⟨z, _⟩
    · exact z
    · rw [z, ha] at e
      obtain rfl := Option.some.inj e
      cases d
  have nsB : ∀ {b : Addr} {m : Str → Option Value}, s₁.heap.Ns b m → (hidT s₁.heap H).Ns b m := fun {b m} ⟨o, es, ep, e, d, r⟩ => ⟨o, es, ep, hidT_get e (keepD e d), d, r⟩
  have KB : K.In (hidT s₁.heap H) := fun b o e => hidT_get (KX b o e) (keepK e)
  obtain ⟨mc, h1, h2⟩ := hlim
  have e0 : Env0 P w K mg (hidT s₁.heap H) callerA [] s₁ H :=
    ⟨rfl, ⟨KB, nsB hns, ⟨mb, nsB hb, hbb⟩, ⟨mc, nsB h1, h2⟩⟩, fun b o e => of_hidT e, Nat.le_of_eq (hidT_size _ _), trivial, fun b hb => absurd (show b ∈ ([] : List Addr) from hb) (by simp), S.ok, .of_eq hg⟩
  have hO : Only H := fun b => (S.only b).imp _root_.id fun z => ⟨_, _, z.2⟩
  refine codeAny_mono ((F _ KB (nsB hns)).run callerA [] s₁ H ⟨[.ref a], []⟩ [.ref a] [.ref a] _ _ hr e0 (hbind s₁ (.ref a)) (.cons rfl .nil) (hsp H hO S.seq)) fun r s' h => ?_
  cases r with
  | error e => exact h.elim
  | ok fl =>
    cases fl with
    | next => exact False.elim h
    | brk => exact False.elim h
    | cont => exact False.elim h
    | ret u =>
      obtain ⟨v, H', os, bare, un, ok', r', q⟩ := h
      obtain rfl : v = .bl true := q
      obtain rfl : u = Value.bool true := r'
      refine ⟨rfl, OldK.of_keep fun b o e => ?_, os, bare⟩
      cases q : H b with
      | none => exact un.keep b o e q (by intro z; exact absurd (show b ∈ ([] : List Addr) from z) (by simp)) (by simp)
      | some u =>
        rcases hO b with z | ⟨ob, xs, z⟩
        · rw [q] at z
          cases z
        · obtain ⟨e1, _⟩ := S.ok b _ z
          obtain ⟨e2, _⟩ := ok' b _ (un.frzs b ob _ z)
          rw [e] at e1
          obtain rfl := Option.some.inj e1
          exact e2
end
/-- a law whose def is an FnG: what the head leaves -/
theorem walk_G {l : PySem.W.OpenLaw} {n k : Nat} {q : Program} {loose : List Str} {XP : (Str → Option Value) → Heap → Prop} {YP : World → Heap → Prop} {d : DefRec} {x : Str}
    (hn : l.most = some n) (hn2 : n ≤ sizeLine) (hdf : d.params.defaults = []) (hr : RoomG k callerA)
    (F : ∀ (w : World) (mg : Str → Option Value) (fa : Addr) (h : Heap), YP w h → h.Ns mainGlobals mg → mg d.name = some (.ref fa) →
      ∃ (K : PySem.W.Frag) (fd : FuncData) (sp : Sp), K.In h ∧ (∀ (s : Shared) (u : Value), BindsTo s fd ⟨[u], []⟩ [(x, u)]) ∧
        (∀ (H : Hp) (a : Addr) (ns : List Int), ns.length ≤ n → Only H → SqL K H a (ns.map V.int) → sp [.ref a] H (fun v _ => v = .bl true) fun _ _ _ => False) ∧
        ∀ base : Heap, K.In base → base.Ns mainGlobals mg → FnG l.prog w K mg base k fa fd [x] sp) :
    PySem.W.WalkO q loose XP YP l.row.toRowW d [] (fun f vs => PySem.call f vs) := by
  refine Att.attach_call hn hdf fun w s₀ s₁ mg mb fa o pm cd doc a vs ns G Y ho hd hcd hmg hobj hints hlen hg => ?_
  obtain ⟨K, fd, sp, KX, hb, hsp, hF⟩ := F w mg fa _ Y G.T.g hmg
  exact law_callG KX G.T.g G.T.b G.T.builtins G.T.nolimit hg hobj hints (Nat.le_trans hlen hn2) hr hF hb fun H hO hS => hsp H a ns hlen hO hS
end Grd
set_option Elab.async false
set_option linter.all false
set_option maxRecDepth 100000
set_option maxHeartbeats 0
/-! K1h: the head's facts of the classes of errors, read by a Hook. -/
namespace K1
open PySem PySem.Spec PyProof.Rows L2 XM Grd He
/-! ### one class with that __init__, of the global name x -/
def fl : Str := "/claim/cut.py"
def clsB (K : PySem.W.Frag) (C : Addr) : Bool := match K.lookup C with
  | some ⟨.type "type", _, .cls cd, sl⟩ => (match cd.mro, sl.toList with
    | .ref C' :: bm, [_, _, _, _, some (.builtin n), _] => C' == C && (n == "ValueError.__new__" && (!cd.hasDel && (cd.hasDict && PySem.HandSPX.refsVE bm)))
    | _, _ => false)
  | _ => false
theorem clsB_ok {K : PySem.W.Frag} {C : Addr} (h : clsB K C = true) : ∃ nm q N bs bm sn sub ab col dd k0 k1 k2 k3 k5, K.lookup C = some (excClassObj nm q C N bs bm true sn sub ab col dd k0 k1 k2 k3 k5 "ValueError.__new__") ∧ PySem.HandSPX.refsVE bm = true := by
  unfold clsB at h
  split at h
  · rename_i dd cd sl ho
    split at h
    · rename_i C' bm k0 k1 k2 k3 n k5 hm hs
      obtain ⟨h1, h⟩ := ba h
      obtain ⟨h2, h⟩ := ba h
      obtain ⟨h3, h⟩ := ba h
      obtain ⟨h4, h5⟩ := ba h
      obtain rfl : C' = C := beq_iff_eq.mp h1
      obtain rfl : n = "ValueError.__new__" := beq_iff_eq.mp h2
      obtain ⟨nm, bs, mro, ns, qn, hd, sn, sub, ab, col, del⟩ := cd
      dsimp only at hm h3 h4
      obtain rfl : del = false := by simpa using h3
      subst hm h4
      have hsl : sl = #[k0, k1, k2, k3, some (.builtin "ValueError.__new__"), k5] := by
        rw [← hs]
      subst hsl
      exact ⟨_, _, _, _, _, _, _, _, _, _, _, _, _, _, _, ho, h5⟩
    · cases h
  · cases h
def initB (K : PySem.W.Frag) (C fI : Addr) : Bool := match K.lookup fI with
  | some ⟨_, _, .func fd, _⟩ => (match fd.closure, fd.defaults, fd.code with
    | [(nm, cc)], .ref T, .ref cda => nm == ("__class__" : Str) && (PySem.W.codeIn K (.ref cda) fd.qualname && ((match K.lookup cda with
        | some ⟨_, _, .fields vs, _⟩ => (match (vs[2]? : Option Value) with
          | some (Value.str f _) => fl == f
          | _ => false)
        | _ => false) && ((match K.lookup cc with
        | some ⟨_, _, .cell (some (.ref C')), _⟩ => C' == C
        | _ => false) && (match K.lookup T with
        | some ⟨_, _, .seq its _, _⟩ => (match its.toList with
          | [.none] => true
          | _ => false)
        | _ => false))))
    | _, _, _ => false)
  | _ => false
abbrev FnI : Type := Option (Str × Str × Arguments × FuncBody × Scope × Addr × Addr)
def fnI (K : PySem.W.Frag) (x : Str) : FnI := match K.lookup (ma K (ga K x) "__init__") with
  | some ⟨_, _, .func fd, _⟩ => some (fd.name, fd.qualname, fd.params, fd.body, fd.scope, fd.globals, fd.builtins)
  | _ => none
/-- one such class: its name, the place of its def -/
structure ErrD where
  name : Str
  qual : Str
  line : Nat
def ErrD.val (d : ErrD) : FnI := some (("__init__" : Str), d.qual, PySem.XM.iA d.line, .stmts (PySem.XM.iB (d.line + 1) (d.line + 2)), PySem.XM.iS, mainGlobals, builtinsNs)
def xB (K : PySem.W.Frag) (x : Str) : Bool :=
  clsB K (ga K x) && (eqO (PySem.W.findIn K (.ref (ga K x)) "__setattr__") (some (some (.builtin "object.__setattr__"))) && (eqO (PySem.W.findIn K (.ref (ga K x)) "value") (some none) &&
  (eqO (PySem.W.findIn K (.ref (ga K x)) "__init__") (some (some (.ref (ma K (ga K x) "__init__")))) && (decide (PySem.W.typeIn K (.ref (ma K (ga K x) "__init__")) = some (.type "function")) &&
  (PySem.W.keepIn K (.ref (ga K x)) && (decide (PySem.W.subIn K (.ref (ga K x)) (.type "BaseException") = some true) && (decide (PySem.W.typeIn K (.ref (ga K x)) = some (.type "type")) &&
  (decide (PySem.W.subIn K (.ref (ga K x)) (.type "ValueError") = some true) && (decide (PySem.W.mroIn K (ga K x) (.ref (ga K x)) = some true) && (eqO (PySem.W.ks_superIn K (ga K x) (ga K x) "__init__") (some (some (.builtin "ValueError.__init__"))) &&
  initB K (ga K x) (ma K (ga K x) "__init__")))))))))))
theorem xB_ok {P : Program} {K : PySem.W.Frag} {d : ErrD} (hf : (P.main.file : Str) = fl) (hp : (P.main.scope.names.lookup ("super" : Str)).isSome = false) (hs : PySem.W.nsIn K mainGlobals "super" = some none) (ho : PySem.W.nsIn K cStatics "thirdparty.any" = some none)
    (h : xB K d.name = true) (e : fnI K d.name = d.val) : PySem.XM.XTxt P K (ga K d.name) (ma K (ga K d.name) "__init__") := by
  unfold xB at h
  obtain ⟨h1, h⟩ := ba h
  obtain ⟨h2, h⟩ := ba h
  obtain ⟨h3, h⟩ := ba h
  obtain ⟨h4, h⟩ := ba h
  obtain ⟨h5, h⟩ := ba h
  obtain ⟨h6, h⟩ := ba h
  obtain ⟨h7, h⟩ := ba h
  obtain ⟨h8, h⟩ := ba h
  obtain ⟨h9, h⟩ := ba h
  obtain ⟨h10, h⟩ := ba h
  obtain ⟨h11, h12⟩ := ba h
  refine ⟨clsB_ok h1, eqO_ok h2, eqO_ok h3, eqO_ok h4, of_decide_eq_true h5, h6, of_decide_eq_true h7, of_decide_eq_true h8, of_decide_eq_true h9, of_decide_eq_true h10, eqO_ok h11, ho, hs, hp, ?_⟩
  unfold fnI at e
  unfold initB at h12
  cases q : K.lookup (ma K (ga K d.name) "__init__") with
  | none => rw [q] at h12; cases h12
  | some o =>
    obtain ⟨oc, od, dt, osl⟩ := o
    rw [q] at h12 e
    cases dt with
    | func fd =>
      obtain ⟨n1, n2, n3, n4, n5, n6, n7, n8, n9, n10, n11, n12, n13, n14, n15⟩ := fd
      have e2 : (some (n1, n2, n3, n4, n5, n6, n15) : FnI) = some (("__init__" : Str), d.qual, PySem.XM.iA d.line, .stmts (PySem.XM.iB (d.line + 1) (d.line + 2)), PySem.XM.iS, mainGlobals, builtinsNs) := e
      simp only [Option.some.injEq, Prod.mk.injEq] at e2
      obtain ⟨k1, k2, k3, k4, k5, k6, k7⟩ := e2
      subst k1 k2 k3 k4 k5 k6 k7
      dsimp only at h12
      split at h12
      · rename_i nm cc T cda
        obtain ⟨a1, h⟩ := ba h12
        obtain ⟨a2, h⟩ := ba h
        obtain ⟨a3, h⟩ := ba h
        obtain ⟨a4, a5⟩ := ba h
        obtain rfl : nm = "__class__" := beq_iff_eq.mp a1
        split at a3
        · rename_i ocd odd vs osd w1
          split at a3
          · rename_i f tf w2
            split at a4
            · rename_i occ occd C' osc w3
              obtain rfl : C' = ga K d.name := beq_iff_eq.mp a4
              split at a5
              · rename_i oc5 od5 its n5 osl5 w4
                split at a5
                · rename_i w5
                  have w6 : its = #[.none] := by
                    rw [← Array.toList_inj, w5]
                  subst w6
                  exact ⟨d.line, d.line + 1, d.line + 2, d.qual, oc, ocd, occ, od, odd, occd, _, T, _, _, _, _, _, cda, cc, vs, f, tf, osl, osd, osc, _, rfl, a2, w1, w2, by rw [hf]; exact a3, w3, w4, rfl⟩
                · cases a5
              · cases a5
            · cases a4
          · cases a3
        · cases a3
      · cases h12
    | _ => cases h12
/-- AskC -/
def askB (K : PySem.W.Frag) (x : Str) : Bool :=
  (PySem.W.clsIn K (ga K x)).isSome && (eqO (PySem.W.findIn K (.ref (ga K x)) "__getattribute__") (some (some (.builtin "BaseException.__getattribute__"))) && (eqO (PySem.W.findIn K (.ref (ga K x)) "__getattr__") (some none) &&
  (decide (PySem.W.subIn K (.ref (ga K x)) (.type "BaseException") = some true) && (PySem.W.hasDictIn K (ga K x) && (eqO (PySem.W.findIn K (.ref (ga K x)) "__class__") (some (some (.builtin "object.__class__"))) &&
  (decide (PySem.W.mroIn K (ga K x) (.type "object") = some true) && decide (PySem.W.typeIn K (.ref (ga K x)) = some (.type "type"))))))))
theorem askB_ok {K : PySem.W.Frag} {x : Str} (cg : PySem.W.specialIn K (.builtin "object.__class__") "__get__" = some (some (.builtin "getset_descriptor.__get__"))) (ct : PySem.W.takesIn K (.builtin "object.__class__") = some true) (h : askB K x = true) : AskC K (ga K x) := by
  unfold askB at h
  obtain ⟨h1, h⟩ := ba h
  obtain ⟨h2, h⟩ := ba h
  obtain ⟨h3, h⟩ := ba h
  obtain ⟨h4, h⟩ := ba h
  obtain ⟨h5, h⟩ := ba h
  obtain ⟨h6, h⟩ := ba h
  obtain ⟨h7, h8⟩ := ba h
  exact ⟨h1, eqO_ok h2, eqO_ok h3, of_decide_eq_true h4, h5, eqO_ok h6, cg, ct, of_decide_eq_true h7⟩
/-! ### the Hook -/
def mroB (K : PySem.W.Frag) (x : Str) : Bool := decide ((PySem.W.clsIn K (ga K x)).map (·.mro) = some (.ref (ga K x) :: (if ga K x = ga K "SpreadError" then PySem.HandSPX.veTail else .ref (ga K "SpreadError") :: PySem.HandSPX.veTail)))
def dD (x : Str) (i : Nat) : DefD := ⟨(x, none), x, x, defArgs (top i), defBody (top i), defScope (top i), [], []⟩
def dfs : List DefD := [dD "_law_purse" 33, dD "_law_mixed" 34, dD "_law_draw" 35, dD "_law_purses" 36, dD "_law_one_of" 37, dD "_law_word" 38, dD "_law_first" 39, dD "_law_called" 40, dD "_law_bare" 41, dD "_law_code" 42, dD "_law_is_error" 43, dD "_law_right" 44, dD "law" 45]
def glos : List Str := ["_law_purse", "_law_mixed", "_law_draw", "_law_purses", "_law_one_of", "_law_word", "_law_first", "_law_called", "_law_bare", "_law_code", "_law_is_error", "_law_right"]
def frees : List Str := ["sum", "int", "max", "min", "len", "range", "isinstance", "ValueError", "repr", "list", "dict", "tuple", "all"]
def eD (i : Nat) : ErrD := ⟨nmAt i, nmAt i ++ ".__init__", 6 + 5 * i⟩
def errs : List ErrD := (List.range 28).map eD
def obsB (K : PySem.W.Frag) : Bool := (dfs.all fun d => d.ok K) && ((glos.all fun x => (Fa.glo x).ok K) && ((frees.all fun x => (Fa.free x).ok K) && ((Fa.glo "law").ok K && ((Fa.free "super").ok K &&
  ((errs.all fun d => xB K d.name) && ((nms.all fun x => (Fa.glo x).ok K && (askB K x && mroB K x)) && (((["NothingToUndo", "NothingToRedo", "SpreadError"] : List Str).all fun x => (Fa.exc x).ok K) &&
  ((K.lookup sysModules).isSome && (eqO (PySem.W.nsIn K cStatics "thirdparty.any") (some none) && (eqO (PySem.W.specialIn K (.builtin "object.__class__") "__get__") (some (some (.builtin "getset_descriptor.__get__"))) &&
  (decide (PySem.W.takesIn K (.builtin "object.__class__") = some true) && decide ((nms.map (ga K)).Nodup))))))))))))
abbrev AlX : Type := Bool × List FnW × List FnI
def obsX (K : PySem.W.Frag) : AlX := (obsB K, dfs.map fun d => fnW K d.at_, errs.map fun d => fnI K d.name)
def valX : AlX := (true, dfs.map DefD.val, errs.map ErrD.val)
def asX (g : Addr → Option Obj) : List Addr := asD g 4 ++ [cStatics, sysModules]
def obsXG (g : Addr → Option Obj) : AlX := obsX (frG g (asX g))
def hookX : PySem.W.Hook where
  α := AlX
  obs := fun s => obsXG s.heap.get?
  val := fun _ => valX
  says := fun _ h => ∃ K : PySem.W.Frag, K.In h ∧ obsX K = valX
  of := fun _ _ e => ⟨_, frG_in, e⟩
  keeps := fun _ _ _ ⟨K, hK, c⟩ k => ⟨K, PySem.W.Frag.In.keeps hK k, c⟩
abbrev R : PySem.W.OpenRow := PySem.W.OpenLaw.row PySem.Challenge.rw_kindspreads_k01_errors_made
def ob (s : PySem.W.SharedT) : AlX := obsXG (HandSHeadRun.getT s)
theorem ob_eq (s : PySem.W.SharedT) : ob s = hookX.obs s.abs := by
  have e : HandSHeadRun.getT s = s.abs.heap.get? := funext fun a => HandSHeadRun.getT_eq s a
  show obsXG (HandSHeadRun.getT s) = obsXG s.abs.heap.get?
  rw [e]
def names1 : List Str := ["SpreadError", "InvalidTable", "InvalidKinds", "InvalidKind", "InvalidMap", "InvalidTriples", "InvalidRule", "InvalidThings", "InvalidBook", "InvalidTerm", "InvalidTerms", "InvalidWord", "InvalidCount", "InvalidPrices", "InvalidHolding", "InvalidWorld", "InvalidInputs", "InvalidLines", "InvalidProgram", "InvalidFolding", "InvalidBench", "InvalidSpot"]
def names2 : List Str := ["InvalidScript", "InvalidText", "InvalidRecord", "Unlike", "Unsettled", "Apart", "Refused", "NothingToUndo", "NothingToRedo", "_law_purse", "_law_mixed", "_law_draw", "_law_purses", "_law_one_of", "_law_word", "_law_first", "_law_called", "_law_bare", "_law_code", "_law_is_error", "_law_right"]
def names : List Str := names1 ++ names2
end K1
set_option Elab.async false
set_option linter.all false
set_option maxRecDepth 100000
set_option maxHeartbeats 0
/-! K1run: the top by one kernel run. -/
namespace K1
theorem run (w : PySem.World) : HandSHeadRun.RunEq R (PySem.W.view R.prog [45]) hookX ob 20000 names w := by
  intro os
  kernel_rfl
end K1
set_option Elab.async false
set_option linter.all false
set_option maxRecDepth 100000
set_option maxHeartbeats 0
/-! K1z: the facts, the law holds. -/
namespace K1
open PySem PySem.Spec PyProof.Rows L2 XM Grd He
section
variable {K : PySem.W.Frag} {h : Heap} {mg : Str → Option Value} {P : Program} {w : World} {f : Addr}
theorem nmAt_mem : ∀ i, i < 31 → nmAt i ∈ nms := by decide +kernel
theorem nmAt_28 : ∀ i, 28 ≤ i → i < 31 → nmAt i ∈ (["NothingToUndo", "NothingToRedo", "SpreadError"] : List Str) := by
  have z : ∀ i, i < 31 → 28 ≤ i → nmAt i ∈ (["NothingToUndo", "NothingToRedo", "SpreadError"] : List Str) := by decide +kernel
  exact fun i a b => z i b a
theorem kit_ve : PySem.W.kitMeta "ValueError" = true := by decide +kernel
structure Ob (K : PySem.W.Frag) : Prop where
  dfs : ∀ (i : Nat) (d : DefD), K1.dfs[i]? = some d → ∃ fd, FunD K d.name d.qual d.params d.body d.scope (d.dvs K) (d.kws K) (fAd K d.at_) fd
  glo : ∀ x ∈ glos, (Fa.glo x).ok K = true
  free : ∀ x ∈ frees, (Fa.free x).ok K = true
  law : (Fa.glo "law").ok K = true
  sup : (Fa.free "super").ok K = true
  err : ∀ i, i < 28 → xB K (nmAt i) = true ∧ fnI K (nmAt i) = (eD i).val
  cls : ∀ x ∈ nms, (Fa.glo x).ok K = true ∧ askB K x = true ∧ mroB K x = true
  exc : ∀ x ∈ (["NothingToUndo", "NothingToRedo", "SpreadError"] : List Str), (Fa.exc x).ok K = true
  sys : (K.lookup sysModules).isSome = true
  opq : PySem.W.nsIn K cStatics "thirdparty.any" = some none
  cg : PySem.W.specialIn K (.builtin "object.__class__") "__get__" = some (some (.builtin "getset_descriptor.__get__"))
  ct : PySem.W.takesIn K (.builtin "object.__class__") = some true
  nd : (nms.map (ga K)).Nodup
theorem ob_of (e : obsX K = valX) : Ob K := by
  have e1 : obsB K = true := congrArg (fun z : AlX => z.1) e
  have e2 : (dfs.map fun d => fnW K d.at_) = dfs.map DefD.val := congrArg (fun z : AlX => z.2.1) e
  have e3 : (errs.map fun d => fnI K d.name) = errs.map ErrD.val := congrArg (fun z : AlX => z.2.2) e
  unfold obsB at e1
  obtain ⟨h1, e1⟩ := ba e1
  obtain ⟨h2, e1⟩ := ba e1
  obtain ⟨h3, e1⟩ := ba e1
  obtain ⟨h4, e1⟩ := ba e1
  obtain ⟨h5, e1⟩ := ba e1
  obtain ⟨h6, e1⟩ := ba e1
  obtain ⟨h7, e1⟩ := ba e1
  obtain ⟨h8, e1⟩ := ba e1
  obtain ⟨h9, e1⟩ := ba e1
  obtain ⟨h10, e1⟩ := ba e1
  obtain ⟨h11, e1⟩ := ba e1
  obtain ⟨h12, h13⟩ := ba e1
  refine ⟨fun i d hi => ?_, List.all_eq_true.mp h2, List.all_eq_true.mp h3, h4, h5, fun i hi => ?_, fun x hx => ?_, List.all_eq_true.mp h8, h9, eqO_ok h10, eqO_ok h11, of_decide_eq_true h12, of_decide_eq_true h13⟩
  · have z : (dfs.map fun d => fnW K d.at_)[i]? = (dfs.map DefD.val)[i]? := by rw [e2]
    rw [List.getElem?_map, List.getElem?_map, hi] at z
    exact DefD.funD (Option.some.inj z) (List.all_eq_true.mp h1 d (List.mem_of_getElem? hi))
  · have hi' : errs[i]? = some (eD i) := by
      unfold errs
      rw [List.getElem?_map, List.getElem?_range hi]
      rfl
    have z : (errs.map fun d => fnI K d.name)[i]? = (errs.map ErrD.val)[i]? := by rw [e3]
    rw [List.getElem?_map, List.getElem?_map, hi'] at z
    exact ⟨List.all_eq_true.mp h6 (eD i) (List.mem_of_getElem? hi'), Option.some.inj z⟩
  · obtain ⟨a, b⟩ := ba (List.all_eq_true.mp h7 x hx)
    obtain ⟨b, c⟩ := ba b
    exact ⟨a, b, c⟩
/-- the classes by their places -/
def ci (K : PySem.W.Frag) (i : Nat) : Addr := ga K (nmAt i)
theorem ci_inj (o : Ob K) {i j : Nat} (hi : i < 31) (hj : j < 31) (e : ci K i = ci K j) : i = j := by
  have l : (nms.map (ga K)).length = 31 := by simp [nms]
  have g : ∀ i (hi : i < 31), (nms.map (ga K))[i]? = some (ci K i) := fun i hi => by
    rw [List.getElem?_map]
    unfold ci nmAt
    rw [List.getD_eq_getElem?_getD]
    have h2 : i < nms.length := hi
    rw [List.getElem?_eq_getElem h2]
    rfl
  have z := g i hi
  rw [e, ← g j hj] at z
  exact (List.getElem?_inj (by rw [l]; exact hi) o.nd).mp z
theorem mro_of (o : Ob K) {i : Nat} (hi : i < 31) : ∃ cd, PySem.W.clsIn K (ci K i) = some cd ∧ cd.mro = .ref (ci K i) :: (if i = 30 then PySem.HandSPX.veTail else .ref (ci K 30) :: PySem.HandSPX.veTail) := by
  have h := of_decide_eq_true (show decide _ = true from (o.cls _ (nmAt_mem i hi)).2.2)
  obtain ⟨cd, h1, h2⟩ := Option.map_eq_some_iff.mp h
  refine ⟨cd, h1, ?_⟩
  rw [h2]
  show Value.ref (ci K i) :: (if ci K i = ci K 30 then _ else _) = _
  by_cases hz : i = 30
  · rw [if_pos (by rw [hz]), if_pos hz]
  · rw [if_neg (fun z => hz (ci_inj o hi (by decide) z)), if_neg hz]
    rfl
theorem sub_of (o : Ob K) {i : Nat} (hi : i < 31) (b : Value) : PySem.W.subIn K (.ref (ci K i)) b = some ((Value.ref (ci K i) :: (if i = 30 then PySem.HandSPX.veTail else .ref (ci K 30) :: PySem.HandSPX.veTail)).contains b) := by
  obtain ⟨cd, h1, h2⟩ := mro_of o hi
  show PySem.W.mroIn K (ci K i) b = _
  unfold PySem.W.mroIn
  rw [h1]
  show (if cd.mro.isEmpty = true then none else some (cd.mro.contains b)) = _
  rw [h2]
  rfl
theorem kit_of_sub (o : Ob K) {i j : Nat} (hi : i < 31) (hj : j < 31) : PySem.W.kitOne K (.ref (ci K i)) (.ref (ci K j)) = some (decide (i = j) || decide (j = 30)) := by
  unfold PySem.W.kitOne
  by_cases e : i = j
  · subst e
    rw [if_pos (beq_self_eq_true _), decide_eq_true rfl, Bool.true_or]
  · have ne : ci K i ≠ ci K j := fun z => e (ci_inj o hi hj z)
    have nb : ((Value.ref (ci K i)) == (Value.ref (ci K j))) = false := beq_eq_false_iff_ne.mpr fun z => ne (Value.ref.inj z)
    rw [if_neg (by rw [nb]; exact Bool.false_ne_true)]
    have c := (o.cls _ (nmAt_mem j hj)).2.1
    unfold askB at c
    obtain ⟨c1, c⟩ := ba c
    obtain ⟨c2, c⟩ := ba c
    obtain ⟨c3, c⟩ := ba c
    obtain ⟨c4, c⟩ := ba c
    obtain ⟨c5, c⟩ := ba c
    obtain ⟨c6, c⟩ := ba c
    obtain ⟨c7, c8⟩ := ba c
    have ty : PySem.W.typeIn K (.ref (ci K j)) = some (.type "type") := of_decide_eq_true c8
    have cl : (PySem.W.clsIn K (ci K j)).isSome = true := c1
    show (if ((PySem.W.clsIn K (ci K j)).isSome && PySem.W.typeIn K (.ref (ci K j)) == some (.type "type")) = true then PySem.W.subIn K (.ref (ci K i)) (.ref (ci K j)) else none) = _
    rw [cl, ty, beq_self_eq_true, if_pos (by rfl), sub_of o hi, decide_eq_false e, Bool.false_or]
    congr 1
    have nb2 : ((Value.ref (ci K j)) == (Value.ref (ci K i))) = false := beq_eq_false_iff_ne.mpr fun z => ne (Value.ref.inj z).symm
    have vt : PySem.HandSPX.veTail.contains (Value.ref (ci K j)) = false := by
      simp [PySem.HandSPX.veTail]
    by_cases e30 : j = 30
    · subst e30
      rw [decide_eq_true rfl, if_neg e]
      simp
    · have n30 : ((Value.ref (ci K j)) == (Value.ref (ci K 30))) = false := beq_eq_false_iff_ne.mpr fun z => e30 (ci_inj o hj (by decide) (Value.ref.inj z))
      rw [decide_eq_false e30]
      split
      · rw [List.contains_cons, nb2, vt]; rfl
      · rw [List.contains_cons, List.contains_cons, nb2, n30, vt]; rfl
theorem kit_err (o : Ob K) {i : Nat} (hi : i < 31) : PySem.W.kitOne K (.ref (ci K i)) (.type "ValueError") = some true := by
  unfold PySem.W.kitOne
  rw [if_neg (by rw [show ((Value.ref (ci K i)) == (Value.type "ValueError")) = false from beq_eq_false_iff_ne.mpr fun z => nomatch z]; exact Bool.false_ne_true)]
  show (if PySem.W.kitMeta "ValueError" = true then PySem.W.subIn K (.ref (ci K i)) (.type "ValueError") else none) = _
  rw [if_pos kit_ve, sub_of o hi]
  congr 1
  split
  · simp [PySem.HandSPX.veTail]
  · simp [PySem.HandSPX.veTail]
theorem tab_of (X : K.In h) (G : h.Ns mainGlobals mg) (o : Ob K) (hf : (P.main.file : Str) = fl) (hp : (P.main.scope.names.lookup ("super" : Str)).isSome = false) : Tab P K mg (ci K) := by
  have tx : ∀ i, i < 28 → PySem.XM.XTxt P K (ci K i) (ma K (ci K i) "__init__") := fun i hi =>
    xB_ok (d := eD i) hf hp (eqO_ok o.sup) o.opq (o.err i hi).1 (o.err i hi).2
  refine ⟨fun i hi => He.glo_ok X G (o.cls _ (nmAt_mem i hi)).1, fun i hi => ⟨_, tx i hi⟩, fun i hi => askB_ok o.cg o.ct (o.cls _ (nmAt_mem i hi)).2.1, fun i hi => (tx i hi).noV, fun i j hi hj => ?_, fun i hi => ?_, fun i hi => kit_err o hi, fun i h28 hi => ?_⟩
  · rw [kit_of_sub o hi (by omega), decide_eq_false (show ¬ j = 30 by omega), Bool.or_false]
  · rw [kit_of_sub o hi (by decide), decide_eq_true (show (30 : Nat) = 30 from rfl), Bool.or_true]
  · have z := He.exc_ok (o.exc _ (nmAt_28 i h28 hi))
    exact ⟨z.1, z.2.1⟩
theorem facts (X : K.In h) (G : h.Ns mainGlobals mg) (hfa : mg ("law" : Str) = some (.ref f)) (o : Ob K) (hf : (P.main.file : Str) = fl) (hp : (P.main.scope.names.lookup ("super" : Str)).isSome = false) :
    ∃ fd : FuncData, (∀ (s : Shared) (v : Value), BindsTo s fd ⟨[v], []⟩ [("_law_script", v)]) ∧ ∀ base : Heap, K.In base → base.Ns mainGlobals mg → FnG P w K mg base 4 f fd ["_law_script"] (spLaw K) := by
  obtain ⟨d0, F0⟩ := o.dfs 0 _ rfl
  obtain ⟨d1, F1⟩ := o.dfs 1 _ rfl
  obtain ⟨d2, F2⟩ := o.dfs 2 _ rfl
  obtain ⟨d3, F3⟩ := o.dfs 3 _ rfl
  obtain ⟨d4, F4⟩ := o.dfs 4 _ rfl
  obtain ⟨d5, F5⟩ := o.dfs 5 _ rfl
  obtain ⟨d6, F6⟩ := o.dfs 6 _ rfl
  obtain ⟨d7, F7⟩ := o.dfs 7 _ rfl
  obtain ⟨d8, F8⟩ := o.dfs 8 _ rfl
  obtain ⟨d9, F9⟩ := o.dfs 9 _ rfl
  obtain ⟨d10, F10⟩ := o.dfs 10 _ rfl
  obtain ⟨d11, F11⟩ := o.dfs 11 _ rfl
  obtain ⟨d12, F12⟩ := o.dfs 12 _ rfl
  have e := hfa.symm.trans (He.glo_ok X G o.law)
  cases e
  have T := tab_of (P := P) X G o hf hp
  let dm : Str → FuncData := fun x => if x = "_law_purse" then d0 else if x = "_law_mixed" then d1 else if x = "_law_draw" then d2 else if x = "_law_purses" then d3 else if x = "_law_one_of" then d4 else if x = "_law_word" then d5 else
    if x = "_law_first" then d6 else if x = "_law_called" then d7 else if x = "_law_bare" then d8 else if x = "_law_code" then d9 else if x = "_law_is_error" then d10 else d11
  have GL : Glb K mg (ga K) dm := ⟨F0, F1, F2, F3, F4, F5, F6, F7, F8, F9, F10, F11, fun x hx => He.glo_ok X G (o.glo x hx), fun x hx => He.free_ok X G (o.free x hx)⟩
  have b := FunD.bindsA (ps := ["_law_script"]) F12 fun _ _ _ _ _ _ us hl => match us, hl with | [_], _ => rfl
  exact ⟨d12, fun s v => b s [v] rfl, fun base _ _ => ok_law F12 T o.sys GL⟩
end
end K1
open PySem PySem.W PySem.Calls PyProof.Rows
theorem PySem.Challenge.cw_kindspreads_k01_errors_made_holds : PySem.Challenge.rw_kindspreads_k01_errors_made.Holds := by
  w_on; o_law
  refine HandSHeadRun.head_any (r := K1.R) (q := view K1.R.prog [45]) (H := K1.hookX) (ob := K1.ob) (M := 20000) (loose := K1.names) (d := HandSHeadRun.topDef K1.R.prog 45) (kwd := []) K1.ob_eq
    (by kernel_rfl) (fun s => by kernel_rfl) K1.run (by kernel_rfl) (by kernel_rfl) (by kernel_rfl) (by rfl) (by first | assumption | decide +kernel) (by decide +kernel) ⟨rfl, rfl, rfl, rfl, rfl, by decide +kernel⟩ ?hw ?hc
  case hw => w_witness2
  case hc =>
    refine Grd.walk_G (l := PySem.Challenge.rw_kindspreads_k01_errors_made) (n := 63) (k := 4) (x := "_law_script") rfl (by decide) (by kernel_rfl) ⟨⟨rfl, by decide, by decide⟩, rfl⟩ ?F
    intro w mg fa h Y G hmg0
    obtain ⟨K, KX, c⟩ := Y
    have hmg : mg ("law" : PySem.Str) = some (.ref fa) := by
      have e : (HandSHeadRun.topDef K1.R.prog 45).name = ("law" : PySem.Str) := by kernel_rfl
      rw [← e]
      exact hmg0
    obtain ⟨fd, hb, hF⟩ := K1.facts (P := (PySem.Challenge.rw_kindspreads_k01_errors_made).prog) (w := w) KX G hmg (K1.ob_of c) (by rfl) (by decide +kernel)
    exact ⟨K, fd, K1.spLaw K, KX, hb, fun H a ns hl _ hS => ⟨a, ns, rfl, hS, hl, fun _ => rfl⟩, hF⟩
